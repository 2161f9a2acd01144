import PyProof.Rows.All
import Wide.All
import OpenK.AllK
import Wide.FinOn
import HandS.ForMost
import HandS.DictComp
import HandS.Property
import HandS.ClsMeth
import HandS.IsInst
import HandS.OwnEq
import HandS.Wide
import HandS.WideMore
import HandS.Style
import HandS.CallLocal
import HandS.More
import HandS.Conv
import HandS.ListItems
import HandS.DictTup
import HandS.Evl
import PySem.Challenge.RW_chainmaps_k25_whole_roots_counted_togeth
import KE.KStateDown
import Lean
import HandS.Codes
import HandS.Head0
import HandS.Head1
import HandS.Head2
import HandS.HeadEnd
import HandS.HeadHook1
set_option Elab.async false
set_option linter.all false
set_option maxRecDepth 100000
set_option maxHeartbeats 2000000
/-! rules that the layer lacks: a class called by a local name, len of an own instance, d.update(d2), x *= y of great ints -/
namespace Ck
open PySem PySem.Spec PyProof.Rows L2
section
variable {X : Cx} {CX : CXT} {k i : Nat} {f C : Addr} {fd : FuncData} {ps : List Str} {sp : Sp} {dvs : List V} {ds : List Value} {E : XK} {x : Str} {p pos : Pos} {e : Expr} {es : List Expr} {t : TA}
/-- cls(..): the i-th slot holds the class at C -/
def tMkL (i : Nat) (C : Addr) (sp : Sp) (dvs : List V) (E : XK) (t : TA) : TE := fun σ H Q => σ[i]? = some (some (.ref C)) ∧ tMake C sp dvs E t σ H Q
theorem pe_mkL (M : Mk X.K C f) (F : FnOk X.prog X.w X.K X.mg X.base CX k f fd ps sp) (hr : Room (k + 1) X.A) (hN : X.N[i]? = some x) (hv : Vis X.env.scope x) (hb : Binds X.K fd ps ds) (hd : Vals dvs ds) (hx : Passes CX X E) (ha : PA X (e :: es) t)
    (hdb : (x == ("__debug__" : Str)) = false := by decide) (hcd : (x == ("__classdict__" : Str)) = false := by decide)
    (he : starEach (e :: es) X.env = (false, eval e X.env) :: starEach es X.env := by rfl) (hpl : (backTo pos (starEach es X.env)).any (·.1) = false := by rfl) :
    PE X (.Call (.Name x p) (e :: es) [] pos) (tMkL i C sp dvs E t) := by
  refine ⟨fun pins s σ H Q I h => ?_⟩
  obtain ⟨hs, ht⟩ := h
  refine wpAny_Call_Name_kw (thn ((pe_var (pos := p) hN hv hdb hcd).run pins s σ H (fun v H1 => v = .ref C ∧ H1 = H) I ⟨.ref C, hs, rfl, rfl⟩) fun u s1 q => ?_)
  obtain ⟨v, H1, I1, r1, rfl, rfl⟩ := q
  cases r1
  exact PySem.W.callWith_K (h₀ := X.base) I.ok.mod.kin M.kp (thn (ha.run pos pins s1 σ _ _ I1 ht) fun us s2 q => by
    obtain ⟨vs, H2, I2, r, q⟩ := q
    exact ⟨I2.kIn, run_make M F hr hb hd hx I2 r q⟩) he hpl
/-- len(o), o an own instance: what its own __len__ says -/
def rLenI (C : Addr) (sp : Sp) : List V → Hp → VK → Prop := fun xs H Q => ∃ (a dx : Addr) (fs : List (Str × V)), xs = [.ref a] ∧ H a = some (.ins C dx fs) ∧
  sp [.ref a] H (fun v H' => ∃ n : Int, v = .int n ∧ 0 ≤ n ∧ n < 2 ^ 63 ∧ Q (.int n) H') (fun _ _ _ => False)
theorem call_lenI (F : FnOk X.prog X.w X.K X.mg X.base CX0 k f fd ps sp) (hr : Room (k + 1) X.A) (hs : PySem.W.findIn X.K (.ref C) "__len__" = some (some (.ref f))) (hf : PySem.W.isFn X.K (.ref f) = true) (hb : Binds X.K fd ps []) :
    CallR X (.builtin "len") (rLenI C sp) := by
  intro pins s σ H xs us Q I r h
  obtain ⟨a, dx, fs, rfl, ha, h⟩ := h
  obtain ⟨u, rfl, ru⟩ := vals1 r
  cases ru
  obtain ⟨mA, J, _⟩ := ins_get I.hok ha
  obtain ⟨od, J, _⟩ := J.look
  obtain ⟨m, hF⟩ := I.fr
  refine PySem.W.len_K hF I.ok.mod.kin J hs hf ?_
  have hl := F.len _ _ _ _ h
  have hbn := hb s [.ref a] I.kIn (by simpa using hl)
  refine wpAny_call (codeAny_mono (F.run X.A.in1 X.stack s H ⟨[.ref a], []⟩ [.ref a] [.ref a] _ (fun _ _ _ => False) hr.in1 I.env0.in1 (by simpa using hbn) (.cons rfl .nil) h) fun r s' hq => ?_)
  cases r with
  | error er => exact False.elim hq
  | ok fl =>
    cases fl with
    | ret w =>
      obtain ⟨z, H', I', rz, n, ez, h0, h1, q⟩ := I.after hq
      subst ez
      obtain ⟨tk, rfl⟩ := rz
      exact ⟨⟨h0, h1⟩, .int n, H', I'.tok _, ⟨_, rfl⟩, q⟩
    | next => exact False.elim hq
    | brk => exact False.elim hq
    | cont => exact False.elim hq
end
section
variable {X : Cx}
/-- d.update(d2) -/
def rUpd : V → List V → Hp → VK → Prop := fun x vs H Q => ∃ (a b : Addr) (kvs more : List (Key × V)), x = .ref a ∧ vs = [.ref b] ∧ H a = some (.dK kvs) ∧ H b = some (.dK more) ∧ a ≠ b ∧ kvs.length + more.length ≤ sizeLine ∧
  Q .non (upd H a (.dK (mergeK kvs more)))
theorem mt_upd : MtR X "dict.update" rUpd := by
  intro pins s σ H x vs v us Q I rx rv h
  obtain ⟨a, b, kvs, more, rfl, rfl, ha, hb, ne, hz, q⟩ := h
  cases rx
  obtain ⟨u, rfl, ru⟩ := vals1 rv
  cases ru
  obtain ⟨z, hd, ws, rel, dd⟩ := dk_of I.hok ha
  obtain ⟨z2, hd2, ws2, rel2, dd2⟩ := dk_of I.hok hb
  refine call_meetsIn PySem.F.slot_dict_update dd.typeIs PySem.F.entry_dict_update (PySem.F.args_dict_update_2 _ _) (meets_dict_update (mixKind X.prog X.w) a b ne hd2) ⟨ws, ws2, dd, dd2, by rw [← rel.length, ← rel2.length]; exact hz, fun h' dd' dd2' hs => ?_⟩
  have he : ∃ q, h'.get? a = some q := let ⟨q, _, _, hq, _⟩ := dd'; ⟨q, hq⟩
  exact ⟨.non, _, d_write (t' := s.toks) I (by rw [ha]; exact True.intro) hs he (dk_new (Nat.le_trans (length_mergeK _ _) hz) hd (KV.merge rel2 rel) dd'), rfl, q⟩
theorem iop_mulW : OpR X (inplaceOp .Mult) (rI CMulW fun i j => .int (i * j)) := opI fun _ _ _ _ _ _ _ hc q => imul_int q hc.ok
end
end Ck
set_option maxHeartbeats 2000000
/-! written by gen_text.py: the text by places, the slots of each def -/
namespace Ck
open PySem PySem.Spec PyProof.Rows L2
def top (i : Nat) : Stmt := PySem.Challenge.pw_chainmaps_k25_whole_roots_counted_togeth.main.body.getD i (.Pass ⟨0, 0, 0, 0⟩)
abbrev s_is_integer : Stmt := top 13
abbrev N_is_integer : List Str := ["value"]
theorem sc_is_integer : FnScope N_is_integer ["value"] (defScope s_is_integer) := ⟨rfl, rfl, rfl, by decide +kernel, rfl, by decide +kernel, by decide +kernel⟩
abbrev s_in_range : Stmt := top 14
abbrev N_in_range : List Str := ["value", "least", "most"]
theorem sc_in_range : FnScope N_in_range ["value", "least", "most"] (defScope s_in_range) := ⟨rfl, rfl, rfl, by decide +kernel, rfl, by decide +kernel, by decide +kernel⟩
abbrev s_check_size : Stmt := top 15
abbrev N_check_size : List Str := ["size"]
theorem sc_check_size : FnScope N_check_size ["size"] (defScope s_check_size) := ⟨rfl, rfl, rfl, by decide +kernel, rfl, by decide +kernel, by decide +kernel⟩
abbrev s_are_arrows : Stmt := top 17
abbrev N_are_arrows : List Str := ["size", "arrows", "targets", "source", "target"]
theorem sc_are_arrows : FnScope N_are_arrows ["size", "arrows"] (defScope s_are_arrows) := ⟨rfl, rfl, rfl, by decide +kernel, rfl, by decide +kernel, by decide +kernel⟩
abbrev s_row_from : Stmt := top 19
abbrev N_row_from : List Str := ["arrows", "element", "row"]
theorem sc_row_from : FnScope N_row_from ["arrows", "element"] (defScope s_row_from) := ⟨rfl, rfl, rfl, by decide +kernel, rfl, by decide +kernel, by decide +kernel⟩
abbrev s_Map_init : Stmt := inClass (top 21) 0
abbrev N_Map_init : List Str := ["self", "size", "arrows", "source"]
theorem sc_Map_init : FnScope N_Map_init ["self", "size", "arrows"] (defScope s_Map_init) := ⟨rfl, rfl, rfl, by decide +kernel, rfl, by decide +kernel, by decide +kernel⟩
abbrev s_Map_identity : Stmt := inClass (top 21) 1
abbrev N_Map_identity : List Str := ["cls", "size", "element"]
theorem sc_Map_identity : FnScope N_Map_identity ["cls", "size"] (defScope s_Map_identity) := ⟨rfl, rfl, rfl, by decide +kernel, rfl, by decide +kernel, by decide +kernel⟩
abbrev s_Map_empty : Stmt := inClass (top 21) 2
abbrev N_Map_empty : List Str := ["cls", "size"]
theorem sc_Map_empty : FnScope N_Map_empty ["cls", "size"] (defScope s_Map_empty) := ⟨rfl, rfl, rfl, by decide +kernel, rfl, by decide +kernel, by decide +kernel⟩
abbrev s_Map_size : Stmt := inClass (top 21) 6
abbrev N_Map_size : List Str := ["self"]
theorem sc_Map_size : FnScope N_Map_size ["self"] (defScope s_Map_size) := ⟨rfl, rfl, rfl, by decide +kernel, rfl, by decide +kernel, by decide +kernel⟩
abbrev s_Map_arrows : Stmt := inClass (top 21) 7
abbrev N_Map_arrows : List Str := ["self"]
theorem sc_Map_arrows : FnScope N_Map_arrows ["self"] (defScope s_Map_arrows) := ⟨rfl, rfl, rfl, by decide +kernel, rfl, by decide +kernel, by decide +kernel⟩
abbrev s_Map_len : Stmt := inClass (top 21) 24
abbrev N_Map_len : List Str := ["self"]
theorem sc_Map_len : FnScope N_Map_len ["self"] (defScope s_Map_len) := ⟨rfl, rfl, rfl, by decide +kernel, rfl, by decide +kernel, by decide +kernel⟩
abbrev s_check_map : Stmt := top 24
abbrev N_check_map : List Str := ["value"]
theorem sc_check_map : FnScope N_check_map ["value"] (defScope s_check_map) := ⟨rfl, rfl, rfl, by decide +kernel, rfl, by decide +kernel, by decide +kernel⟩
abbrev s_greatest_divisor : Stmt := top 26
abbrev N_greatest_divisor : List Str := ["one", "other"]
theorem sc_greatest_divisor : FnScope N_greatest_divisor ["one", "other"] (defScope s_greatest_divisor) := ⟨rfl, rfl, rfl, by decide +kernel, rfl, by decide +kernel, by decide +kernel⟩
abbrev s_largest : Stmt := top 27
abbrev N_largest : List Str := ["numbers", "least", "found", "number"]
theorem sc_largest : FnScope N_largest ["numbers", "least"] (defScope s_largest) := ⟨rfl, rfl, rfl, by decide +kernel, rfl, by decide +kernel, by decide +kernel⟩
abbrev s_factorial : Stmt := top 28
abbrev N_factorial : List Str := ["number", "found", "factor"]
theorem sc_factorial : FnScope N_factorial ["number"] (defScope s_factorial) := ⟨rfl, rfl, rfl, by decide +kernel, rfl, by decide +kernel, by decide +kernel⟩
abbrev s_power_of : Stmt := top 29
abbrev N_power_of : List Str := ["base", "exponent", "found", "turn"]
theorem sc_power_of : FnScope N_power_of ["base", "exponent"] (defScope s_power_of) := ⟨rfl, rfl, rfl, by decide +kernel, rfl, by decide +kernel, by decide +kernel⟩
abbrev s_parts_of : Stmt := top 30
abbrev N_parts_of : List Str := ["given", "arrows", "targets", "cycles", "chains", "seen", "element", "target", "one"]
theorem sc_parts_of : FnScope N_parts_of ["given"] (defScope s_parts_of) := ⟨rfl, rfl, rfl, by decide +kernel, rfl, by decide +kernel, by decide +kernel⟩
abbrev s_are_counts : Stmt := top 31
abbrev N_are_counts : List Str := ["value", "one", "number"]
theorem sc_are_counts : FnScope N_are_counts ["value"] (defScope s_are_counts) := ⟨rfl, rfl, rfl, by decide +kernel, rfl, by decide +kernel, by decide +kernel⟩
abbrev s_ordered : Stmt := top 32
abbrev N_ordered : List Str := ["counts", "length"]
theorem sc_ordered : FnScope N_ordered ["counts"] (defScope s_ordered) := ⟨rfl, rfl, rfl, by decide +kernel, rfl, by decide +kernel, by decide +kernel⟩
abbrev s_Shape_init : Stmt := inClass (top 36) 0
abbrev N_Shape_init : List Str := ["self", "cycles", "chains"]
theorem sc_Shape_init : FnScope N_Shape_init ["self", "cycles", "chains"] (defScope s_Shape_init) := ⟨rfl, rfl, rfl, by decide +kernel, rfl, by decide +kernel, by decide +kernel⟩
abbrev s_Shape_cycles : Stmt := inClass (top 36) 1
abbrev N_Shape_cycles : List Str := ["self"]
theorem sc_Shape_cycles : FnScope N_Shape_cycles ["self"] (defScope s_Shape_cycles) := ⟨rfl, rfl, rfl, by decide +kernel, rfl, by decide +kernel, by decide +kernel⟩
abbrev s_Shape_chains : Stmt := inClass (top 36) 2
abbrev N_Shape_chains : List Str := ["self"]
theorem sc_Shape_chains : FnScope N_Shape_chains ["self"] (defScope s_Shape_chains) := ⟨rfl, rfl, rfl, by decide +kernel, rfl, by decide +kernel, by decide +kernel⟩
abbrev s_Shape_size : Stmt := inClass (top 36) 3
abbrev N_Shape_size : List Str := ["self", "lengths", "length", "number"]
theorem sc_Shape_size : FnScope N_Shape_size ["self"] (defScope s_Shape_size) := ⟨rfl, rfl, rfl, by decide +kernel, rfl, by decide +kernel, by decide +kernel⟩
abbrev s_Shape_eq : Stmt := inClass (top 36) 7
abbrev N_Shape_eq : List Str := ["self", "other"]
theorem sc_Shape_eq : FnScope N_Shape_eq ["self", "other"] (defScope s_Shape_eq) := ⟨rfl, rfl, rfl, by decide +kernel, rfl, by decide +kernel, by decide +kernel⟩
abbrev s_counts_of : Stmt := top 37
abbrev N_counts_of : List Str := ["parts", "found", "part"]
theorem sc_counts_of : FnScope N_counts_of ["parts"] (defScope s_counts_of) := ⟨rfl, rfl, rfl, by decide +kernel, rfl, by decide +kernel, by decide +kernel⟩
abbrev s_shape_of : Stmt := top 38
abbrev N_shape_of : List Str := ["given", "cycles", "chains"]
theorem sc_shape_of : FnScope N_shape_of ["given"] (defScope s_shape_of) := ⟨rfl, rfl, rfl, by decide +kernel, rfl, by decide +kernel, by decide +kernel⟩
abbrev s_check_shape : Stmt := top 39
abbrev N_check_shape : List Str := ["value"]
theorem sc_check_shape : FnScope N_check_shape ["value"] (defScope s_check_shape) := ⟨rfl, rfl, rfl, by decide +kernel, rfl, by decide +kernel, by decide +kernel⟩
abbrev s_map_of : Stmt := top 40
abbrev N_map_of : List Str := ["shape", "arrows", "start", "closed", "counts", "length", "number", "turn", "place"]
theorem sc_map_of : FnScope N_map_of ["shape"] (defScope s_map_of) := ⟨rfl, rfl, rfl, by decide +kernel, rfl, by decide +kernel, by decide +kernel⟩
abbrev s_are_alike : Stmt := top 41
abbrev N_are_alike : List Str := ["one", "other"]
theorem sc_are_alike : FnScope N_are_alike ["one", "other"] (defScope s_are_alike) := ⟨rfl, rfl, rfl, by decide +kernel, rfl, by decide +kernel, by decide +kernel⟩
abbrev s_count_symmetries : Stmt := top 42
abbrev N_count_symmetries : List Str := ["shape", "found", "length", "number"]
theorem sc_count_symmetries : FnScope N_count_symmetries ["shape"] (defScope s_count_symmetries) := ⟨rfl, rfl, rfl, by decide +kernel, rfl, by decide +kernel, by decide +kernel⟩
abbrev s_count_renamings : Stmt := top 43
abbrev N_count_renamings : List Str := ["one", "other"]
theorem sc_count_renamings : FnScope N_count_renamings ["one", "other"] (defScope s_count_renamings) := ⟨rfl, rfl, rfl, by decide +kernel, rfl, by decide +kernel, by decide +kernel⟩
abbrev s_check_degree : Stmt := top 47
abbrev N_check_degree : List Str := ["degree"]
theorem sc_check_degree : FnScope N_check_degree ["degree"] (defScope s_check_degree) := ⟨rfl, rfl, rfl, by decide +kernel, rfl, by decide +kernel, by decide +kernel⟩
abbrev s_group_size : Stmt := top 48
abbrev N_group_size : List Str := ["length", "degree", "rest", "common"]
theorem sc_group_size : FnScope N_group_size ["length", "degree"] (defScope s_group_size) := ⟨rfl, rfl, rfl, by decide +kernel, rfl, by decide +kernel, by decide +kernel⟩
abbrev s_failing_chains : Stmt := top 49
abbrev N_failing_chains : List Str := ["chains", "degree", "used", "length", "left"]
theorem sc_failing_chains : FnScope N_failing_chains ["chains", "degree"] (defScope s_failing_chains) := ⟨rfl, rfl, rfl, by decide +kernel, rfl, by decide +kernel, by decide +kernel⟩
abbrev s_obstacle_of : Stmt := top 50
abbrev N_obstacle_of : List Str := ["shape", "degree", "length", "number", "failed"]
theorem sc_obstacle_of : FnScope N_obstacle_of ["shape", "degree"] (defScope s_obstacle_of) := ⟨rfl, rfl, rfl, by decide +kernel, rfl, by decide +kernel, by decide +kernel⟩
abbrev s_has_root : Stmt := top 51
abbrev N_has_root : List Str := ["shape", "degree"]
theorem sc_has_root : FnScope N_has_root ["shape", "degree"] (defScope s_has_root) := ⟨rfl, rfl, rfl, by decide +kernel, rfl, by decide +kernel, by decide +kernel⟩
abbrev s_choices : Stmt := top 52
abbrev N_choices : List Str := ["size", "part", "found", "turn"]
theorem sc_choices : FnScope N_choices ["size", "part"] (defScope s_choices) := ⟨rfl, rfl, rfl, by decide +kernel, rfl, by decide +kernel, by decide +kernel⟩
abbrev s_count_cycle_roots : Stmt := top 53
abbrev N_count_cycle_roots : List Str := ["length", "number", "degree", "ways", "some", "total", "size", "merged"]
theorem sc_count_cycle_roots : FnScope N_count_cycle_roots ["length", "number", "degree"] (defScope s_count_cycle_roots) := ⟨rfl, rfl, rfl, by decide +kernel, rfl, by decide +kernel, by decide +kernel⟩
abbrev s_ChainCounter_init : Stmt := inClass (top 54) 0
abbrev N_ChainCounter_init : List Str := ["self", "chains", "degree"]
theorem sc_ChainCounter_init : FnScope N_ChainCounter_init ["self", "chains", "degree"] (defScope s_ChainCounter_init) := ⟨rfl, rfl, rfl, by decide +kernel, rfl, by decide +kernel, by decide +kernel⟩
abbrev s_ChainCounter_ways : Stmt := inClass (top 54) 1
abbrev N_ChainCounter_ways : List Str := ["self", "length", "here", "below", "key"]
theorem sc_ChainCounter_ways : FnScope N_ChainCounter_ways ["self", "length", "here", "below"] (defScope s_ChainCounter_ways) := ⟨rfl, rfl, rfl, by decide +kernel, rfl, by decide +kernel, by decide +kernel⟩
abbrev s_ChainCounter_with_first : Stmt := inClass (top 54) 2
abbrev N_ChainCounter_with_first : List Str := ["self", "length", "here", "below", "degree", "total", "size", "ways", "rest", "filled"]
theorem sc_ChainCounter_with_first : FnScope N_ChainCounter_with_first ["self", "length", "here", "below"] (defScope s_ChainCounter_with_first) := ⟨rfl, rfl, rfl, by decide +kernel, rfl, by decide +kernel, by decide +kernel⟩
abbrev s_count_roots : Stmt := top 55
abbrev N_count_roots : List Str := ["given", "degree", "shape", "found", "length", "number", "longest", "counter"]
theorem sc_count_roots : FnScope N_count_roots ["given", "degree"] (defScope s_count_roots) := ⟨rfl, rfl, rfl, by decide +kernel, rfl, by decide +kernel, by decide +kernel⟩
abbrev s_count_extensions : Stmt := top 57
abbrev N_count_extensions : List Str := ["given", "arrows", "more", "free"]
theorem sc_count_extensions : FnScope N_count_extensions ["given", "arrows"] (defScope s_count_extensions) := ⟨rfl, rfl, rfl, by decide +kernel, rfl, by decide +kernel, by decide +kernel⟩
abbrev s_law_hand : Stmt := top 59
abbrev N_law_hand : List Str := ["_law_script", "_law_k", "_law_cell", "_law_seed"]
theorem sc_law_hand : FnScope N_law_hand ["_law_script", "_law_k"] (defScope s_law_hand) := ⟨rfl, rfl, rfl, by decide +kernel, rfl, by decide +kernel, by decide +kernel⟩
abbrev s_law_draw : Stmt := top 60
abbrev N_law_draw : List Str := ["_law_pool", "_law_size", "_law_found"]
theorem sc_law_draw : FnScope N_law_draw ["_law_pool", "_law_size"] (defScope s_law_draw) := ⟨rfl, rfl, rfl, by decide +kernel, rfl, by decide +kernel, by decide +kernel⟩
abbrev s_law_splits : Stmt := top 61
abbrev N_law_splits : List Str := ["_law_size", "_law_most", "_law_found", "_law_length", "_law_rest", "_law_some"]
theorem sc_law_splits : FnScope N_law_splits ["_law_size", "_law_most"] (defScope s_law_splits) := ⟨rfl, rfl, rfl, by decide +kernel, rfl, by decide +kernel, by decide +kernel⟩
abbrev s_law_shapes : Stmt := top 62
abbrev N_law_shapes : List Str := ["_law_size", "_law_found", "_law_part", "_law_cycles", "_law_chains"]
theorem sc_law_shapes : FnScope N_law_shapes ["_law_size"] (defScope s_law_shapes) := ⟨rfl, rfl, rfl, by decide +kernel, rfl, by decide +kernel, by decide +kernel⟩
abbrev s_law_product : Stmt := top 63
abbrev N_law_product : List Str := ["_law_number", "_law_found", "_law_factor"]
theorem sc_law_product : FnScope N_law_product ["_law_number"] (defScope s_law_product) := ⟨rfl, rfl, rfl, by decide +kernel, rfl, by decide +kernel, by decide +kernel⟩
abbrev s_law_rows : Stmt := top 64
abbrev N_law_rows : List Str := ["_law_most", "_law_found", "_law_size", "_law_total", "_law_factor", "_law_part"]
theorem sc_law_rows : FnScope N_law_rows ["_law_most"] (defScope s_law_rows) := ⟨rfl, rfl, rfl, by decide +kernel, rfl, by decide +kernel, by decide +kernel⟩
abbrev s_law_known : Stmt := top 65
abbrev N_law_known : List Str := ["_law_pairs", "_law_size", "_law_degree", "_law_odd", "_law_number"]
theorem sc_law_known : FnScope N_law_known [] (defScope s_law_known) := ⟨rfl, rfl, rfl, by decide +kernel, rfl, by decide +kernel, by decide +kernel⟩
abbrev s_law : Stmt := top 66
abbrev N_law : List Str := ["_law_script", "_law_k", "_law_pool", "_law_size", "_law_degree", "_law_number", "_law_total", "_law_maps", "_law_together", "_law_formed", "_law_given", "_law_many"]
theorem sc_law : FnScope N_law ["_law_script"] (defScope s_law) := ⟨rfl, rfl, rfl, by decide +kernel, rfl, by decide +kernel, by decide +kernel⟩
/-- where a def stands: a name of the module; a method, a property's getter, a classmethod's def -/
inductive Pth where
  | glo (x : Str) | met (x m : Str) | prp (x m : Str) | cmt (x m : Str)
structure Df where
  pth : Pth
  nm : Str
  ql : Str
  st : Stmt
abbrev d_is_integer : Df := ⟨.glo "is_integer", "is_integer", "is_integer", s_is_integer⟩
abbrev d_in_range : Df := ⟨.glo "in_range", "in_range", "in_range", s_in_range⟩
abbrev d_check_size : Df := ⟨.glo "check_size", "check_size", "check_size", s_check_size⟩
abbrev d_are_arrows : Df := ⟨.glo "are_arrows", "are_arrows", "are_arrows", s_are_arrows⟩
abbrev d_row_from : Df := ⟨.glo "row_from", "row_from", "row_from", s_row_from⟩
abbrev d_Map_init : Df := ⟨.met "Map" "__init__", "__init__", "Map.__init__", s_Map_init⟩
abbrev d_Map_identity : Df := ⟨.cmt "Map" "identity", "identity", "Map.identity", s_Map_identity⟩
abbrev d_Map_empty : Df := ⟨.cmt "Map" "empty", "empty", "Map.empty", s_Map_empty⟩
abbrev d_Map_size : Df := ⟨.prp "Map" "size", "size", "Map.size", s_Map_size⟩
abbrev d_Map_arrows : Df := ⟨.prp "Map" "arrows", "arrows", "Map.arrows", s_Map_arrows⟩
abbrev d_Map_len : Df := ⟨.met "Map" "__len__", "__len__", "Map.__len__", s_Map_len⟩
abbrev d_check_map : Df := ⟨.glo "check_map", "check_map", "check_map", s_check_map⟩
abbrev d_greatest_divisor : Df := ⟨.glo "greatest_divisor", "greatest_divisor", "greatest_divisor", s_greatest_divisor⟩
abbrev d_largest : Df := ⟨.glo "largest", "largest", "largest", s_largest⟩
abbrev d_factorial : Df := ⟨.glo "factorial", "factorial", "factorial", s_factorial⟩
abbrev d_power_of : Df := ⟨.glo "power_of", "power_of", "power_of", s_power_of⟩
abbrev d_parts_of : Df := ⟨.glo "parts_of", "parts_of", "parts_of", s_parts_of⟩
abbrev d_are_counts : Df := ⟨.glo "are_counts", "are_counts", "are_counts", s_are_counts⟩
abbrev d_ordered : Df := ⟨.glo "ordered", "ordered", "ordered", s_ordered⟩
abbrev d_Shape_init : Df := ⟨.met "Shape" "__init__", "__init__", "Shape.__init__", s_Shape_init⟩
abbrev d_Shape_cycles : Df := ⟨.prp "Shape" "cycles", "cycles", "Shape.cycles", s_Shape_cycles⟩
abbrev d_Shape_chains : Df := ⟨.prp "Shape" "chains", "chains", "Shape.chains", s_Shape_chains⟩
abbrev d_Shape_size : Df := ⟨.prp "Shape" "size", "size", "Shape.size", s_Shape_size⟩
abbrev d_Shape_eq : Df := ⟨.met "Shape" "__eq__", "__eq__", "Shape.__eq__", s_Shape_eq⟩
abbrev d_counts_of : Df := ⟨.glo "counts_of", "counts_of", "counts_of", s_counts_of⟩
abbrev d_shape_of : Df := ⟨.glo "shape_of", "shape_of", "shape_of", s_shape_of⟩
abbrev d_check_shape : Df := ⟨.glo "check_shape", "check_shape", "check_shape", s_check_shape⟩
abbrev d_map_of : Df := ⟨.glo "map_of", "map_of", "map_of", s_map_of⟩
abbrev d_are_alike : Df := ⟨.glo "are_alike", "are_alike", "are_alike", s_are_alike⟩
abbrev d_count_symmetries : Df := ⟨.glo "count_symmetries", "count_symmetries", "count_symmetries", s_count_symmetries⟩
abbrev d_count_renamings : Df := ⟨.glo "count_renamings", "count_renamings", "count_renamings", s_count_renamings⟩
abbrev d_check_degree : Df := ⟨.glo "check_degree", "check_degree", "check_degree", s_check_degree⟩
abbrev d_group_size : Df := ⟨.glo "group_size", "group_size", "group_size", s_group_size⟩
abbrev d_failing_chains : Df := ⟨.glo "failing_chains", "failing_chains", "failing_chains", s_failing_chains⟩
abbrev d_obstacle_of : Df := ⟨.glo "obstacle_of", "obstacle_of", "obstacle_of", s_obstacle_of⟩
abbrev d_has_root : Df := ⟨.glo "has_root", "has_root", "has_root", s_has_root⟩
abbrev d_choices : Df := ⟨.glo "choices", "choices", "choices", s_choices⟩
abbrev d_count_cycle_roots : Df := ⟨.glo "count_cycle_roots", "count_cycle_roots", "count_cycle_roots", s_count_cycle_roots⟩
abbrev d_ChainCounter_init : Df := ⟨.met "ChainCounter" "__init__", "__init__", "ChainCounter.__init__", s_ChainCounter_init⟩
abbrev d_ChainCounter_ways : Df := ⟨.met "ChainCounter" "ways", "ways", "ChainCounter.ways", s_ChainCounter_ways⟩
abbrev d_ChainCounter_with_first : Df := ⟨.met "ChainCounter" "with_first", "with_first", "ChainCounter.with_first", s_ChainCounter_with_first⟩
abbrev d_count_roots : Df := ⟨.glo "count_roots", "count_roots", "count_roots", s_count_roots⟩
abbrev d_count_extensions : Df := ⟨.glo "count_extensions", "count_extensions", "count_extensions", s_count_extensions⟩
abbrev d_law_hand : Df := ⟨.glo "_law_hand", "_law_hand", "_law_hand", s_law_hand⟩
abbrev d_law_draw : Df := ⟨.glo "_law_draw", "_law_draw", "_law_draw", s_law_draw⟩
abbrev d_law_splits : Df := ⟨.glo "_law_splits", "_law_splits", "_law_splits", s_law_splits⟩
abbrev d_law_shapes : Df := ⟨.glo "_law_shapes", "_law_shapes", "_law_shapes", s_law_shapes⟩
abbrev d_law_product : Df := ⟨.glo "_law_product", "_law_product", "_law_product", s_law_product⟩
abbrev d_law_rows : Df := ⟨.glo "_law_rows", "_law_rows", "_law_rows", s_law_rows⟩
abbrev d_law_known : Df := ⟨.glo "_law_known", "_law_known", "_law_known", s_law_known⟩
abbrev d_law : Df := ⟨.glo "law", "law", "law", s_law⟩
def dfs0 : List Df := [d_is_integer, d_in_range, d_check_size, d_are_arrows, d_row_from, d_Map_init, d_Map_identity, d_Map_empty, d_Map_size, d_Map_arrows, d_Map_len, d_check_map, d_greatest_divisor, d_largest, d_factorial, d_power_of, d_parts_of, d_are_counts, d_ordered, d_Shape_init]
def dfs1 : List Df := [d_Shape_cycles, d_Shape_chains, d_Shape_size, d_Shape_eq, d_counts_of, d_shape_of, d_check_shape, d_map_of, d_are_alike, d_count_symmetries, d_count_renamings, d_check_degree, d_group_size, d_failing_chains, d_obstacle_of, d_has_root, d_choices, d_count_cycle_roots, d_ChainCounter_init, d_ChainCounter_ways]
def dfs2 : List Df := [d_ChainCounter_with_first, d_count_roots, d_count_extensions, d_law_hand, d_law_draw, d_law_splits, d_law_shapes, d_law_product, d_law_rows, d_law_known, d_law]
def dfs : List Df := dfs0 ++ dfs1 ++ dfs2
end Ck
-- 0 is_integer ['value']
-- 1 in_range ['value', 'least', 'most']
-- 2 check_size ['size']
-- 3 are_arrows ['size', 'arrows', 'targets', 'source', 'target']
-- 4 row_from ['arrows', 'element', 'row']
-- 5 Map_init ['self', 'size', 'arrows', 'source']
-- 6 Map_identity ['cls', 'size', 'element']
-- 7 Map_empty ['cls', 'size']
-- 8 Map_size ['self']
-- 9 Map_arrows ['self']
-- 10 Map_len ['self']
-- 11 check_map ['value']
-- 12 greatest_divisor ['one', 'other']
-- 13 largest ['numbers', 'least', 'found', 'number']
-- 14 factorial ['number', 'found', 'factor']
-- 15 power_of ['base', 'exponent', 'found', 'turn']
-- 16 parts_of ['given', 'arrows', 'targets', 'cycles', 'chains', 'seen', 'element', 'target', 'one']
-- 17 are_counts ['value', 'one', 'number']
-- 18 ordered ['counts', 'length']
-- 19 Shape_init ['self', 'cycles', 'chains']
-- 20 Shape_cycles ['self']
-- 21 Shape_chains ['self']
-- 22 Shape_size ['self', 'lengths', 'length', 'number']
-- 23 Shape_eq ['self', 'other']
-- 24 counts_of ['parts', 'found', 'part']
-- 25 shape_of ['given', 'cycles', 'chains']
-- 26 check_shape ['value']
-- 27 map_of ['shape', 'arrows', 'start', 'closed', 'counts', 'length', 'number', 'turn', 'place']
-- 28 are_alike ['one', 'other']
-- 29 count_symmetries ['shape', 'found', 'length', 'number']
-- 30 count_renamings ['one', 'other']
-- 31 check_degree ['degree']
-- 32 group_size ['length', 'degree', 'rest', 'common']
-- 33 failing_chains ['chains', 'degree', 'used', 'length', 'left']
-- 34 obstacle_of ['shape', 'degree', 'length', 'number', 'failed']
-- 35 has_root ['shape', 'degree']
-- 36 choices ['size', 'part', 'found', 'turn']
-- 37 count_cycle_roots ['length', 'number', 'degree', 'ways', 'some', 'total', 'size', 'merged']
-- 38 ChainCounter_init ['self', 'chains', 'degree']
-- 39 ChainCounter_ways ['self', 'length', 'here', 'below', 'key']
-- 40 ChainCounter_with_first ['self', 'length', 'here', 'below', 'degree', 'total', 'size', 'ways', 'rest', 'filled']
-- 41 count_roots ['given', 'degree', 'shape', 'found', 'length', 'number', 'longest', 'counter']
-- 42 count_extensions ['given', 'arrows', 'more', 'free']
-- 43 law_hand ['_law_script', '_law_k', '_law_cell', '_law_seed']
-- 44 law_draw ['_law_pool', '_law_size', '_law_found']
-- 45 law_splits ['_law_size', '_law_most', '_law_found', '_law_length', '_law_rest', '_law_some']
-- 46 law_shapes ['_law_size', '_law_found', '_law_part', '_law_cycles', '_law_chains']
-- 47 law_product ['_law_number', '_law_found', '_law_factor']
-- 48 law_rows ['_law_most', '_law_found', '_law_size', '_law_total', '_law_factor', '_law_part']
-- 49 law_known ['_law_pairs', '_law_size', '_law_degree', '_law_odd', '_law_number']
-- 50 law ['_law_script', '_law_k', '_law_pool', '_law_size', '_law_degree', '_law_number', '_law_total', '_law_maps', '_law_together', '_law_formed', '_law_given', '_law_many']
set_option maxHeartbeats 0
/-! the top, run once in the kernel, and what it leaves, by names -/
namespace Ck
open PySem PySem.Spec PyProof.Rows L2
/-! ### addresses -/
/-- the first field of the record at p (of the type T): a property's getter, a classmethod's def -/
def fstRec (K : PySem.W.Frag) (p : Addr) (T : String) : Addr := match PySem.W.recIn K p T with
  | some (.ref g :: _) => g
  | _ => 0
def Pth.ad (K : PySem.W.Frag) : Pth → Addr
  | .glo x => He.ga K x
  | .met x m => He.ma K (He.ga K x) m
  | .prp x m => fstRec K (He.ma K (He.ga K x) m) "property"
  | .cmt x m => fstRec K (He.ma K (He.ga K x) m) "classmethod"
/-! ### defs -/
abbrev Seen : Type := Option (Str × Str × Arguments × FuncBody × Scope × Addr × List (Str × Addr) × Value × Addr)
def Df.seen (K : PySem.W.Frag) (d : Df) : Seen := match K.lookup (d.pth.ad K) with
  | some ⟨_, _, .func g, _⟩ => some (g.name, g.qualname, g.params, g.body, g.scope, g.globals, g.closure, g.defaults, g.builtins)
  | _ => none
def Df.want (d : Df) : Seen := some (d.nm, d.ql, defArgs d.st, .stmts (defBody d.st), defScope d.st, mainGlobals, [], .none, builtinsNs)
def Df.good (K : PySem.W.Frag) (d : Df) : Bool := PySem.W.keepIn K (.ref (d.pth.ad K)) && match K.lookup (d.pth.ad K) with
  | some ⟨_, _, .func g, _⟩ => PySem.W.codeIn K g.code d.ql
  | _ => false
theorem Df.fun_ {K : PySem.W.Frag} {d : Df} (e : d.seen K = d.want) (c : d.good K = true) : ∃ fd, Fun K d.nm d.ql d.st (d.pth.ad K) fd := by
  obtain ⟨kp, c2⟩ := Bool.and_eq_true_iff.mp c
  unfold Df.seen at e
  cases q : K.lookup (d.pth.ad K) with
  | none => rw [q] at c2; cases c2
  | some o =>
    obtain ⟨oc, od, dt, osl⟩ := o
    rw [q] at c2 e
    cases dt with
    | func g =>
      obtain ⟨g1, g2, g3, g4, g5, g6, g7, g8, g9, g10, g11, g12, g13, g14, g15⟩ := g
      have e2 : (some (g1, g2, g3, g4, g5, g6, g7, g8, g15) : Seen) = some (d.nm, d.ql, defArgs d.st, .stmts (defBody d.st), defScope d.st, mainGlobals, [], .none, builtinsNs) := e
      simp only [Option.some.injEq, Prod.mk.injEq] at e2
      obtain ⟨rfl, rfl, rfl, rfl, rfl, rfl, rfl, rfl, rfl⟩ := e2
      exact ⟨_, fun_mk q c2 kp⟩
    | _ => cases c2
/-! ### facts -/
inductive Fx where
  | fa (f : He.Fa) | prop (x m : Str) | cread (x : Str) | cmet (x m : Str) | isi (x : Str)
def Fx.ok (K : PySem.W.Frag) : Fx → Bool
  | .fa f => f.ok K
  | .prop x m => decide (PySem.W.findIn K (.ref (He.ga K x)) m = some (some (.ref (He.ma K (He.ga K x) m)))) && (decide (PySem.W.specialIn K (.ref (He.ma K (He.ga K x) m)) "__get__" = some (some (.builtin "property.__get__"))) &&
      (decide (PySem.W.takesIn K (.ref (He.ma K (He.ga K x) m)) = some true) && match PySem.W.recIn K (He.ma K (He.ga K x) m) "property" with
        | some (.ref _ :: _) => true
        | _ => false))
  | .cread x => PySem.W.readsIn K (He.ga K x) (.type "type") && decide (PySem.W.specialIn K (.ref (He.ga K x)) "__getattribute__" = some (some (.builtin "type.__getattribute__")))
  | .cmet x m => (match PySem.W.findCls K (.ref (He.ga K x)) (.type "type") m with
      | some (.get (.builtin b) (.ref p) .none (.ref C)) => b == "classmethod.__get__" && (decide (p = He.ma K (He.ga K x) m) && decide (C = He.ga K x))
      | _ => false) && ((match PySem.W.recIn K (He.ma K (He.ga K x) m) "classmethod" with
        | some (.ref _ :: _) => true
        | _ => false) && PySem.W.fnIn K (fstRec K (He.ma K (He.ga K x) m) "classmethod"))
  | .isi x => decide (PySem.W.findIn K (.ref (He.ga K x)) "__class__" = some (some (.builtin "object.__class__"))) && (decide (PySem.W.specialIn K (.builtin "object.__class__") "__get__" = some (some (.builtin "getset_descriptor.__get__"))) &&
      (decide (PySem.W.takesIn K (.builtin "object.__class__") = some true) && decide (PySem.W.mroIn K (He.ga K x) (.type "object") = some true)))
section
variable {K : PySem.W.Frag} {x m : Str}
theorem two {a b : Bool} (h : (a && b) = true) : a = true ∧ b = true := Bool.and_eq_true_iff.mp h
theorem fstRec_of {p : Addr} {T : String} (h : (match PySem.W.recIn K p T with
    | some (.ref _ :: _) => true
    | _ => false) = true) : ∃ rest, PySem.W.recIn K p T = some (.ref (fstRec K p T) :: rest) := by
  unfold fstRec
  split at h
  · rename_i g r e
    exact ⟨r, by rw [e]⟩
  · cases h
theorem prop_of (h : (Fx.prop x m).ok K = true) : PropOf K (He.ga K x) m (He.ma K (He.ga K x) m) ((Pth.prp x m).ad K) := by
  obtain ⟨h1, h⟩ := two h
  obtain ⟨h2, h⟩ := two h
  obtain ⟨h3, h4⟩ := two h
  exact ⟨of_decide_eq_true h1, of_decide_eq_true h2, of_decide_eq_true h3, fstRec_of h4⟩
theorem cread_of (h : (Fx.cread x).ok K = true) : ClX.CRead K (He.ga K x) (.type "type") := ⟨(two h).1, of_decide_eq_true (two h).2⟩
theorem cmet_of (h : (Fx.cmet x m).ok K = true) : ClX.CMet K (He.ga K x) (.type "type") m (He.ma K (He.ga K x) m) ((Pth.cmt x m).ad K) := by
  obtain ⟨h1, h⟩ := two h
  obtain ⟨h2, h3⟩ := two h
  refine ⟨?_, fstRec_of h2, h3⟩
  split at h1
  · rename_i b p C e
    obtain ⟨a1, a2⟩ := two h1
    obtain ⟨a3, a4⟩ := two a2
    rw [e, eq_of_beq a1, of_decide_eq_true a3, of_decide_eq_true a4]
  · cases h1
theorem isi_of {H : Hp} {a dx : Addr} {fs : List (Str × V)} (h : (Fx.isi x).ok K = true) (c : Cls K (He.ga K x)) (e : H a = some (.ins (He.ga K x) dx fs)) : TyX K H (.ref a) (.ref (He.ga K x)) := by
  obtain ⟨h1, h⟩ := two h
  obtain ⟨h2, h⟩ := two h
  obtain ⟨h3, h4⟩ := two h
  exact .base (.ins e c (of_decide_eq_true h1) (of_decide_eq_true h2) (of_decide_eq_true h3) (of_decide_eq_true h4))
end
/-! ### what the top leaves -/
/-- the objects that an object leads on to: a namespace's values, a def's code, a class's namespace, a property's and a classmethod's def -/
def leads (o : Obj) : List Addr := match o.data with
  | .dict es _ => es.toList.flatMap fun e => He.refV e.val
  | .func g => He.refV g.code
  | .cls cd => [cd.ns]
  | .fields vs => (match o.cls with
    | .type "property" => vs.toList.flatMap He.refV
    | .type "classmethod" => vs.toList.flatMap He.refV
    | _ => [])
  | _ => []
/-- a list of addresses reckoned out, then k of it (back to front) -/
def outL {β : Type} : List Addr → List Addr → (List Addr → β) → β
  | [], acc, k => k acc
  | a :: r, acc, k => HandSHeadRun.frNat a fun a => outL r (a :: acc) k
/-- the objects at these addresses ahead of K, what they lead to, then k of both -/
def outK {β : Type} (g : Addr → Option Obj) : List Addr → PySem.W.Frag → List Addr → (PySem.W.Frag → List Addr → β) → β
  | [], K, acc, k => k K acc
  | a :: r, K, acc, k => match g a with
    | some ⟨c, d, dt, sl⟩ => outK g r ((a, ⟨c, d, dt, sl⟩) :: K) (leads ⟨c, d, dt, sl⟩ ++ acc) k
    | none => outK g r K acc k
def layers {β : Type} (g : Addr → Option Obj) : Nat → PySem.W.Frag → List Addr → (PySem.W.Frag → β) → β
  | 0, K, _, k => k K
  | n + 1, K, as, k => outL as [] fun as => outK g as K [] fun K more => layers g n K more k
theorem outL_eq {β : Type} {k : List Addr → β} : ∀ (l acc : List Addr), ∃ l', outL l acc k = k l'
  | [], acc => ⟨acc, rfl⟩
  | a :: r, acc => by
    obtain ⟨l', e⟩ := outL_eq r (a :: acc)
    exact ⟨l', (HandSHeadRun.frNat_eq a _).trans e⟩
def From (g : Addr → Option Obj) (K : PySem.W.Frag) : Prop := ∀ a o, K.lookup a = some o → g a = some o
theorem outK_eq {β : Type} {g : Addr → Option Obj} {k : PySem.W.Frag → List Addr → β} : ∀ (l : List Addr) (K : PySem.W.Frag) (acc : List Addr), From g K → ∃ K' more, From g K' ∧ outK g l K acc k = k K' more
  | [], K, acc, h => ⟨K, acc, h, rfl⟩
  | a :: r, K, acc, h => by
    unfold outK
    cases e : g a with
    | none => exact outK_eq r K acc h
    | some o =>
      obtain ⟨c, d, dt, sl⟩ := o
      refine outK_eq r _ _ fun b u hb => ?_
      rw [List.lookup_cons] at hb
      split at hb
      · rename_i q
        cases hb
        rw [beq_iff_eq.mp q, e]
      · exact h b u hb
theorem layers_eq {β : Type} {g : Addr → Option Obj} {k : PySem.W.Frag → β} : ∀ (n : Nat) (K : PySem.W.Frag) (as : List Addr), From g K → ∃ K', From g K' ∧ layers g n K as k = k K'
  | 0, K, _, h => ⟨K, h, rfl⟩
  | n + 1, K, as, h => by
    unfold layers
    obtain ⟨l', e⟩ := outL_eq (k := fun as => outK g as K [] fun K more => layers g n K more k) as []
    rw [e]
    obtain ⟨K1, more, h1, e1⟩ := outK_eq (k := fun K more => layers g n K more k) l' K [] h
    rw [e1]
    exact layers_eq n K1 more h1
abbrev Obs : Type := Bool × List Seen
def obsK (fx : List Fx) (ds : List Df) (K : PySem.W.Frag) : Obs := ((fx.all fun f => f.ok K) && ds.all fun d => d.good K, ds.map fun d => d.seen K)
def Says (fx : List Fx) (ds : List Df) (K : PySem.W.Frag) : Prop := obsK fx ds K = (true, ds.map Df.want)
def obsG (fx : List Fx) (ds : List Df) (g : Addr → Option Obj) : Obs := layers g 6 [] [cStatics, mainGlobals] (obsK fx ds)
def hook (fx : List Fx) (ds : List Df) : PySem.W.Hook where
  α := Obs
  obs := fun s => obsG fx ds s.heap.get?
  val := fun _ => (true, ds.map Df.want)
  says := fun _ h => ∃ K : PySem.W.Frag, K.In h ∧ Says fx ds K
  of := fun _ s e => by
    obtain ⟨K, hK, e2⟩ := layers_eq (g := s.heap.get?) (k := obsK fx ds) 6 [] [cStatics, mainGlobals] fun _ _ z => nomatch z
    exact ⟨K, hK, e2.symm.trans e⟩
  keeps := fun _ _ _ y k => let ⟨K, a, b⟩ := y; ⟨K, PySem.W.Frag.In.keeps a k, b⟩
section
variable {fx : List Fx} {ds : List Df} {K : PySem.W.Frag}
theorem Says.fact (c : Says fx ds K) (i : Nat) {f : Fx} (h : fx[i]? = some f := by rfl) : f.ok K = true :=
  List.all_eq_true.mp (two (congrArg Prod.fst c)).1 f (List.mem_of_getElem? h)
theorem Says.df (c : Says fx ds K) (i : Nat) {d : Df} (h : ds[i]? = some d := by rfl) : ∃ fd, Fun K d.nm d.ql d.st (d.pth.ad K) fd := by
  have c1 := List.all_eq_true.mp (two (congrArg Prod.fst c)).2 d (List.mem_of_getElem? h)
  have e : ds.map (fun d => d.seen K) = ds.map Df.want := congrArg Prod.snd c
  have e2 : (ds.map fun d => d.seen K)[i]? = (ds.map Df.want)[i]? := by rw [e]
  rw [List.getElem?_map, List.getElem?_map, h] at e2
  exact Df.fun_ (Option.some.inj e2) c1
end
/-! ### this program -/
def fx0 : List Fx := [.fa (.cls "Map"), .fa (.cls "Shape"), .fa (.cls "ChainCounter"), .fa (.mkr "Map"), .fa (.mkr "Shape"), .fa (.mkr "ChainCounter"),
  .fa (.noat "Map" "own_size"), .fa (.noat "Map" "own_arrows"), .fa (.noat "Shape" "own_cycles"), .fa (.noat "Shape" "own_chains"),
  .fa (.noat "ChainCounter" "own_chains"), .fa (.noat "ChainCounter" "own_degree"), .fa (.noat "ChainCounter" "own_known"),
  .prop "Map" "size", .prop "Map" "arrows", .prop "Shape" "cycles", .prop "Shape" "chains", .prop "Shape" "size",
  .cread "Map", .cmet "Map" "identity", .cmet "Map" "empty", .isi "Map", .isi "Shape",
  .fa (.meth "Map" "__len__"), .fa (.meth "Shape" "__eq__"), .fa (.meth "ChainCounter" "ways"), .fa (.meth "ChainCounter" "with_first"),
  .fa (.int "MAX_SIZE" 300), .fa (.int "MAX_DEGREE" (10 ^ 30)), .fa (.int "MAX_COUNTED" 40)]
def fxF : List Fx := [.fa (.free "isinstance"), .fa (.free "int"), .fa (.free "bool"), .fa (.free "dict"), .fa (.free "range"), .fa (.free "len"), .fa (.free "min"), .fa (.free "max"),
  .fa (.free "sum"), .fa (.free "sorted"), .fa (.free "all"), .fa (.free "list")]
def fx1 : List Fx := [.fa (.glo "Map"), .fa (.glo "Shape"), .fa (.glo "ChainCounter"), .fa (.glo "is_integer"), .fa (.glo "in_range"), .fa (.glo "check_size"), .fa (.glo "are_arrows"), .fa (.glo "row_from"), .fa (.glo "check_map"),
  .fa (.glo "greatest_divisor"), .fa (.glo "largest"), .fa (.glo "factorial"), .fa (.glo "power_of"), .fa (.glo "parts_of"), .fa (.glo "are_counts"), .fa (.glo "ordered"), .fa (.glo "counts_of"), .fa (.glo "shape_of"),
  .fa (.glo "check_shape"), .fa (.glo "map_of"), .fa (.glo "are_alike"), .fa (.glo "count_symmetries"), .fa (.glo "count_renamings"), .fa (.glo "check_degree"), .fa (.glo "group_size"), .fa (.glo "failing_chains"),
  .fa (.glo "obstacle_of"), .fa (.glo "has_root"), .fa (.glo "choices"), .fa (.glo "count_cycle_roots"), .fa (.glo "count_roots"), .fa (.glo "count_extensions")]
def fx2 : List Fx := [.fa (.glo "_law_hand"), .fa (.glo "_law_draw"), .fa (.glo "_law_splits"), .fa (.glo "_law_shapes"), .fa (.glo "_law_product"), .fa (.glo "_law_rows"), .fa (.glo "_law_known"), .fa (.glo "law")]
def fx : List Fx := fx0 ++ fxF ++ fx1 ++ fx2
abbrev R : PySem.W.OpenRow := PySem.W.OpenLaw.row PySem.Challenge.rw_chainmaps_k25_whole_roots_counted_togeth
abbrev qv : Program := PySem.W.view R.prog [66]
def names1 : List PySem.Str := ["_wall", "InvalidMap", "InvalidSize", "InvalidElement", "InvalidShape", "InvalidNumber", "SizeMismatch", "Clash", "Undefined", "LimitExceeded", "MAX_SIZE", "is_integer", "in_range", "check_size", "check_elements", "are_arrows", "common_size", "row_from", "moved", "Map", "is_part", "first_clash", "check_map", "greatest_divisor", "largest", "factorial", "power_of", "parts_of", "are_counts", "ordered"]
def names2 : List PySem.Str := ["merged", "cycle_powers", "chain_powers", "Shape", "counts_of", "shape_of", "check_shape", "map_of", "are_alike", "count_symmetries", "count_renamings", "MAX_DEGREE", "MAX_COUNTED", "check_degree", "group_size", "failing_chains", "obstacle_of", "has_root", "choices", "count_cycle_roots", "ChainCounter", "count_roots", "count_extensions", "_law_hand", "_law_draw", "_law_splits", "_law_shapes", "_law_product", "_law_rows", "_law_known"]
def names : List PySem.Str := names1 ++ names2
abbrev hk : PySem.W.Hook := hook fx dfs
def ob (s : PySem.W.SharedT) : Obs := obsG fx dfs (HandSHeadRun.getT s)
theorem ob_eq (s : PySem.W.SharedT) : ob s = hk.obs s.abs := by
  have e : HandSHeadRun.getT s = s.abs.heap.get? := funext fun a => HandSHeadRun.getT_eq s a
  show obsG fx dfs (HandSHeadRun.getT s) = obsG fx dfs s.abs.heap.get?
  rw [e]
theorem run (w : World) : HandSHeadRun.RunEq R qv hk ob 9000 names w := by
  intro os
  kernel_rfl
end Ck
set_option maxHeartbeats 2000000
/-! written by gen_facts.py: what the top leaves, one accessor a fact -/
namespace Ck
open PySem PySem.Spec PyProof.Rows L2
structure Tx (K : PySem.W.Frag) (mg : Str → Option Value) : Prop where
  says : Says fx dfs K
  g : ∀ x : Str, (Fx.fa (.glo x)).ok K = true → mg x = some (.ref (He.ga K x))
  fr : ∀ x : Str, (Fx.fa (.free x)).ok K = true → mg x = none
  it : ∀ (x : Str) (i : Int), (Fx.fa (.int x i)).ok K = true → ∃ t, mg x = some (.int i t)
theorem Tx.of {K : PySem.W.Frag} {h : Heap} {mg : Str → Option Value} (X : K.In h) (G : h.Ns mainGlobals mg) (c : Says fx dfs K) : Tx K mg :=
  ⟨c, fun _ z => He.glo_ok X G z, fun _ z => He.free_ok X G z, fun _ _ z => He.int_ok X G z⟩
section
variable {K : PySem.W.Frag} {mg : Str → Option Value} (T : Tx K mg)
include T
theorem Tx.cl_Map : Cls K (He.ga K "Map") := He.cls_ok (T.says.fact 0 (f := .fa (.cls "Map")))
theorem Tx.cl_Shape : Cls K (He.ga K "Shape") := He.cls_ok (T.says.fact 1 (f := .fa (.cls "Shape")))
theorem Tx.cl_ChainCounter : Cls K (He.ga K "ChainCounter") := He.cls_ok (T.says.fact 2 (f := .fa (.cls "ChainCounter")))
theorem Tx.mk_Map : Mk K (He.ga K "Map") (He.ma K (He.ga K "Map") "__init__") := He.mkr_ok (T.says.fact 3 (f := .fa (.mkr "Map")))
theorem Tx.mk_Shape : Mk K (He.ga K "Shape") (He.ma K (He.ga K "Shape") "__init__") := He.mkr_ok (T.says.fact 4 (f := .fa (.mkr "Shape")))
theorem Tx.mk_ChainCounter : Mk K (He.ga K "ChainCounter") (He.ma K (He.ga K "ChainCounter") "__init__") := He.mkr_ok (T.says.fact 5 (f := .fa (.mkr "ChainCounter")))
theorem Tx.n_Map_own_size : NoAttr K (He.ga K "Map") "own_size" := He.noat_ok (T.says.fact 6 (f := .fa (.noat "Map" "own_size")))
theorem Tx.n_Map_own_arrows : NoAttr K (He.ga K "Map") "own_arrows" := He.noat_ok (T.says.fact 7 (f := .fa (.noat "Map" "own_arrows")))
theorem Tx.n_Shape_own_cycles : NoAttr K (He.ga K "Shape") "own_cycles" := He.noat_ok (T.says.fact 8 (f := .fa (.noat "Shape" "own_cycles")))
theorem Tx.n_Shape_own_chains : NoAttr K (He.ga K "Shape") "own_chains" := He.noat_ok (T.says.fact 9 (f := .fa (.noat "Shape" "own_chains")))
theorem Tx.n_ChainCounter_own_chains : NoAttr K (He.ga K "ChainCounter") "own_chains" := He.noat_ok (T.says.fact 10 (f := .fa (.noat "ChainCounter" "own_chains")))
theorem Tx.n_ChainCounter_own_degree : NoAttr K (He.ga K "ChainCounter") "own_degree" := He.noat_ok (T.says.fact 11 (f := .fa (.noat "ChainCounter" "own_degree")))
theorem Tx.n_ChainCounter_own_known : NoAttr K (He.ga K "ChainCounter") "own_known" := He.noat_ok (T.says.fact 12 (f := .fa (.noat "ChainCounter" "own_known")))
theorem Tx.p_Map_size : PropOf K (He.ga K "Map") "size" (He.ma K (He.ga K "Map") "size") ((Pth.prp "Map" "size").ad K) := prop_of (T.says.fact 13 (f := .prop "Map" "size"))
theorem Tx.p_Map_arrows : PropOf K (He.ga K "Map") "arrows" (He.ma K (He.ga K "Map") "arrows") ((Pth.prp "Map" "arrows").ad K) := prop_of (T.says.fact 14 (f := .prop "Map" "arrows"))
theorem Tx.p_Shape_cycles : PropOf K (He.ga K "Shape") "cycles" (He.ma K (He.ga K "Shape") "cycles") ((Pth.prp "Shape" "cycles").ad K) := prop_of (T.says.fact 15 (f := .prop "Shape" "cycles"))
theorem Tx.p_Shape_chains : PropOf K (He.ga K "Shape") "chains" (He.ma K (He.ga K "Shape") "chains") ((Pth.prp "Shape" "chains").ad K) := prop_of (T.says.fact 16 (f := .prop "Shape" "chains"))
theorem Tx.p_Shape_size : PropOf K (He.ga K "Shape") "size" (He.ma K (He.ga K "Shape") "size") ((Pth.prp "Shape" "size").ad K) := prop_of (T.says.fact 17 (f := .prop "Shape" "size"))
theorem Tx.cr_Map : ClX.CRead K (He.ga K "Map") (.type "type") := cread_of (T.says.fact 18 (f := .cread "Map"))
theorem Tx.cm_Map_identity : ClX.CMet K (He.ga K "Map") (.type "type") "identity" (He.ma K (He.ga K "Map") "identity") ((Pth.cmt "Map" "identity").ad K) := cmet_of (T.says.fact 19 (f := .cmet "Map" "identity"))
theorem Tx.cm_Map_empty : ClX.CMet K (He.ga K "Map") (.type "type") "empty" (He.ma K (He.ga K "Map") "empty") ((Pth.cmt "Map" "empty").ad K) := cmet_of (T.says.fact 20 (f := .cmet "Map" "empty"))
theorem Tx.is_Map {H : Hp} {a dx : Addr} {fs : List (Str × V)} (e : H a = some (.ins (He.ga K "Map") dx fs)) : TyX K H (.ref a) (.ref (He.ga K "Map")) := isi_of (T.says.fact 21 (f := .isi "Map")) T.cl_Map e
theorem Tx.is_Shape {H : Hp} {a dx : Addr} {fs : List (Str × V)} (e : H a = some (.ins (He.ga K "Shape") dx fs)) : TyX K H (.ref a) (.ref (He.ga K "Shape")) := isi_of (T.says.fact 22 (f := .isi "Shape")) T.cl_Shape e
theorem Tx.me_Map_len : Meth K (He.ga K "Map") "__len__" (He.ma K (He.ga K "Map") "__len__") := He.meth_ok (T.says.fact 23 (f := .fa (.meth "Map" "__len__")))
theorem Tx.me_Shape_eq : Meth K (He.ga K "Shape") "__eq__" (He.ma K (He.ga K "Shape") "__eq__") := He.meth_ok (T.says.fact 24 (f := .fa (.meth "Shape" "__eq__")))
theorem Tx.me_ChainCounter_ways : Meth K (He.ga K "ChainCounter") "ways" (He.ma K (He.ga K "ChainCounter") "ways") := He.meth_ok (T.says.fact 25 (f := .fa (.meth "ChainCounter" "ways")))
theorem Tx.me_ChainCounter_with_first : Meth K (He.ga K "ChainCounter") "with_first" (He.ma K (He.ga K "ChainCounter") "with_first") := He.meth_ok (T.says.fact 26 (f := .fa (.meth "ChainCounter" "with_first")))
theorem Tx.c_MAX_SIZE : ∃ t, mg "MAX_SIZE" = some (.int 300 t) := T.it _ _ (T.says.fact 27 (f := .fa (.int "MAX_SIZE" 300)))
theorem Tx.c_MAX_DEGREE : ∃ t, mg "MAX_DEGREE" = some (.int (10 ^ 30) t) := T.it _ _ (T.says.fact 28 (f := .fa (.int "MAX_DEGREE" (10 ^ 30))))
theorem Tx.c_MAX_COUNTED : ∃ t, mg "MAX_COUNTED" = some (.int 40 t) := T.it _ _ (T.says.fact 29 (f := .fa (.int "MAX_COUNTED" 40)))
theorem Tx.z_isinstance : mg "isinstance" = none := T.fr _ (T.says.fact 30 (f := .fa (.free "isinstance")))
theorem Tx.z_int : mg "int" = none := T.fr _ (T.says.fact 31 (f := .fa (.free "int")))
theorem Tx.z_bool : mg "bool" = none := T.fr _ (T.says.fact 32 (f := .fa (.free "bool")))
theorem Tx.z_dict : mg "dict" = none := T.fr _ (T.says.fact 33 (f := .fa (.free "dict")))
theorem Tx.z_range : mg "range" = none := T.fr _ (T.says.fact 34 (f := .fa (.free "range")))
theorem Tx.z_len : mg "len" = none := T.fr _ (T.says.fact 35 (f := .fa (.free "len")))
theorem Tx.z_min : mg "min" = none := T.fr _ (T.says.fact 36 (f := .fa (.free "min")))
theorem Tx.z_max : mg "max" = none := T.fr _ (T.says.fact 37 (f := .fa (.free "max")))
theorem Tx.z_sum : mg "sum" = none := T.fr _ (T.says.fact 38 (f := .fa (.free "sum")))
theorem Tx.z_sorted : mg "sorted" = none := T.fr _ (T.says.fact 39 (f := .fa (.free "sorted")))
theorem Tx.z_all : mg "all" = none := T.fr _ (T.says.fact 40 (f := .fa (.free "all")))
theorem Tx.z_list : mg "list" = none := T.fr _ (T.says.fact 41 (f := .fa (.free "list")))
theorem Tx.m_Map : mg "Map" = some (.ref (He.ga K "Map")) := T.g _ (T.says.fact 42 (f := .fa (.glo "Map")))
theorem Tx.m_Shape : mg "Shape" = some (.ref (He.ga K "Shape")) := T.g _ (T.says.fact 43 (f := .fa (.glo "Shape")))
theorem Tx.m_ChainCounter : mg "ChainCounter" = some (.ref (He.ga K "ChainCounter")) := T.g _ (T.says.fact 44 (f := .fa (.glo "ChainCounter")))
theorem Tx.m_is_integer : mg "is_integer" = some (.ref (He.ga K "is_integer")) := T.g _ (T.says.fact 45 (f := .fa (.glo "is_integer")))
theorem Tx.m_in_range : mg "in_range" = some (.ref (He.ga K "in_range")) := T.g _ (T.says.fact 46 (f := .fa (.glo "in_range")))
theorem Tx.m_check_size : mg "check_size" = some (.ref (He.ga K "check_size")) := T.g _ (T.says.fact 47 (f := .fa (.glo "check_size")))
theorem Tx.m_are_arrows : mg "are_arrows" = some (.ref (He.ga K "are_arrows")) := T.g _ (T.says.fact 48 (f := .fa (.glo "are_arrows")))
theorem Tx.m_row_from : mg "row_from" = some (.ref (He.ga K "row_from")) := T.g _ (T.says.fact 49 (f := .fa (.glo "row_from")))
theorem Tx.m_check_map : mg "check_map" = some (.ref (He.ga K "check_map")) := T.g _ (T.says.fact 50 (f := .fa (.glo "check_map")))
theorem Tx.m_greatest_divisor : mg "greatest_divisor" = some (.ref (He.ga K "greatest_divisor")) := T.g _ (T.says.fact 51 (f := .fa (.glo "greatest_divisor")))
theorem Tx.m_largest : mg "largest" = some (.ref (He.ga K "largest")) := T.g _ (T.says.fact 52 (f := .fa (.glo "largest")))
theorem Tx.m_factorial : mg "factorial" = some (.ref (He.ga K "factorial")) := T.g _ (T.says.fact 53 (f := .fa (.glo "factorial")))
theorem Tx.m_power_of : mg "power_of" = some (.ref (He.ga K "power_of")) := T.g _ (T.says.fact 54 (f := .fa (.glo "power_of")))
theorem Tx.m_parts_of : mg "parts_of" = some (.ref (He.ga K "parts_of")) := T.g _ (T.says.fact 55 (f := .fa (.glo "parts_of")))
theorem Tx.m_are_counts : mg "are_counts" = some (.ref (He.ga K "are_counts")) := T.g _ (T.says.fact 56 (f := .fa (.glo "are_counts")))
theorem Tx.m_ordered : mg "ordered" = some (.ref (He.ga K "ordered")) := T.g _ (T.says.fact 57 (f := .fa (.glo "ordered")))
theorem Tx.m_counts_of : mg "counts_of" = some (.ref (He.ga K "counts_of")) := T.g _ (T.says.fact 58 (f := .fa (.glo "counts_of")))
theorem Tx.m_shape_of : mg "shape_of" = some (.ref (He.ga K "shape_of")) := T.g _ (T.says.fact 59 (f := .fa (.glo "shape_of")))
theorem Tx.m_check_shape : mg "check_shape" = some (.ref (He.ga K "check_shape")) := T.g _ (T.says.fact 60 (f := .fa (.glo "check_shape")))
theorem Tx.m_map_of : mg "map_of" = some (.ref (He.ga K "map_of")) := T.g _ (T.says.fact 61 (f := .fa (.glo "map_of")))
theorem Tx.m_are_alike : mg "are_alike" = some (.ref (He.ga K "are_alike")) := T.g _ (T.says.fact 62 (f := .fa (.glo "are_alike")))
theorem Tx.m_count_symmetries : mg "count_symmetries" = some (.ref (He.ga K "count_symmetries")) := T.g _ (T.says.fact 63 (f := .fa (.glo "count_symmetries")))
theorem Tx.m_count_renamings : mg "count_renamings" = some (.ref (He.ga K "count_renamings")) := T.g _ (T.says.fact 64 (f := .fa (.glo "count_renamings")))
theorem Tx.m_check_degree : mg "check_degree" = some (.ref (He.ga K "check_degree")) := T.g _ (T.says.fact 65 (f := .fa (.glo "check_degree")))
theorem Tx.m_group_size : mg "group_size" = some (.ref (He.ga K "group_size")) := T.g _ (T.says.fact 66 (f := .fa (.glo "group_size")))
theorem Tx.m_failing_chains : mg "failing_chains" = some (.ref (He.ga K "failing_chains")) := T.g _ (T.says.fact 67 (f := .fa (.glo "failing_chains")))
theorem Tx.m_obstacle_of : mg "obstacle_of" = some (.ref (He.ga K "obstacle_of")) := T.g _ (T.says.fact 68 (f := .fa (.glo "obstacle_of")))
theorem Tx.m_has_root : mg "has_root" = some (.ref (He.ga K "has_root")) := T.g _ (T.says.fact 69 (f := .fa (.glo "has_root")))
theorem Tx.m_choices : mg "choices" = some (.ref (He.ga K "choices")) := T.g _ (T.says.fact 70 (f := .fa (.glo "choices")))
theorem Tx.m_count_cycle_roots : mg "count_cycle_roots" = some (.ref (He.ga K "count_cycle_roots")) := T.g _ (T.says.fact 71 (f := .fa (.glo "count_cycle_roots")))
theorem Tx.m_count_roots : mg "count_roots" = some (.ref (He.ga K "count_roots")) := T.g _ (T.says.fact 72 (f := .fa (.glo "count_roots")))
theorem Tx.m_count_extensions : mg "count_extensions" = some (.ref (He.ga K "count_extensions")) := T.g _ (T.says.fact 73 (f := .fa (.glo "count_extensions")))
theorem Tx.m_law_hand : mg "_law_hand" = some (.ref (He.ga K "_law_hand")) := T.g _ (T.says.fact 74 (f := .fa (.glo "_law_hand")))
theorem Tx.m_law_draw : mg "_law_draw" = some (.ref (He.ga K "_law_draw")) := T.g _ (T.says.fact 75 (f := .fa (.glo "_law_draw")))
theorem Tx.m_law_splits : mg "_law_splits" = some (.ref (He.ga K "_law_splits")) := T.g _ (T.says.fact 76 (f := .fa (.glo "_law_splits")))
theorem Tx.m_law_shapes : mg "_law_shapes" = some (.ref (He.ga K "_law_shapes")) := T.g _ (T.says.fact 77 (f := .fa (.glo "_law_shapes")))
theorem Tx.m_law_product : mg "_law_product" = some (.ref (He.ga K "_law_product")) := T.g _ (T.says.fact 78 (f := .fa (.glo "_law_product")))
theorem Tx.m_law_rows : mg "_law_rows" = some (.ref (He.ga K "_law_rows")) := T.g _ (T.says.fact 79 (f := .fa (.glo "_law_rows")))
theorem Tx.m_law_known : mg "_law_known" = some (.ref (He.ga K "_law_known")) := T.g _ (T.says.fact 80 (f := .fa (.glo "_law_known")))
theorem Tx.m_law : mg "law" = some (.ref (He.ga K "law")) := T.g _ (T.says.fact 81 (f := .fa (.glo "law")))
theorem Tx.f_is_integer : ∃ fd, Fun K d_is_integer.nm d_is_integer.ql d_is_integer.st (d_is_integer.pth.ad K) fd ∧ Binds K fd ["value"] [] := by
  obtain ⟨fd, F⟩ := T.says.df 0 (d := d_is_integer)
  exact ⟨fd, F, F.binds (ps := ["value"]) fun _ _ _ _ _ _ us hl => match us, hl with | [_], _ => rfl⟩
theorem Tx.f_in_range : ∃ fd, Fun K d_in_range.nm d_in_range.ql d_in_range.st (d_in_range.pth.ad K) fd ∧ Binds K fd ["value", "least", "most"] [] := by
  obtain ⟨fd, F⟩ := T.says.df 1 (d := d_in_range)
  exact ⟨fd, F, F.binds (ps := ["value", "least", "most"]) fun _ _ _ _ _ _ us hl => match us, hl with | [_, _, _], _ => rfl⟩
theorem Tx.f_check_size : ∃ fd, Fun K d_check_size.nm d_check_size.ql d_check_size.st (d_check_size.pth.ad K) fd ∧ Binds K fd ["size"] [] := by
  obtain ⟨fd, F⟩ := T.says.df 2 (d := d_check_size)
  exact ⟨fd, F, F.binds (ps := ["size"]) fun _ _ _ _ _ _ us hl => match us, hl with | [_], _ => rfl⟩
theorem Tx.f_are_arrows : ∃ fd, Fun K d_are_arrows.nm d_are_arrows.ql d_are_arrows.st (d_are_arrows.pth.ad K) fd ∧ Binds K fd ["size", "arrows"] [] := by
  obtain ⟨fd, F⟩ := T.says.df 3 (d := d_are_arrows)
  exact ⟨fd, F, F.binds (ps := ["size", "arrows"]) fun _ _ _ _ _ _ us hl => match us, hl with | [_, _], _ => rfl⟩
theorem Tx.f_row_from : ∃ fd, Fun K d_row_from.nm d_row_from.ql d_row_from.st (d_row_from.pth.ad K) fd ∧ Binds K fd ["arrows", "element"] [] := by
  obtain ⟨fd, F⟩ := T.says.df 4 (d := d_row_from)
  exact ⟨fd, F, F.binds (ps := ["arrows", "element"]) fun _ _ _ _ _ _ us hl => match us, hl with | [_, _], _ => rfl⟩
theorem Tx.f_Map_init : ∃ fd, Fun K d_Map_init.nm d_Map_init.ql d_Map_init.st (d_Map_init.pth.ad K) fd ∧ Binds K fd ["self", "size", "arrows"] [] := by
  obtain ⟨fd, F⟩ := T.says.df 5 (d := d_Map_init)
  exact ⟨fd, F, F.binds (ps := ["self", "size", "arrows"]) fun _ _ _ _ _ _ us hl => match us, hl with | [_, _, _], _ => rfl⟩
theorem Tx.f_Map_identity : ∃ fd, Fun K d_Map_identity.nm d_Map_identity.ql d_Map_identity.st (d_Map_identity.pth.ad K) fd ∧ Binds K fd ["cls", "size"] [] := by
  obtain ⟨fd, F⟩ := T.says.df 6 (d := d_Map_identity)
  exact ⟨fd, F, F.binds (ps := ["cls", "size"]) fun _ _ _ _ _ _ us hl => match us, hl with | [_, _], _ => rfl⟩
theorem Tx.f_Map_empty : ∃ fd, Fun K d_Map_empty.nm d_Map_empty.ql d_Map_empty.st (d_Map_empty.pth.ad K) fd ∧ Binds K fd ["cls", "size"] [] := by
  obtain ⟨fd, F⟩ := T.says.df 7 (d := d_Map_empty)
  exact ⟨fd, F, F.binds (ps := ["cls", "size"]) fun _ _ _ _ _ _ us hl => match us, hl with | [_, _], _ => rfl⟩
theorem Tx.f_Map_size : ∃ fd, Fun K d_Map_size.nm d_Map_size.ql d_Map_size.st (d_Map_size.pth.ad K) fd ∧ Binds K fd ["self"] [] := by
  obtain ⟨fd, F⟩ := T.says.df 8 (d := d_Map_size)
  exact ⟨fd, F, F.binds (ps := ["self"]) fun _ _ _ _ _ _ us hl => match us, hl with | [_], _ => rfl⟩
theorem Tx.f_Map_arrows : ∃ fd, Fun K d_Map_arrows.nm d_Map_arrows.ql d_Map_arrows.st (d_Map_arrows.pth.ad K) fd ∧ Binds K fd ["self"] [] := by
  obtain ⟨fd, F⟩ := T.says.df 9 (d := d_Map_arrows)
  exact ⟨fd, F, F.binds (ps := ["self"]) fun _ _ _ _ _ _ us hl => match us, hl with | [_], _ => rfl⟩
theorem Tx.f_Map_len : ∃ fd, Fun K d_Map_len.nm d_Map_len.ql d_Map_len.st (d_Map_len.pth.ad K) fd ∧ Binds K fd ["self"] [] := by
  obtain ⟨fd, F⟩ := T.says.df 10 (d := d_Map_len)
  exact ⟨fd, F, F.binds (ps := ["self"]) fun _ _ _ _ _ _ us hl => match us, hl with | [_], _ => rfl⟩
theorem Tx.f_check_map : ∃ fd, Fun K d_check_map.nm d_check_map.ql d_check_map.st (d_check_map.pth.ad K) fd ∧ Binds K fd ["value"] [] := by
  obtain ⟨fd, F⟩ := T.says.df 11 (d := d_check_map)
  exact ⟨fd, F, F.binds (ps := ["value"]) fun _ _ _ _ _ _ us hl => match us, hl with | [_], _ => rfl⟩
theorem Tx.f_greatest_divisor : ∃ fd, Fun K d_greatest_divisor.nm d_greatest_divisor.ql d_greatest_divisor.st (d_greatest_divisor.pth.ad K) fd ∧ Binds K fd ["one", "other"] [] := by
  obtain ⟨fd, F⟩ := T.says.df 12 (d := d_greatest_divisor)
  exact ⟨fd, F, F.binds (ps := ["one", "other"]) fun _ _ _ _ _ _ us hl => match us, hl with | [_, _], _ => rfl⟩
theorem Tx.f_largest : ∃ fd, Fun K d_largest.nm d_largest.ql d_largest.st (d_largest.pth.ad K) fd ∧ Binds K fd ["numbers", "least"] [] := by
  obtain ⟨fd, F⟩ := T.says.df 13 (d := d_largest)
  exact ⟨fd, F, F.binds (ps := ["numbers", "least"]) fun _ _ _ _ _ _ us hl => match us, hl with | [_, _], _ => rfl⟩
theorem Tx.f_factorial : ∃ fd, Fun K d_factorial.nm d_factorial.ql d_factorial.st (d_factorial.pth.ad K) fd ∧ Binds K fd ["number"] [] := by
  obtain ⟨fd, F⟩ := T.says.df 14 (d := d_factorial)
  exact ⟨fd, F, F.binds (ps := ["number"]) fun _ _ _ _ _ _ us hl => match us, hl with | [_], _ => rfl⟩
theorem Tx.f_power_of : ∃ fd, Fun K d_power_of.nm d_power_of.ql d_power_of.st (d_power_of.pth.ad K) fd ∧ Binds K fd ["base", "exponent"] [] := by
  obtain ⟨fd, F⟩ := T.says.df 15 (d := d_power_of)
  exact ⟨fd, F, F.binds (ps := ["base", "exponent"]) fun _ _ _ _ _ _ us hl => match us, hl with | [_, _], _ => rfl⟩
theorem Tx.f_parts_of : ∃ fd, Fun K d_parts_of.nm d_parts_of.ql d_parts_of.st (d_parts_of.pth.ad K) fd ∧ Binds K fd ["given"] [] := by
  obtain ⟨fd, F⟩ := T.says.df 16 (d := d_parts_of)
  exact ⟨fd, F, F.binds (ps := ["given"]) fun _ _ _ _ _ _ us hl => match us, hl with | [_], _ => rfl⟩
theorem Tx.f_are_counts : ∃ fd, Fun K d_are_counts.nm d_are_counts.ql d_are_counts.st (d_are_counts.pth.ad K) fd ∧ Binds K fd ["value"] [] := by
  obtain ⟨fd, F⟩ := T.says.df 17 (d := d_are_counts)
  exact ⟨fd, F, F.binds (ps := ["value"]) fun _ _ _ _ _ _ us hl => match us, hl with | [_], _ => rfl⟩
theorem Tx.f_ordered : ∃ fd, Fun K d_ordered.nm d_ordered.ql d_ordered.st (d_ordered.pth.ad K) fd ∧ Binds K fd ["counts"] [] := by
  obtain ⟨fd, F⟩ := T.says.df 18 (d := d_ordered)
  exact ⟨fd, F, F.binds (ps := ["counts"]) fun _ _ _ _ _ _ us hl => match us, hl with | [_], _ => rfl⟩
theorem Tx.f_Shape_init : ∃ fd, Fun K d_Shape_init.nm d_Shape_init.ql d_Shape_init.st (d_Shape_init.pth.ad K) fd ∧ Binds K fd ["self", "cycles", "chains"] [] := by
  obtain ⟨fd, F⟩ := T.says.df 19 (d := d_Shape_init)
  exact ⟨fd, F, F.binds (ps := ["self", "cycles", "chains"]) fun _ _ _ _ _ _ us hl => match us, hl with | [_, _, _], _ => rfl⟩
theorem Tx.f_Shape_cycles : ∃ fd, Fun K d_Shape_cycles.nm d_Shape_cycles.ql d_Shape_cycles.st (d_Shape_cycles.pth.ad K) fd ∧ Binds K fd ["self"] [] := by
  obtain ⟨fd, F⟩ := T.says.df 20 (d := d_Shape_cycles)
  exact ⟨fd, F, F.binds (ps := ["self"]) fun _ _ _ _ _ _ us hl => match us, hl with | [_], _ => rfl⟩
theorem Tx.f_Shape_chains : ∃ fd, Fun K d_Shape_chains.nm d_Shape_chains.ql d_Shape_chains.st (d_Shape_chains.pth.ad K) fd ∧ Binds K fd ["self"] [] := by
  obtain ⟨fd, F⟩ := T.says.df 21 (d := d_Shape_chains)
  exact ⟨fd, F, F.binds (ps := ["self"]) fun _ _ _ _ _ _ us hl => match us, hl with | [_], _ => rfl⟩
theorem Tx.f_Shape_size : ∃ fd, Fun K d_Shape_size.nm d_Shape_size.ql d_Shape_size.st (d_Shape_size.pth.ad K) fd ∧ Binds K fd ["self"] [] := by
  obtain ⟨fd, F⟩ := T.says.df 22 (d := d_Shape_size)
  exact ⟨fd, F, F.binds (ps := ["self"]) fun _ _ _ _ _ _ us hl => match us, hl with | [_], _ => rfl⟩
theorem Tx.f_Shape_eq : ∃ fd, Fun K d_Shape_eq.nm d_Shape_eq.ql d_Shape_eq.st (d_Shape_eq.pth.ad K) fd ∧ Binds K fd ["self", "other"] [] := by
  obtain ⟨fd, F⟩ := T.says.df 23 (d := d_Shape_eq)
  exact ⟨fd, F, F.binds (ps := ["self", "other"]) fun _ _ _ _ _ _ us hl => match us, hl with | [_, _], _ => rfl⟩
theorem Tx.f_counts_of : ∃ fd, Fun K d_counts_of.nm d_counts_of.ql d_counts_of.st (d_counts_of.pth.ad K) fd ∧ Binds K fd ["parts"] [] := by
  obtain ⟨fd, F⟩ := T.says.df 24 (d := d_counts_of)
  exact ⟨fd, F, F.binds (ps := ["parts"]) fun _ _ _ _ _ _ us hl => match us, hl with | [_], _ => rfl⟩
theorem Tx.f_shape_of : ∃ fd, Fun K d_shape_of.nm d_shape_of.ql d_shape_of.st (d_shape_of.pth.ad K) fd ∧ Binds K fd ["given"] [] := by
  obtain ⟨fd, F⟩ := T.says.df 25 (d := d_shape_of)
  exact ⟨fd, F, F.binds (ps := ["given"]) fun _ _ _ _ _ _ us hl => match us, hl with | [_], _ => rfl⟩
theorem Tx.f_check_shape : ∃ fd, Fun K d_check_shape.nm d_check_shape.ql d_check_shape.st (d_check_shape.pth.ad K) fd ∧ Binds K fd ["value"] [] := by
  obtain ⟨fd, F⟩ := T.says.df 26 (d := d_check_shape)
  exact ⟨fd, F, F.binds (ps := ["value"]) fun _ _ _ _ _ _ us hl => match us, hl with | [_], _ => rfl⟩
theorem Tx.f_map_of : ∃ fd, Fun K d_map_of.nm d_map_of.ql d_map_of.st (d_map_of.pth.ad K) fd ∧ Binds K fd ["shape"] [] := by
  obtain ⟨fd, F⟩ := T.says.df 27 (d := d_map_of)
  exact ⟨fd, F, F.binds (ps := ["shape"]) fun _ _ _ _ _ _ us hl => match us, hl with | [_], _ => rfl⟩
theorem Tx.f_are_alike : ∃ fd, Fun K d_are_alike.nm d_are_alike.ql d_are_alike.st (d_are_alike.pth.ad K) fd ∧ Binds K fd ["one", "other"] [] := by
  obtain ⟨fd, F⟩ := T.says.df 28 (d := d_are_alike)
  exact ⟨fd, F, F.binds (ps := ["one", "other"]) fun _ _ _ _ _ _ us hl => match us, hl with | [_, _], _ => rfl⟩
theorem Tx.f_count_symmetries : ∃ fd, Fun K d_count_symmetries.nm d_count_symmetries.ql d_count_symmetries.st (d_count_symmetries.pth.ad K) fd ∧ Binds K fd ["shape"] [] := by
  obtain ⟨fd, F⟩ := T.says.df 29 (d := d_count_symmetries)
  exact ⟨fd, F, F.binds (ps := ["shape"]) fun _ _ _ _ _ _ us hl => match us, hl with | [_], _ => rfl⟩
theorem Tx.f_count_renamings : ∃ fd, Fun K d_count_renamings.nm d_count_renamings.ql d_count_renamings.st (d_count_renamings.pth.ad K) fd ∧ Binds K fd ["one", "other"] [] := by
  obtain ⟨fd, F⟩ := T.says.df 30 (d := d_count_renamings)
  exact ⟨fd, F, F.binds (ps := ["one", "other"]) fun _ _ _ _ _ _ us hl => match us, hl with | [_, _], _ => rfl⟩
theorem Tx.f_check_degree : ∃ fd, Fun K d_check_degree.nm d_check_degree.ql d_check_degree.st (d_check_degree.pth.ad K) fd ∧ Binds K fd ["degree"] [] := by
  obtain ⟨fd, F⟩ := T.says.df 31 (d := d_check_degree)
  exact ⟨fd, F, F.binds (ps := ["degree"]) fun _ _ _ _ _ _ us hl => match us, hl with | [_], _ => rfl⟩
theorem Tx.f_group_size : ∃ fd, Fun K d_group_size.nm d_group_size.ql d_group_size.st (d_group_size.pth.ad K) fd ∧ Binds K fd ["length", "degree"] [] := by
  obtain ⟨fd, F⟩ := T.says.df 32 (d := d_group_size)
  exact ⟨fd, F, F.binds (ps := ["length", "degree"]) fun _ _ _ _ _ _ us hl => match us, hl with | [_, _], _ => rfl⟩
theorem Tx.f_failing_chains : ∃ fd, Fun K d_failing_chains.nm d_failing_chains.ql d_failing_chains.st (d_failing_chains.pth.ad K) fd ∧ Binds K fd ["chains", "degree"] [] := by
  obtain ⟨fd, F⟩ := T.says.df 33 (d := d_failing_chains)
  exact ⟨fd, F, F.binds (ps := ["chains", "degree"]) fun _ _ _ _ _ _ us hl => match us, hl with | [_, _], _ => rfl⟩
theorem Tx.f_obstacle_of : ∃ fd, Fun K d_obstacle_of.nm d_obstacle_of.ql d_obstacle_of.st (d_obstacle_of.pth.ad K) fd ∧ Binds K fd ["shape", "degree"] [] := by
  obtain ⟨fd, F⟩ := T.says.df 34 (d := d_obstacle_of)
  exact ⟨fd, F, F.binds (ps := ["shape", "degree"]) fun _ _ _ _ _ _ us hl => match us, hl with | [_, _], _ => rfl⟩
theorem Tx.f_has_root : ∃ fd, Fun K d_has_root.nm d_has_root.ql d_has_root.st (d_has_root.pth.ad K) fd ∧ Binds K fd ["shape", "degree"] [] := by
  obtain ⟨fd, F⟩ := T.says.df 35 (d := d_has_root)
  exact ⟨fd, F, F.binds (ps := ["shape", "degree"]) fun _ _ _ _ _ _ us hl => match us, hl with | [_, _], _ => rfl⟩
theorem Tx.f_choices : ∃ fd, Fun K d_choices.nm d_choices.ql d_choices.st (d_choices.pth.ad K) fd ∧ Binds K fd ["size", "part"] [] := by
  obtain ⟨fd, F⟩ := T.says.df 36 (d := d_choices)
  exact ⟨fd, F, F.binds (ps := ["size", "part"]) fun _ _ _ _ _ _ us hl => match us, hl with | [_, _], _ => rfl⟩
theorem Tx.f_count_cycle_roots : ∃ fd, Fun K d_count_cycle_roots.nm d_count_cycle_roots.ql d_count_cycle_roots.st (d_count_cycle_roots.pth.ad K) fd ∧ Binds K fd ["length", "number", "degree"] [] := by
  obtain ⟨fd, F⟩ := T.says.df 37 (d := d_count_cycle_roots)
  exact ⟨fd, F, F.binds (ps := ["length", "number", "degree"]) fun _ _ _ _ _ _ us hl => match us, hl with | [_, _, _], _ => rfl⟩
theorem Tx.f_ChainCounter_init : ∃ fd, Fun K d_ChainCounter_init.nm d_ChainCounter_init.ql d_ChainCounter_init.st (d_ChainCounter_init.pth.ad K) fd ∧ Binds K fd ["self", "chains", "degree"] [] := by
  obtain ⟨fd, F⟩ := T.says.df 38 (d := d_ChainCounter_init)
  exact ⟨fd, F, F.binds (ps := ["self", "chains", "degree"]) fun _ _ _ _ _ _ us hl => match us, hl with | [_, _, _], _ => rfl⟩
theorem Tx.f_ChainCounter_ways : ∃ fd, Fun K d_ChainCounter_ways.nm d_ChainCounter_ways.ql d_ChainCounter_ways.st (d_ChainCounter_ways.pth.ad K) fd ∧ Binds K fd ["self", "length", "here", "below"] [] := by
  obtain ⟨fd, F⟩ := T.says.df 39 (d := d_ChainCounter_ways)
  exact ⟨fd, F, F.binds (ps := ["self", "length", "here", "below"]) fun _ _ _ _ _ _ us hl => match us, hl with | [_, _, _, _], _ => rfl⟩
theorem Tx.f_ChainCounter_with_first : ∃ fd, Fun K d_ChainCounter_with_first.nm d_ChainCounter_with_first.ql d_ChainCounter_with_first.st (d_ChainCounter_with_first.pth.ad K) fd ∧ Binds K fd ["self", "length", "here", "below"] [] := by
  obtain ⟨fd, F⟩ := T.says.df 40 (d := d_ChainCounter_with_first)
  exact ⟨fd, F, F.binds (ps := ["self", "length", "here", "below"]) fun _ _ _ _ _ _ us hl => match us, hl with | [_, _, _, _], _ => rfl⟩
theorem Tx.f_count_roots : ∃ fd, Fun K d_count_roots.nm d_count_roots.ql d_count_roots.st (d_count_roots.pth.ad K) fd ∧ Binds K fd ["given", "degree"] [] := by
  obtain ⟨fd, F⟩ := T.says.df 41 (d := d_count_roots)
  exact ⟨fd, F, F.binds (ps := ["given", "degree"]) fun _ _ _ _ _ _ us hl => match us, hl with | [_, _], _ => rfl⟩
theorem Tx.f_count_extensions : ∃ fd, Fun K d_count_extensions.nm d_count_extensions.ql d_count_extensions.st (d_count_extensions.pth.ad K) fd ∧ Binds K fd ["given", "arrows"] [] := by
  obtain ⟨fd, F⟩ := T.says.df 42 (d := d_count_extensions)
  exact ⟨fd, F, F.binds (ps := ["given", "arrows"]) fun _ _ _ _ _ _ us hl => match us, hl with | [_, _], _ => rfl⟩
theorem Tx.f_law_hand : ∃ fd, Fun K d_law_hand.nm d_law_hand.ql d_law_hand.st (d_law_hand.pth.ad K) fd ∧ Binds K fd ["_law_script", "_law_k"] [] := by
  obtain ⟨fd, F⟩ := T.says.df 43 (d := d_law_hand)
  exact ⟨fd, F, F.binds (ps := ["_law_script", "_law_k"]) fun _ _ _ _ _ _ us hl => match us, hl with | [_, _], _ => rfl⟩
theorem Tx.f_law_draw : ∃ fd, Fun K d_law_draw.nm d_law_draw.ql d_law_draw.st (d_law_draw.pth.ad K) fd ∧ Binds K fd ["_law_pool", "_law_size"] [] := by
  obtain ⟨fd, F⟩ := T.says.df 44 (d := d_law_draw)
  exact ⟨fd, F, F.binds (ps := ["_law_pool", "_law_size"]) fun _ _ _ _ _ _ us hl => match us, hl with | [_, _], _ => rfl⟩
theorem Tx.f_law_splits : ∃ fd, Fun K d_law_splits.nm d_law_splits.ql d_law_splits.st (d_law_splits.pth.ad K) fd ∧ Binds K fd ["_law_size", "_law_most"] [] := by
  obtain ⟨fd, F⟩ := T.says.df 45 (d := d_law_splits)
  exact ⟨fd, F, F.binds (ps := ["_law_size", "_law_most"]) fun _ _ _ _ _ _ us hl => match us, hl with | [_, _], _ => rfl⟩
theorem Tx.f_law_shapes : ∃ fd, Fun K d_law_shapes.nm d_law_shapes.ql d_law_shapes.st (d_law_shapes.pth.ad K) fd ∧ Binds K fd ["_law_size"] [] := by
  obtain ⟨fd, F⟩ := T.says.df 46 (d := d_law_shapes)
  exact ⟨fd, F, F.binds (ps := ["_law_size"]) fun _ _ _ _ _ _ us hl => match us, hl with | [_], _ => rfl⟩
theorem Tx.f_law_product : ∃ fd, Fun K d_law_product.nm d_law_product.ql d_law_product.st (d_law_product.pth.ad K) fd ∧ Binds K fd ["_law_number"] [] := by
  obtain ⟨fd, F⟩ := T.says.df 47 (d := d_law_product)
  exact ⟨fd, F, F.binds (ps := ["_law_number"]) fun _ _ _ _ _ _ us hl => match us, hl with | [_], _ => rfl⟩
theorem Tx.f_law_rows : ∃ fd, Fun K d_law_rows.nm d_law_rows.ql d_law_rows.st (d_law_rows.pth.ad K) fd ∧ Binds K fd ["_law_most"] [] := by
  obtain ⟨fd, F⟩ := T.says.df 48 (d := d_law_rows)
  exact ⟨fd, F, F.binds (ps := ["_law_most"]) fun _ _ _ _ _ _ us hl => match us, hl with | [_], _ => rfl⟩
theorem Tx.f_law_known : ∃ fd, Fun K d_law_known.nm d_law_known.ql d_law_known.st (d_law_known.pth.ad K) fd ∧ Binds K fd [] [] := by
  obtain ⟨fd, F⟩ := T.says.df 49 (d := d_law_known)
  exact ⟨fd, F, F.binds (ps := []) fun _ _ _ _ _ _ us hl => match us, hl with | [], _ => rfl⟩
theorem Tx.f_law : ∃ fd, Fun K d_law.nm d_law.ql d_law.st (d_law.pth.ad K) fd ∧ Binds K fd ["_law_script"] [] := by
  obtain ⟨fd, F⟩ := T.says.df 50 (d := d_law)
  exact ⟨fd, F, F.binds (ps := ["_law_script"]) fun _ _ _ _ _ _ us hl => match us, hl with | [_], _ => rfl⟩
end
end Ck
set_option maxHeartbeats 4000000
/-! a def's promise by its datum; the rules that call it; the defs over ints -/
namespace Ck
open PySem PySem.Spec PyProof.Rows L2
/-- the def d keeps the promise sp, by at most level k -/
structure Ok (P : Program) (w : World) (K : PySem.W.Frag) (mg : Str → Option Value) (base : Heap) (k : Nat) (d : Df) (ps : List Str) (sp : Sp) : Prop where
  ex : ∃ fd, FnOk P w K mg base CX0 k (d.pth.ad K) fd ps sp ∧ Binds K fd ps []
  kp : PySem.W.keepIn K (.ref (d.pth.ad K)) = true
section
variable {P : Program} {w : World} {K : PySem.W.Frag} {mg : Str → Option Value} {base : Heap} {k : Nat} {d : Df} {N ps : List Str} {sp : Sp}
theorem mk_ok (F : ∃ fd, Fun K d.nm d.ql d.st (d.pth.ad K) fd ∧ Binds K fd ps []) (S : FnScope N ps (defScope d.st)) (len : ∀ vs H Q E, sp vs H Q E → vs.length = ps.length)
    (hbody : ∀ (cdv : Value) (A : Around) (outer : List Env) (s : Shared) (H : Hp) (vs : List V) (Q : VK) (E : XK), Room k (A.deeper (envOfC d.ql (defScope d.st) s.heap.objs.size (d.pth.ad K) cdv)) → sp vs H Q E →
      ∃ t, PSs (cxOf CX0 P w K mg base N d.ql (defScope d.st) (d.pth.ad K) cdv A outer s H E).nox (defBody d.st) t ∧ t { nx := fun _ H' => Q .non H', rt := Q } (start N vs) H) : Ok P w K mg base (k + 1) d ps sp := by
  obtain ⟨fd, F, B⟩ := F
  exact ⟨⟨fd, F.ok S len hbody, B⟩, F.kp⟩
theorem Ok.mono {j : Nat} (o : Ok P w K mg base j d ps sp) (h : j ≤ k) : Ok P w K mg base k d ps sp := by
  obtain ⟨⟨fd, F, B⟩, kp⟩ := o
  exact ⟨⟨fd, F.mono h, B⟩, kp⟩
end
section
variable {X : Cx} {k j i : Nat} {d : Df} {ps : List Str} {sp : Sp} {x f m : Str} {p pos apos : Pos} {e o : Expr} {es : List Expr} {t : TA} {ta : TE} {C : Addr}
theorem pe_f (G : Ok X.prog X.w X.K X.mg X.base k d ps sp) (hr : Room j X.A) (hk : k ≤ j) (hg : Gl X x) (hm : X.mg x = some (.ref (d.pth.ad X.K))) (ha : PA X (e :: es) t)
    (hdb : (x == ("__debug__" : Str)) = false := by decide) (he : starEach (e :: es) X.env = (false, eval e X.env) :: starEach es X.env := by rfl) (hpl : (backTo pos (starEach es X.env)).any (·.1) = false := by rfl) :
    PE X (.Call (.Name x p) (e :: es) [] pos) (tCall sp [] E0 t) := by
  obtain ⟨⟨fd, F, B⟩, kp⟩ := G
  exact pe_call F (hr.mono hk) hg hm kp B .nil pass0 ha hdb he hpl
theorem pe_f0 (G : Ok X.prog X.w X.K X.mg X.base k d ps sp) (hr : Room j X.A) (hk : k ≤ j) (hg : Gl X x) (hm : X.mg x = some (.ref (d.pth.ad X.K)))
    (hdb : (x == ("__debug__" : Str)) = false := by decide) : PE X (.Call (.Name x p) [] [] pos) (tCall sp [] E0 tNil) := by
  obtain ⟨⟨fd, F, B⟩, kp⟩ := G
  exact pe_call0 F (hr.mono hk) hg hm kp B .nil pass0 hdb
end
theorem gcd_turn {a b : Int} (ha : 0 ≤ a) (hb : 0 < b) : Int.gcd b (a % b) = Int.gcd a b := by
  obtain ⟨m, rfl⟩ := Int.eq_ofNat_of_zero_le ha
  obtain ⟨n, rfl⟩ := Int.eq_ofNat_of_zero_le (Int.le_of_lt hb)
  show Nat.gcd n (m % n) = Nat.gcd m n
  rw [Nat.gcd_comm m n, Nat.gcd_rec n m, Nat.gcd_comm]
section
variable {P : Program} {w : World} {K : PySem.W.Frag} {mg : Str → Option Value} {base : Heap} (T : Tx K mg)
include T
/-- a promise: from these values this value, the heap as it was -/
abbrev spV (pre : List V → V → Prop) : Sp := fun vs H Q _ => ∃ v, pre vs v ∧ Q v H
abbrev sp_is_integer : Sp := fun vs H Q _ => ∃ n : Int, vs = [.int n] ∧ Q (.bl true) H
theorem ok_is_integer : Ok P w K mg base 1 d_is_integer ["value"] sp_is_integer := by
  refine mk_ok T.f_is_integer sc_is_integer (fun vs H Q E h => ?_) (fun cdv A outer s H vs Q E hr h => ?_)
  · obtain ⟨n, rfl, _⟩ := h; rfl
  · obtain ⟨n, rfl, k⟩ := h
    refine ⟨_, pss_one (ps_ret (pe_and (pe_callB call_isi (by rfl) T.z_isinstance (by decide +kernel) (pa_cons (pv 0) (pa_cons (pe_bltn (v := .ty "int") (by rfl) T.z_int (by decide +kernel) rfl) pa_nil)))
      (pe_one (pe_not (pe_callB call_isi (by rfl) T.z_isinstance (by decide +kernel) (pa_cons (pv 0) (pa_cons (pe_bltn (v := .ty "bool") (by rfl) T.z_bool (by decide +kernel) rfl) pa_nil))))))), ?_⟩
    refine ⟨_, rfl, _, _, _, _, true, rfl, .ty "int", .base (.int n), kit_ty (by decide +kernel), _, rfl, iteT ?_⟩
    exact ⟨_, rfl, _, _, _, _, false, rfl, .ty "bool", .base (.int n), kit_ty (by decide +kernel), _, rfl, k⟩
abbrev sp_in_range : Sp := fun vs H Q _ => ∃ n a b : Int, vs = [.int n, .int a, .int b] ∧ Q (.bl (decide (a ≤ n) && decide (n ≤ b))) H
theorem ok_in_range : Ok P w K mg base 2 d_in_range ["value", "least", "most"] sp_in_range := by
  refine mk_ok T.f_in_range sc_in_range (fun vs H Q E h => ?_) (fun cdv A outer s H vs Q E hr h => ?_)
  · obtain ⟨n, a, b, rfl, _⟩ := h; rfl
  · obtain ⟨n, a, b, rfl, k⟩ := h
    refine ⟨_, pss_one (ps_ret (pe_and (pe_f (ok_is_integer T) hr (by decide) (by rfl) T.m_is_integer (pa_cons (pv 0) pa_nil)) (pe_one (pe_chain op_le op_le (pv 1) (pv 0) (pv 2))))), ?_⟩
    refine ⟨_, rfl, n, rfl, _, rfl, iteT ?_⟩
    refine ⟨_, rfl, _, rfl, _, _, rfl, rfl, _, rfl, ?_⟩
    by_cases hc : a ≤ n
    · rw [decide_eq_true hc] at k ⊢
      exact iteT ⟨_, rfl, _, _, rfl, rfl, k⟩
    · rw [decide_eq_false hc] at k ⊢
      exact iteF k
abbrev sp_check_size : Sp := fun vs H Q _ => ∃ n : Int, vs = [.int n] ∧ (1 ≤ n ∧ n ≤ 300) ∧ Q .non H
theorem ok_check_size : Ok P w K mg base 3 d_check_size ["size"] sp_check_size := by
  obtain ⟨tk, hc⟩ := T.c_MAX_SIZE
  refine mk_ok T.f_check_size sc_check_size (fun vs H Q E h => ?_) (fun cdv A outer s H vs Q E hr h => ?_)
  · obtain ⟨n, rfl, _⟩ := h; rfl
  · obtain ⟨n, rfl, ⟨h1, h2⟩, k⟩ := h
    refine ⟨_, pss_one (ps_if (pt_not (pt_val (pe_f (ok_in_range T) hr (by decide) (by rfl) T.m_in_range (pa_cons (pv 0) (pa_cons pe_int (pa_cons (pe_glob (v := .int 300) (by rfl) hc ⟨_, rfl⟩) pa_nil)))))) pss_never pss_nil), ?_⟩
    refine ⟨_, rfl, n, 1, 300, rfl, _, rfl, ?_⟩
    rw [decide_eq_true h1, decide_eq_true h2]
    exact iteF k
abbrev sp_check_degree : Sp := fun vs H Q _ => ∃ n : Int, vs = [.int n] ∧ (1 ≤ n ∧ n ≤ 10 ^ 30) ∧ Q .non H
theorem ok_check_degree : Ok P w K mg base 3 d_check_degree ["degree"] sp_check_degree := by
  obtain ⟨tk, hc⟩ := T.c_MAX_DEGREE
  refine mk_ok T.f_check_degree sc_check_degree (fun vs H Q E h => ?_) (fun cdv A outer s H vs Q E hr h => ?_)
  · obtain ⟨n, rfl, _⟩ := h; rfl
  · obtain ⟨n, rfl, ⟨h1, h2⟩, k⟩ := h
    refine ⟨_, pss_one (ps_if (pt_not (pt_val (pe_f (ok_in_range T) hr (by decide) (by rfl) T.m_in_range (pa_cons (pv 0) (pa_cons pe_int (pa_cons (pe_glob (v := .int (10 ^ 30)) (by rfl) hc ⟨_, rfl⟩) pa_nil)))))) pss_never pss_nil), ?_⟩
    refine ⟨_, rfl, n, 1, 10 ^ 30, rfl, _, rfl, ?_⟩
    rw [decide_eq_true h1, decide_eq_true h2]
    exact iteF k
abbrev sp_gcd : Sp := fun vs H Q _ => ∃ a b : Int, vs = [.int a, .int b] ∧ (0 ≤ a ∧ 0 ≤ b) ∧ Q (.int ((Int.gcd a b : Nat) : Int)) H
theorem ok_gcd : Ok P w K mg base 1 d_greatest_divisor ["one", "other"] sp_gcd := by
  refine mk_ok T.f_greatest_divisor sc_greatest_divisor (fun vs H Q E h => ?_) (fun cdv A outer s H vs Q E hr h => ?_)
  · obtain ⟨a, b, rfl, _⟩ := h; rfl
  · obtain ⟨a, b, rfl, ⟨ha, hb⟩, k⟩ := h
    refine ⟨_, pss_cons (ps_while PassesOwn.never (pt_cmpR op_gt (pv 1) pe_int (nomark _))
        (pss_one (ps_par (i := 0) (j := 1) (by rfl) sc_greatest_divisor.nd rfl rfl (by decide) rfl rfl (pa_cons (pv 1) (pa_cons (pe_op op_mod (pv 0) (pv 1)) pa_nil)) (by rfl))))
      (pss_one (ps_ret (pv 0))), ?_⟩
    refine ⟨fun m σ H' => ∃ x y : Int, σ = [some (.int x), some (.int y)] ∧ H' = H ∧ (0 ≤ x ∧ 0 ≤ y) ∧ Int.gcd x y = Int.gcd a b ∧ m = y.toNat, ⟨_, a, b, rfl, rfl, ⟨ha, hb⟩, rfl, rfl⟩, ?_⟩
    rintro m σ H' ⟨x, y, rfl, rfl, ⟨hx, hy⟩, hg, rfl⟩
    refine ⟨_, rfl, _, _, rfl, rfl, _, rfl, ?_⟩
    by_cases h0 : (0 : Int) < y
    · rw [decide_eq_true h0]
      refine iteT ⟨fun σ' H2 => σ' = [some (.int y), some (.int (x % y))] ∧ H2 = H', ?_, ?_⟩
      · rintro σ' H2 ⟨rfl, rfl⟩
        have h1 := Int.emod_nonneg x (Int.ne_of_gt h0)
        have h2 := Int.emod_lt_of_pos x h0
        exact ⟨_, by omega, y, x % y, rfl, rfl, ⟨hy, h1⟩, (gcd_turn hx h0).trans hg, rfl⟩
      · exact ⟨_, rfl, _, rfl, _, rfl, _, _, rfl, rfl, h0, _, _, rfl, rfl, rfl⟩
    · rw [decide_eq_false h0]
      refine iteF ⟨_, rfl, ?_⟩
      have e : y = 0 := by omega
      subst e
      rw [← hg, Int.gcd_zero_right, Int.natAbs_of_nonneg hx] at k
      exact k
end
/-! products -/
/-- the product of 1 .. n -/
def fact : Nat → Int
  | 0 => 1
  | n + 1 => fact n * (1 + (n : Int))
def powr (b : Int) : Nat → Int
  | 0 => 1
  | n + 1 => powr b n * b
def chooseN (size : Int) : Nat → Int
  | 0 => 1
  | n + 1 => chooseN size n * (size - (0 + (n : Int))) / ((0 + (n : Int)) + 1)
def choices (size part : Int) : Int := if part ≤ size then chooseN size part.toNat else 0
theorem cmulR {i j : Int} (h : j.natAbs < 1000) : CMul i j := .inr (by omega)
theorem cmulL {i j : Int} (h : i.natAbs < 1000) : CMul i j := .inl (by omega)
section
variable {P : Program} {w : World} {K : PySem.W.Frag} {mg : Str → Option Value} {base : Heap} (T : Tx K mg)
include T
abbrev sp_fact : Sp := fun vs H Q _ => ∃ n : Int, vs = [.int n] ∧ (0 ≤ n ∧ n ≤ 300) ∧ Q (.int (fact n.toNat)) H
theorem ok_factorial : Ok P w K mg base 1 d_factorial ["number"] sp_fact := by
  refine mk_ok T.f_factorial sc_factorial (fun vs H Q E h => ?_) (fun cdv A outer s H vs Q E hr h => ?_)
  · obtain ⟨n, rfl, _⟩ := h; rfl
  · obtain ⟨n, rfl, ⟨h0, h1⟩, k⟩ := h
    refine ⟨_, pss_cons (ps_set (i := 1) sc_factorial.nd rfl (Or.inl rfl) pe_int) (pss_cons (ps_for PassesOwn.never (by rfl) (pi_range2 (by rfl) T.z_range (pa_cons pe_int (pa_cons (pe_op op_add (pv 0) pe_int) pa_nil))) (pg_name (i := 2) sc_factorial.nd rfl (Or.inl rfl))
      (pss_one (ps_aug (i := 1) sc_factorial.nd rfl (Or.inl rfl) (pv 2) iop_mul))) (pss_one (ps_ret (pv 1)))), ?_⟩
    refine ⟨_, rfl, _, _, rfl, rfl, 1, n + 1, rfl, ⟨by decide, by decide, by omega, by omega⟩, ?_⟩
    refine for_range (lo := 1) (n := (n + 1 - 1).toNat) (fun i σ H' => ∃ z, σ = [some (.int n), some (.int (fact i)), z] ∧ H' = H) ⟨_, rfl, rfl⟩ ?_ ?_
    · rintro i σ H' hi ⟨z, rfl, rfl⟩
      refine ⟨_, rfl, _, rfl, _, _, rfl, rfl, cmulR (by omega), _, rfl, rfl⟩
    · rintro σ H' ⟨z, rfl, rfl⟩
      refine ⟨_, rfl, ?_⟩
      rw [show (n + 1 - 1).toNat = n.toNat by omega]
      exact k
abbrev sp_powr : Sp := fun vs H Q _ => ∃ b n : Int, vs = [.int b, .int n] ∧ (b.natAbs < 1000 ∧ 0 ≤ n ∧ n ≤ 300) ∧ Q (.int (powr b n.toNat)) H
theorem ok_power_of : Ok P w K mg base 1 d_power_of ["base", "exponent"] sp_powr := by
  refine mk_ok T.f_power_of sc_power_of (fun vs H Q E h => ?_) (fun cdv A outer s H vs Q E hr h => ?_)
  · obtain ⟨b, n, rfl, _⟩ := h; rfl
  · obtain ⟨b, n, rfl, ⟨hb, h0, h1⟩, k⟩ := h
    refine ⟨_, pss_cons (ps_set (i := 2) sc_power_of.nd rfl (Or.inl rfl) pe_int) (pss_cons (ps_for PassesOwn.never (by rfl) (pi_range1 (by rfl) T.z_range (pa_cons (pv 1) pa_nil)) (pg_name (i := 3) sc_power_of.nd rfl (Or.inl rfl))
      (pss_one (ps_aug (i := 2) sc_power_of.nd rfl (Or.inl rfl) (pv 0) iop_mul))) (pss_one (ps_ret (pv 2)))), ?_⟩
    refine ⟨_, rfl, n, rfl, by omega, by omega, ?_⟩
    refine for_range (lo := 0) (n := n.toNat) (fun i σ H' => ∃ z, σ = [some (.int b), some (.int n), some (.int (powr b i)), z] ∧ H' = H) ⟨_, rfl, rfl⟩ ?_ ?_
    · rintro i σ H' hi ⟨z, rfl, rfl⟩
      exact ⟨_, rfl, _, rfl, _, _, rfl, rfl, cmulR hb, _, rfl, rfl⟩
    · rintro σ H' ⟨z, rfl, rfl⟩
      exact ⟨_, rfl, k⟩
abbrev sp_choices : Sp := fun vs H Q _ => ∃ a b : Int, vs = [.int a, .int b] ∧ (a.natAbs ≤ 300 ∧ 0 ≤ b ∧ b ≤ 300) ∧ Q (.int (choices a b)) H
theorem ok_choices : Ok P w K mg base 1 d_choices ["size", "part"] sp_choices := by
  refine mk_ok T.f_choices sc_choices (fun vs H Q E h => ?_) (fun cdv A outer s H vs Q E hr h => ?_)
  · obtain ⟨a, b, rfl, _⟩ := h; rfl
  · obtain ⟨a, b, rfl, ⟨ha, h0, h1⟩, k⟩ := h
    refine ⟨_, pss_cons (ps_set (i := 2) sc_choices.nd rfl (Or.inl rfl) pe_int) (pss_cons (ps_for PassesOwn.never (by rfl) (pi_range1 (by rfl) T.z_range (pa_cons (pv 1) pa_nil)) (pg_name (i := 3) sc_choices.nd rfl (Or.inl rfl))
      (pss_one (ps_set (i := 2) sc_choices.nd rfl (Or.inl rfl) (pe_op op_fdiv (pe_op op_mul (pv 2) (pe_op op_sub (pv 0) (pv 3))) (pe_op op_add (pv 3) pe_int)))))
      (pss_one (ps_ret (pe_ifExp (pt_cmpR op_le (pv 1) (pv 0) (nomark _)) (pv 2) pe_int)))), ?_⟩
    refine ⟨_, rfl, b, rfl, by omega, by omega, ?_⟩
    refine for_range (lo := 0) (n := b.toNat) (fun i σ H' => ∃ z, σ = [some (.int a), some (.int b), some (.int (chooseN a i)), z] ∧ H' = H) ⟨_, rfl, rfl⟩ ?_ ?_
    · rintro i σ H' hi ⟨z, rfl, rfl⟩
      refine ⟨_, rfl, _, rfl, _, rfl, _, _, rfl, rfl, _, _, rfl, rfl, cmulR (by omega), _, rfl, _, _, rfl, rfl, _, _, rfl, rfl, ⟨by omega, by omega⟩, _, rfl, rfl⟩
    · rintro σ H' ⟨z, rfl, rfl⟩
      refine ⟨_, rfl, _, rfl, _, _, rfl, rfl, _, rfl, ?_⟩
      have k2 : Q (.int (if b ≤ a then chooseN a b.toNat else 0)) H' := k
      by_cases hc : b ≤ a
      · rw [if_pos hc] at k2
        rw [decide_eq_true hc]
        exact iteT ⟨_, rfl, k2⟩
      · rw [if_neg hc] at k2
        rw [decide_eq_false hc]
        exact iteF k2
end
end Ck
set_option maxHeartbeats 4000000
/-! dicts of ints, growing heaps, loops by turns -/
namespace Ck
open PySem PySem.Spec PyProof.Rows L2
/-! ### heaps -/
theorem Same.nw {H : Hp} {p : Addr} {o : HO} (h : H p = none) : Same H (upd H p o) := fun a u e => by rw [upd_ne (ne_of_none e h)]; exact e
theorem Same.mu {H H' : Hp} {p : Addr} {o : HO} (e : Same H H') (h : H p = none) : Same H (upd H' p o) := fun a u ha => by rw [upd_ne (ne_of_none ha h)]; exact e a u ha
/-- p is laid or changed, q stands -/
theorem upd_at {H : Hp} {p q : Addr} {o u : HO} (h : H q = some u) (n : q ≠ p) : upd H p o q = some u := by rw [upd_ne n]; exact h
/-! ### dicts of ints, by key and by value -/
abbrev Z2 := List (Int × Int)
def look (k : Int) (l : Z2) : Option Int := (l.find? fun p => decide (p.1 = k)).map (·.2)
def put (k v : Int) (l : Z2) : Z2 := if (l.any fun p => decide (p.1 = k)) = true then l.map (fun p => if p.1 = k then (p.1, v) else p) else l ++ [(k, v)]
def has (k : Int) (l : List Int) : Bool := l.any fun x => decide (x = k)
def putL (k : Int) (l : List Int) : List Int := if has k l = true then l else l ++ [k]
def dI (l : Z2) : List (Key × V) := l.map fun p => (Sum.inl p.1, V.int p.2)
def dB (l : List Int) : List (Key × V) := l.map fun x => (Sum.inl x, V.bl true)
theorem inl_iff {a b : Int} : ((Sum.inl a : Key) = Sum.inl b) ↔ a = b := ⟨Sum.inl.inj, fun e => e ▸ rfl⟩
theorem dI_any (k : Int) (l : Z2) : ((dI l).any fun kv => decide (kv.1 = (Sum.inl k : Key))) = l.any fun p => decide (p.1 = k) := by
  induction l with
  | nil => rfl
  | cons p r ih =>
    show (decide ((Sum.inl p.1 : Key) = Sum.inl k) || (dI r).any _) = (decide (p.1 = k) || r.any _)
    rw [ih]
    congr 1
    exact decide_eq_decide.mpr inl_iff
theorem dI_val (k : Int) (l : Z2) : valV (dI l) (Sum.inl k) = (look k l).map V.int := by
  induction l with
  | nil => rfl
  | cons p r ih =>
    by_cases e : p.1 = k
    · rw [show dI (p :: r) = (Sum.inl p.1, V.int p.2) :: dI r from rfl, valV_pos (inl_iff.mpr e)]
      unfold look
      rw [List.find?_cons, decide_eq_true e]
      rfl
    · rw [show dI (p :: r) = (Sum.inl p.1, V.int p.2) :: dI r from rfl, valV_neg (fun z => e (inl_iff.mp z)), ih]
      unfold look
      rw [List.find?_cons, decide_eq_false e]
theorem dI_put (k v : Int) (l : Z2) : putK (dI l) (Sum.inl k) (.int v) = dI (put k v l) := by
  unfold putK put
  rw [dI_any]
  split
  · unfold dI
    rw [List.map_map, List.map_map]
    refine List.map_congr_left fun p _ => ?_
    show (if (Sum.inl p.1 : Key) = Sum.inl k then (Sum.inl p.1, V.int v) else (Sum.inl p.1, V.int p.2)) = (Sum.inl (if p.1 = k then (p.1, v) else p).1, V.int (if p.1 = k then (p.1, v) else p).2)
    by_cases e : p.1 = k
    · rw [if_pos (inl_iff.mpr e), if_pos e]
    · rw [if_neg (fun z => e (inl_iff.mp z)), if_neg e]
  · unfold dI
    rw [List.map_append]
    rfl
theorem dB_any (k : Int) (l : List Int) : ((dB l).any fun kv => decide (kv.1 = (Sum.inl k : Key))) = has k l := by
  induction l with
  | nil => rfl
  | cons p r ih =>
    show (decide ((Sum.inl p : Key) = Sum.inl k) || (dB r).any _) = (decide (p = k) || r.any _)
    rw [ih]
    congr 1
    exact decide_eq_decide.mpr inl_iff
theorem dB_val (k : Int) (l : List Int) : (valV (dB l) (Sum.inl k)).isSome = has k l := by rw [← valV_any, dB_any]
theorem dB_put (k : Int) (l : List Int) : putK (dB l) (Sum.inl k) (.bl true) = dB (putL k l) := by
  unfold putK putL
  rw [dB_any]
  split
  · unfold dB
    rw [List.map_map]
    refine List.map_congr_left fun p _ => ?_
    show (if (Sum.inl p : Key) = Sum.inl k then (Sum.inl p, V.bl true) else (Sum.inl p, V.bl true)) = (Sum.inl p, V.bl true)
    split <;> rfl
  · unfold dB
    rw [List.map_append]
    rfl
theorem dI_at {l : Z2} {i : Nat} {k : Key} {v : V} (h : (dI l)[i]? = some (k, v)) : ∃ p, l[i]? = some p ∧ k = Sum.inl p.1 ∧ v = .int p.2 := by
  unfold dI at h
  rw [List.getElem?_map] at h
  obtain ⟨p, hp, e⟩ := Option.map_eq_some_iff.mp h
  cases e
  exact ⟨p, hp, rfl, rfl⟩
theorem dB_at {l : List Int} {i : Nat} {k : Key} {v : V} (h : (dB l)[i]? = some (k, v)) : ∃ p, l[i]? = some p ∧ k = Sum.inl p ∧ v = .bl true := by
  unfold dB at h
  rw [List.getElem?_map] at h
  obtain ⟨p, hp, e⟩ := Option.map_eq_some_iff.mp h
  cases e
  exact ⟨p, hp, rfl, rfl⟩
theorem dI_len (l : Z2) : (dI l).length = l.length := List.length_map ..
theorem dB_len (l : List Int) : (dB l).length = l.length := List.length_map ..
theorem dI_app (a b : Z2) : dI (a ++ b) = dI a ++ dI b := List.map_append ..
/-- a dict is read -/
theorem DGet.r {H : Hp} {a : Addr} {l : Z2} {k : Int} (e : Rd H a (.dK (dI l))) : DGet H a (.int k) ((look k l).map V.int) := by
  rw [← dI_val]
  exact .inl ⟨_, Sum.inl k, e, rfl, rfl⟩
theorem DGet.b {H : Hp} {a : Addr} {l : List Int} {k : Int} (e : Rd H a (.dK (dB l))) : ∃ o, DGet H a (.int k) o ∧ o.isSome = has k l :=
  ⟨_, .inl ⟨_, Sum.inl k, e, rfl, rfl⟩, dB_val k l⟩
theorem DPut.r {H : Hp} {a : Addr} {l : Z2} {k v : Int} (e : H a = some (.dK (dI l))) (h : l.length < 100000) : DPut H a (.int k) (.int v) (upd H a (.dK (dI (put k v l)))) := by
  rw [← dI_put]
  exact DPut.k (k := Sum.inl k) e (by rw [dI_len]; exact Nat.lt_trans h (by decide))
theorem DPut.b {H : Hp} {a : Addr} {l : List Int} {k : Int} (e : H a = some (.dK (dB l))) (h : l.length < 100000) : DPut H a (.int k) (.bl true) (upd H a (.dK (dB (putL k l)))) := by
  rw [← dB_put]
  exact DPut.k (k := Sum.inl k) e (by rw [dB_len]; exact Nat.lt_trans h (by decide))
theorem put_len (k v : Int) (l : Z2) : (put k v l).length ≤ l.length + 1 := by
  have h := length_putK (dI l) (Sum.inl k) (.int v)
  rw [dI_put, dI_len, dI_len] at h
  exact h
theorem putL_len (k : Int) (l : List Int) : (putL k l).length ≤ l.length + 1 := by
  unfold putL
  split
  · exact Nat.le_succ _
  · rw [List.length_append]; exact Nat.le_refl _
/-! ### the mirror's loops -/
def itN {α : Type} (f : Nat → α → Option α) (a : α) : Nat → Option α
  | 0 => some a
  | i + 1 => (itN f a i).bind (f i)
theorem itN_lt {α : Type} {f : Nat → α → Option α} {a r : α} : ∀ {n : Nat}, itN f a n = some r → ∀ i, i ≤ n → ∃ x, itN f a i = some x
  | 0, h, i, hi => by
    obtain rfl : i = 0 := by omega
    exact ⟨a, rfl⟩
  | n + 1, h, i, hi => by
    obtain ⟨x, h1, h2⟩ := Option.bind_eq_some_iff.mp (show (itN f a n).bind (f n) = some r from h)
    by_cases e : i = n + 1
    · exact ⟨r, by rw [e]; exact h⟩
    · exact itN_lt h1 i (by omega)
/-- one turn: the state before it is x, then the state behind it is f i x -/
theorem itN_turn {α : Type} {f : Nat → α → Option α} {a r x : α} {n i : Nat} (h : itN f a n = some r) (hi : i < n) (hx : itN f a i = some x) : ∃ y, f i x = some y ∧ itN f a (i + 1) = some y := by
  obtain ⟨y, hy⟩ := itN_lt h (i + 1) hi
  have h2 : (itN f a i).bind (f i) = some y := hy
  rw [hx] at h2
  exact ⟨y, h2, hy⟩
/-- .. over a list's items -/
def itL {α β : Type} (f : α → β → Option α) (xs : List β) (a : α) : Nat → Option α := itN (fun j s => (xs[j]?).bind (f s)) a
theorem itL_turn {α β : Type} {f : α → β → Option α} {xs : List β} {a r x : α} {n i : Nat} {b : β} (h : itL f xs a n = some r) (hi : i < n) (hx : itL f xs a i = some x) (hb : xs[i]? = some b) : ∃ y, f x b = some y ∧ itL f xs a (i + 1) = some y := by
  obtain ⟨y, h1, h2⟩ := itN_turn h hi hx
  rw [hb] at h1
  exact ⟨y, h1, h2⟩
/-! ### loops of the layer, by turns -/
theorem for_gen {J : It} {n : Nat} {g : TG} {tb : TS} {D : Ends} {σ : L2.St} {H : Hp} (Pv : Nat → L2.St → Hp → Prop) (h0 : Pv 0 σ H) (hg : ∀ i σ H, i < n → Pv i σ H → J.go i H) (ht : ∀ σ H, Pv n σ H → J.stop n H)
    (hs : ∀ i σ H, i < n → Pv i σ H → ∀ x H', J.yld i H x H' → g x σ H' fun σ2 H2 => tb { D with nx := Pv (i + 1), ct := Pv (i + 1), bk := D.nx } σ2 H2) (hd : ∀ σ H, Pv n σ H → D.nx σ H) :
    ∃ W : Nat → Nat → L2.St → Hp → Prop, (∃ m, W 0 m σ H) ∧ ∀ i m σ H, W i m σ H →
      (J.stop i H ∧ D.nx σ H) ∨ (J.go i H ∧ ∃ N : L2.St → Hp → Prop, (∀ σ' H', N σ' H' → ∃ m', m' < m ∧ W (i + 1) m' σ' H') ∧ ∀ x H', J.yld i H x H' → g x σ H' fun σ2 H2 => tb { D with nx := N, ct := N, bk := D.nx } σ2 H2) := by
  refine ⟨fun i m σ H => m = n - i ∧ i ≤ n ∧ Pv i σ H, ⟨n, rfl, Nat.zero_le _, h0⟩, ?_⟩
  rintro i m σ H ⟨rfl, hi, p⟩
  by_cases hlt : i < n
  · exact .inr ⟨hg i σ H hlt p, Pv (i + 1), fun σ' H' p' => ⟨n - (i + 1), by omega, rfl, hlt, p'⟩, fun x H' y => hs i σ H hlt p x H' y⟩
  · obtain rfl : i = n := by omega
    exact .inl ⟨ht σ H p, hd σ H p⟩
theorem comp_gen {J : It} {n : Nat} {Qd : Hp → Prop} {B : V → Hp → (Hp → Prop) → Prop} {H1 : Hp} (Pv : Nat → Hp → Prop) (h0 : Pv 0 H1) (hg : ∀ i H, i < n → Pv i H → J.go i H) (ht : ∀ H, Pv n H → J.stop n H)
    (hs : ∀ i H, i < n → Pv i H → ∀ x H', J.yld i H x H' → B x H' (Pv (i + 1))) (hd : ∀ H, Pv n H → Qd H) :
    ∃ W : Nat → Nat → Hp → Prop, (∃ m, W 0 m H1) ∧ ∀ i m H, W i m H →
      (J.stop i H ∧ Qd H) ∨ (J.go i H ∧ ∃ Nx : Hp → Prop, (∀ H', Nx H' → ∃ m', m' < m ∧ W (i + 1) m' H') ∧ ∀ x H', J.yld i H x H' → B x H' Nx) := by
  refine ⟨fun i m H => m = n - i ∧ i ≤ n ∧ Pv i H, ⟨n, rfl, Nat.zero_le _, h0⟩, ?_⟩
  rintro i m H ⟨rfl, hi, p⟩
  by_cases hlt : i < n
  · exact .inr ⟨hg i H hlt p, Pv (i + 1), fun H' p' => ⟨n - (i + 1), by omega, rfl, hlt, p'⟩, fun x H' y => hs i H hlt p x H' y⟩
  · obtain rfl : i = n := by omega
    exact .inl ⟨ht H p, hd H p⟩
/-! ### a thing locked for good, once it is made -/
def tFz (ta : TE) : TE := fun σ H Q => ta σ H fun x H1 => ∃ d u, x = .ref d ∧ H1 d = some u ∧ Mut (some u) ∧ ∀ od, Q (.ref d) (upd H1 d (.frz od u))
theorem pe_fz {X : Cx} {e : Expr} {ta : TE} (h : PE X e ta) : PE X e (tFz ta) := by
  refine ⟨fun pins s σ H Q I hw => ?_⟩
  refine thn (h.run pins s σ H _ I hw) fun u s1 q => ?_
  obtain ⟨x, H1, I1, rx, d, o, rfl, hd, mu, q⟩ := q
  obtain ⟨od, I2⟩ := I1.lock hd mu
  exact ⟨_, _, I2, rx, q od⟩
/-! ### instances of the program's classes -/
structure Mp where
  size : Int
  arr : Z2
structure Sh where
  cyc : Z2
  chn : Z2
def two2 (f g : Str) (x y : V) : List (Str × V) := putF g y (putF f x [])
theorem two2_fst {f g : Str} {x y : V} (h : ¬ f = g) : (two2 f g x y).lookup f = some x := by
  unfold two2
  rw [lookup_putF, if_neg h, lookup_putF, if_pos rfl]
theorem two2_snd {f g : Str} {x y : V} : (two2 f g x y).lookup g = some y := by
  unfold two2
  rw [lookup_putF, if_pos rfl]
theorem two2_no {f g m : Str} {x y : V} (h1 : ¬ m = g) (h2 : ¬ m = f) : (two2 f g x y).lookup m = none := by
  unfold two2
  rw [lookup_putF, if_neg h1, lookup_putF, if_neg h2]
  rfl
theorem two2_len {f g : Str} {x y : V} : (two2 f g x y).length < 1000 := by
  unfold two2
  have h1 := length_putF g y (putF f x [])
  have h2 := length_putF f x []
  have h3 : ([] : List (Str × V)).length = 0 := rfl
  omega
abbrev mFs (n : Int) (d : Addr) : List (Str × V) := two2 "own_size" "own_arrows" (.int n) (.ref d)
abbrev sFs (c d : Addr) : List (Str × V) := two2 "own_cycles" "own_chains" (.ref c) (.ref d)
theorem mF_size {n : Int} {d : Addr} : (mFs n d).lookup ("own_size" : Str) = some (V.int n) := two2_fst (by decide +kernel)
theorem mF_arr {n : Int} {d : Addr} : (mFs n d).lookup ("own_arrows" : Str) = some (V.ref d) := two2_snd
theorem sF_cyc {c d : Addr} : (sFs c d).lookup ("own_cycles" : Str) = some (V.ref c) := two2_fst (by decide +kernel)
theorem sF_chn {c d : Addr} : (sFs c d).lookup ("own_chains" : Str) = some (V.ref d) := two2_snd
/-- a Map stands at a | a Shape -/
def MapAt (K : PySem.W.Frag) (H : Hp) (a : Addr) (m : Mp) : Prop := ∃ dx d, H a = some (.ins (He.ga K "Map") dx (mFs m.size d)) ∧ H d = some (.dK (dI m.arr))
def ShAt (K : PySem.W.Frag) (H : Hp) (a : Addr) (s : Sh) : Prop := ∃ dx c d, H a = some (.ins (He.ga K "Shape") dx (sFs c d)) ∧ H c = some (.dK (dI s.cyc)) ∧ H d = some (.dK (dI s.chn))
theorem MapAt.mono {K : PySem.W.Frag} {H H' : Hp} {a : Addr} {m : Mp} (h : MapAt K H a m) (e : Same H H') : MapAt K H' a m := let ⟨dx, d, h1, h2⟩ := h; ⟨dx, d, e _ _ h1, e _ _ h2⟩
theorem ShAt.mono {K : PySem.W.Frag} {H H' : Hp} {a : Addr} {s : Sh} (h : ShAt K H a s) (e : Same H H') : ShAt K H' a s := let ⟨dx, c, d, h1, h2, h3⟩ := h; ⟨dx, c, d, e _ _ h1, e _ _ h2, e _ _ h3⟩
end Ck
set_option maxHeartbeats 4000000
/-! maps -/
namespace Ck
open PySem PySem.Spec PyProof.Rows L2
/-! ### tests -/
theorem ifF {b : Bool} {A B : Prop} (e : b = false) (h : B) : if b = true then A else B := by rw [e]; exact iteF h
theorem ifT {b : Bool} {A B : Prop} (e : b = true) (h : A) : if b = true then A else B := by rw [e]; exact iteT h
theorem not_t {b : Bool} (e : b = true) : (!b) = false := by rw [e]; rfl
theorem not_f {b : Bool} (e : b = false) : (!b) = true := by rw [e]; rfl
/-! ### walks over a locked dict -/
section
variable {K : PySem.W.Frag} {d : Addr} {od : Obj} {kvs : List (Key × V)} {a b : Nat} {tb : TS} {D : Ends} {σ : L2.St} {H : Hp}
/-- for k, v in d.items() -/
theorem for_its (Pv : Nat → L2.St → Hp → Prop) (h0 : Pv 0 σ H) (hl : ∀ i σ H, i ≤ kvs.length → Pv i σ H → H d = some (.frz od (.dK kvs)))
    (hs : ∀ i k v σ H H2, kvs[i]? = some (k, v) → Pv i σ H → Same H H2 → tb { D with nx := Pv (i + 1), ct := Pv (i + 1), bk := D.nx } ((σ.set a (some (kV k))).set b (some v)) H2) (hd : ∀ σ H, Pv kvs.length σ H → D.nx σ H) :
    ∃ W : Nat → Nat → L2.St → Hp → Prop, (∃ m, W 0 m σ H) ∧ ∀ i m σ H, W i m σ H →
      ((Iti d od kvs).stop i H ∧ D.nx σ H) ∨ ((Iti d od kvs).go i H ∧ ∃ N : L2.St → Hp → Prop, (∀ σ' H', N σ' H' → ∃ m', m' < m ∧ W (i + 1) m' σ' H') ∧ ∀ x H', (Iti d od kvs).yld i H x H' → gTup K 2 (gCons (gName a) (gCons (gName b) gNil)) x σ H' fun σ2 H2 => tb { D with nx := N, ct := N, bk := D.nx } σ2 H2) := by
  refine for_gen (n := kvs.length) Pv h0 (fun i σ H hi p => ⟨hl i σ H (Nat.le_of_lt hi) p, hi⟩) (fun σ H p => ⟨hl _ σ H (Nat.le_refl _) p, Nat.le_refl _⟩) (fun i σ H hi p x H' y => ?_) hd
  obtain ⟨Tp, k, v, e, rfl, hT, rfl⟩ := y
  exact ⟨Tp, _, rfl, SqT.of upd_same, rfl, _, _, rfl, _, _, rfl, rfl, hs i k v σ H _ e p (Same.nw hT)⟩
/-- for v in d.values() -/
theorem for_vals (Pv : Nat → L2.St → Hp → Prop) (h0 : Pv 0 σ H) (hl : ∀ i σ H, i ≤ kvs.length → Pv i σ H → H d = some (.frz od (.dK kvs)))
    (hs : ∀ i k v σ H, kvs[i]? = some (k, v) → Pv i σ H → tb { D with nx := Pv (i + 1), ct := Pv (i + 1), bk := D.nx } (σ.set a (some v)) H) (hd : ∀ σ H, Pv kvs.length σ H → D.nx σ H) :
    ∃ W : Nat → Nat → L2.St → Hp → Prop, (∃ m, W 0 m σ H) ∧ ∀ i m σ H, W i m σ H →
      ((Itd d od kvs).stop i H ∧ D.nx σ H) ∨ ((Itd d od kvs).go i H ∧ ∃ N : L2.St → Hp → Prop, (∀ σ' H', N σ' H' → ∃ m', m' < m ∧ W (i + 1) m' σ' H') ∧ ∀ x H', (Itd d od kvs).yld i H x H' → gName a x σ H' fun σ2 H2 => tb { D with nx := N, ct := N, bk := D.nx } σ2 H2) := by
  refine for_gen (n := kvs.length) Pv h0 (fun i σ H hi p => ⟨hl i σ H (Nat.le_of_lt hi) p, hi⟩) (fun σ H p => ⟨hl _ σ H (Nat.le_refl _) p, Nat.le_refl _⟩) (fun i σ H hi p x H' y => ?_) hd
  obtain ⟨rfl, k, e⟩ := y
  exact hs i k x σ H' e p
end
theorem Same.cg {H H1 : Hp} {d : Addr} {f : HO} (e : Same H H1) : Same (upd H d f) (upd H1 d f) := fun x o hx => by
  by_cases hxd : x = d
  · subst hxd
    rw [upd_same] at hx ⊢
    exact hx
  · rw [upd_ne hxd] at hx ⊢
    exact e _ _ hx
/-- behind a lock -/
theorem unlock {H H' : Hp} {d : Addr} {od : Obj} {u : HO} (hd : H d = some u) (e : Same (upd H d (.frz od u)) H') : H' d = some (.frz od u) ∧ Same H (upd H' d u) := ⟨e _ _ upd_same, fun x o hx => by
  by_cases hxd : x = d
  · subst hxd
    rw [upd_same, ← hd, hx]
  · rw [upd_ne hxd]
    exact e _ _ (upd_at hx hxd)⟩
theorem none_ne {H : Hp} {d t : Addr} {o : HO} (h : H t = none) (n : t ≠ d) : upd H d o t = none := by rw [upd_ne n]; exact h
/-- range(n) in a comprehension, in a for -/
theorem comp_rng {n : Nat} {Qd : Hp → Prop} {B : V → Hp → (Hp → Prop) → Prop} {H1 : Hp} (Pv : Nat → Hp → Prop) (h0 : Pv 0 H1) (hs : ∀ (i : Nat) H, i < n → Pv i H → B (.int (i : Int)) H (Pv (i + 1))) (hd : ∀ H, Pv n H → Qd H) :
    ∃ W : Nat → Nat → Hp → Prop, (∃ m, W 0 m H1) ∧ ∀ i m H, W i m H →
      ((Itr 0 n).stop i H ∧ Qd H) ∨ ((Itr 0 n).go i H ∧ ∃ Nx : Hp → Prop, (∀ H', Nx H' → ∃ m', m' < m ∧ W (i + 1) m' H') ∧ ∀ x H', (Itr 0 n).yld i H x H' → B x H' Nx) := by
  refine comp_gen (n := n) Pv h0 (fun i H hi _ => hi) (fun H _ => Nat.le_refl _) (fun i H hi p x H' y => ?_) hd
  obtain ⟨rfl, rfl⟩ := y
  rw [Int.zero_add]
  exact hs i _ hi p
theorem for_rng {n : Nat} {g : TG} {tb : TS} {D : Ends} {σ : L2.St} {H : Hp} (Pv : Nat → L2.St → Hp → Prop) (h0 : Pv 0 σ H)
    (hs : ∀ (i : Nat) σ H, i < n → Pv i σ H → g (.int (i : Int)) σ H fun σ2 H2 => tb { D with nx := Pv (i + 1), ct := Pv (i + 1), bk := D.nx } σ2 H2) (hd : ∀ σ H, Pv n σ H → D.nx σ H) :
    ∃ W : Nat → Nat → L2.St → Hp → Prop, (∃ m, W 0 m σ H) ∧ ∀ i m σ H, W i m σ H →
      ((Itr 0 n).stop i H ∧ D.nx σ H) ∨ ((Itr 0 n).go i H ∧ ∃ N : L2.St → Hp → Prop, (∀ σ' H', N σ' H' → ∃ m', m' < m ∧ W (i + 1) m' σ' H') ∧ ∀ x H', (Itr 0 n).yld i H x H' → g x σ H' fun σ2 H2 => tb { D with nx := N, ct := N, bk := D.nx } σ2 H2) := by
  refine for_range (lo := 0) (n := n) Pv h0 (fun i σ H hi p => ?_) hd
  rw [Int.zero_add]
  exact hs i σ H hi p
/-! ### the mirror of arrows -/
abbrev inR (n lo hi : Int) : Bool := decide (lo ≤ n) && decide (n ≤ hi)
def arrowF (size : Int) (seen : List Int) (p : Int × Int) : Option (List Int) := if (inR p.1 0 (size - 1) && (inR p.2 0 (size - 1) && !has p.2 seen)) = true then some (putL p.2 seen) else none
def arrowsOk (size : Int) (ar : Z2) : Bool := (itL (arrowF size) ar [] ar.length).isSome
section
variable {P : Program} {w : World} {K : PySem.W.Frag} {mg : Str → Option Value} {base : Heap} (T : Tx K mg)
include T
abbrev sp_are_arrows : Sp := fun vs H Q _ => ∃ (n : Int) (d : Addr) (ar : Z2), vs = [.int n, .ref d] ∧ H d = some (.dK (dI ar)) ∧ (arrowsOk n ar = true ∧ ar.length ≤ 1000) ∧ ∀ H', Same H H' → Q (.bl true) H'
theorem ok_are_arrows : Ok P w K mg base 3 d_are_arrows ["size", "arrows"] sp_are_arrows := by
  refine mk_ok T.f_are_arrows sc_are_arrows (fun vs H Q E h => ?_) (fun cdv A outer s H vs Q E hr h => ?_)
  · obtain ⟨n, d, ar, rfl, _⟩ := h; rfl
  · obtain ⟨n, d, ar, rfl, hd, ⟨ho, hz⟩, k⟩ := h
    have hu := hu_of hr
    have nd := sc_are_arrows.nd
    refine ⟨_, pss_cons (ps_if (pt_not (pt_val (pe_callB call_isi (by rfl) T.z_isinstance (by decide +kernel) (pa_cons (pv 1) (pa_cons (pe_bltn (v := .ty "dict") (by rfl) T.z_dict (by decide +kernel) rfl) pa_nil))))) pss_never pss_nil)
      (pss_cons (ps_set (i := 2) nd rfl (Or.inl rfl) pe_dnewK)
      (pss_cons (ps_lock (ps_for PassesOwn.never (by rfl) (pi_items (pv 1)) (pg_tup (by rfl) (pgs_cons (pg_name (i := 3) nd rfl (Or.inl rfl)) (pgs_cons (pg_name (i := 4) nd rfl (Or.inl rfl)) pgs_nil)))
        (pss_cons (ps_if (PW.pt (pw_or (pt_not (pt_val (pe_f (ok_in_range T) hr (by decide) (by rfl) T.m_in_range (pa_cons (pv 3) (pa_cons pe_int (pa_cons (pe_op op_sub (pv 0) pe_int) pa_nil))))))
            (pw_or (pt_not (pt_val (pe_f (ok_in_range T) hr (by decide) (by rfl) T.m_in_range (pa_cons (pv 4) (pa_cons pe_int (pa_cons (pe_op op_sub (pv 0) pe_int) pa_nil)))))) (pw_or1 (pt_cmp (pc_din hu (pv 4) (pv 2))))))) pss_never pss_nil)
          (pss_one (ps_dput hu (pv 2) (pv 4) pe_bl rfl)))))
      (pss_one (ps_ret pe_bl)))), ?_⟩
    refine ⟨_, rfl, _, _, _, _, true, rfl, .ty "dict", .base (.dK hd), kit_ty (by decide +kernel), _, rfl, iteF ?_⟩
    intro t ht
    have ntd : d ≠ t := ne_of_none hd ht
    refine ⟨d, _, upd_at hd ntd, True.intro, fun od => ?_⟩
    refine ⟨_, rfl, d, od, _, rfl, upd_same, ?_⟩
    obtain ⟨r, hr2⟩ := Option.isSome_iff_exists.mp ho
    have ht2 : upd H d (.frz od (.dK (dI ar))) t = none := none_ne ht (Ne.symm ntd)
    refine for_its (fun i σ H' => ∃ a b seen, σ = [some (.int n), some (.ref d), some (.ref t), a, b] ∧ Same (upd H d (.frz od (.dK (dI ar)))) H' ∧ itL (arrowF n) ar [] i = some seen ∧ H' t = some (.dK (dB seen)) ∧ seen.length ≤ i) ?_ ?_ ?_ ?_
    · exact ⟨_, _, [], rfl, Same.cg (Same.nw ht), rfl, upd_at upd_same (Ne.symm ntd), Nat.le_refl _⟩
    · rintro i σ H' hi ⟨a, b, seen, rfl, e, _⟩
      exact (unlock hd e).1
    · rintro i kk v σ H' H2 hi ⟨a, b, seen, rfl, e, hit, ht', hl⟩ e2
      obtain ⟨p, hp, rfl, rfl⟩ := dI_at hi
      have hlt : i < ar.length := (List.getElem?_eq_some_iff.mp hp).1
      obtain ⟨seen', h1, h2⟩ := itL_turn hr2 hlt hit hp
      unfold arrowF at h1
      split at h1
      · rename_i hc
        cases h1
        obtain ⟨c1, hc⟩ := Bool.and_eq_true_iff.mp hc
        obtain ⟨c2, c3⟩ := Bool.and_eq_true_iff.mp hc
        rw [Bool.not_eq_true'] at c3
        obtain ⟨o, ho1, ho2⟩ := DGet.b (k := p.2) (Rd.of (e2 _ _ ht'))
        refine ⟨_, rfl, _, rfl, _, _, rfl, rfl, p.1, 0, n - 1, rfl, _, rfl, ifF (not_t c1) ?_⟩
        refine ⟨_, rfl, _, rfl, _, _, rfl, rfl, p.2, 0, n - 1, rfl, _, rfl, ifF (not_t c2) ?_⟩
        refine ⟨_, rfl, _, rfl, t, o, rfl, ho1, _, rfl, ifF (ho2.trans c3) ?_⟩
        refine ⟨_, rfl, _, rfl, t, _, rfl, DPut.b (e2 _ _ ht') (by omega), ?_⟩
        exact ⟨_, _, putL p.2 seen, rfl, Same.mu (e.trans e2) ht2, h2, upd_same, by have := putL_len p.2 seen; omega⟩
      · cases h1
    · rintro σ H' ⟨a, b, seen, rfl, e, _⟩
      exact ⟨(unlock hd e).1, k _ (unlock hd e).2⟩
/-- own_arrows: the arrows in the order of their sources -/
def arrG (ar : Z2) : Nat → Z2
  | 0 => []
  | i + 1 => match look (i : Int) ar with
    | some t => put (i : Int) t (arrG ar i)
    | none => arrG ar i
omit T in
theorem arrG_some {ar : Z2} {i : Nat} {t : Int} (h : look (i : Int) ar = some t) : arrG ar (i + 1) = put (i : Int) t (arrG ar i) := by
  show (match look (i : Int) ar with | some t => put (i : Int) t (arrG ar i) | none => arrG ar i) = _
  rw [h]
omit T in
theorem arrG_none {ar : Z2} {i : Nat} (h : look (i : Int) ar = none) : arrG ar (i + 1) = arrG ar i := by
  show (match look (i : Int) ar with | some t => put (i : Int) t (arrG ar i) | none => arrG ar i) = _
  rw [h]
omit T in
theorem arrG_len (ar : Z2) : ∀ i, (arrG ar i).length ≤ i
  | 0 => Nat.le_refl _
  | i + 1 => by
    unfold arrG
    have h := arrG_len ar i
    split
    · have := put_len (i : Int) (by assumption) (arrG ar i); omega
    · omega
def mkMp (n : Int) (ar : Z2) : Mp := ⟨n, arrG ar n.toNat⟩
abbrev sp_Map_init (K : PySem.W.Frag) : Sp := fun vs H Q _ => ∃ (p dx : Addr) (n : Int) (d : Addr) (ar : Z2), vs = [.ref p, .int n, .ref d] ∧ H p = some (.ins (He.ga K "Map") dx []) ∧ H d = some (.dK (dI ar)) ∧
  ((1 ≤ n ∧ n ≤ 300) ∧ arrowsOk n ar = true ∧ ar.length ≤ 1000) ∧ ∀ H', (∀ b o, H b = some o → b ≠ p → H' b = some o) → MapAt K H' p (mkMp n ar) → Q .non H'
theorem ok_Map_init : Ok P w K mg base 4 d_Map_init ["self", "size", "arrows"] (sp_Map_init K) := by
  obtain ⟨tk, hc⟩ := T.c_MAX_SIZE
  refine mk_ok T.f_Map_init sc_Map_init (fun vs H Q E h => ?_) (fun cdv A outer s H vs Q E hr h => ?_)
  · obtain ⟨p, dx, n, d, ar, rfl, _⟩ := h; rfl
  · obtain ⟨p, dx, n, d, ar, rfl, hp, hd, ⟨⟨h1, h2⟩, ho, hz⟩, k⟩ := h
    have hu := hu_of hr
    have nd := sc_Map_init.nd
    have npd : d ≠ p := ne_of hd hp (by intro z; cases z)
    refine ⟨_, pss_cons (ps_if (pt_not (pt_val (pe_f (ok_in_range T) hr (by decide) (by rfl) T.m_in_range (pa_cons (pv 1) (pa_cons pe_int (pa_cons (pe_glob (v := .int 300) (by rfl) hc ⟨_, rfl⟩) pa_nil)))))) pss_never pss_nil)
      (pss_cons (ps_if (pt_not (pt_val (pe_f (ok_are_arrows T) hr (by decide) (by rfl) T.m_are_arrows (pa_cons (pv 1) (pa_cons (pv 2) pa_nil))))) pss_never pss_nil)
      (pss_cons (ps_fld (pv 0) (pv 1) rfl)
      (pss_one (ps_fld (pv 0) (pe_dc (own := [("source", 3)]) (by rfl) nd (pi_range1 (by rfl) T.z_range (pa_cons (pv 1) pa_nil)) (blkOk_by (N := N_Map_init) (sc := defScope s_Map_init) (by decide +kernel)) (fun _ _ _ _ _ => pg_name (i := 3) nd rfl (Or.inl rfl))
        (fun _ _ _ _ _ => pts_one (pt_cmp (pc_din hu (pv 3) (pv 2)))) (fun _ _ _ _ _ => pv 3) (fun _ _ _ _ _ => pe_dget hu (pv 2) (pv 3) (fun _ _ => rfl))) rfl)))), ?_⟩
    refine ⟨_, rfl, n, 1, 300, rfl, _, rfl, ifF (not_t (b := inR n 1 300) (by rw [inR, decide_eq_true h1, decide_eq_true h2]; rfl)) ?_⟩
    refine ⟨_, rfl, _, rfl, n, d, ar, rfl, hd, ⟨ho, hz⟩, fun H1 e1 => ⟨_, rfl, ifF rfl ?_⟩⟩
    refine ⟨_, rfl, _, rfl, p, _, dx, [], rfl, e1 _ _ hp, T.cl_Map, T.n_Map_own_size, (by show 0 < 1000; decide), ?_⟩
    generalize hH2 : upd H1 p (.ins (He.ga K "Map") dx (putF "own_size" (.int n) [])) = H2
    have hd2 : H2 d = some (.dK (dI ar)) := by rw [← hH2]; exact upd_at (e1 _ _ hd) npd
    have hp2 : H2 p = some (.ins (He.ga K "Map") dx (putF "own_size" (.int n) [])) := by rw [← hH2]; exact upd_same
    refine ⟨_, rfl, n, rfl, by omega, by omega, fun D hD => ?_⟩
    refine comp_rng (n := n.toNat) (fun i H' => Same H2 H' ∧ H' D = some (.dK (dI (arrG ar i)))) ⟨Same.nw hD, upd_same⟩ ?_ ?_
    · rintro i H' hi ⟨e, hD'⟩
      refine ⟨rfl, _, rfl, _, rfl, d, _, rfl, DGet.r (.inl (e _ _ hd2)), _, rfl, ?_⟩
      have hl := arrG_len ar i
      cases hk : look (i : Int) ar with
      | none =>
        refine ifF rfl ⟨e, ?_⟩
        rw [arrG_none hk]
        exact hD'
      | some t =>
        refine ifT rfl ⟨_, rfl, _, rfl, _, rfl, d, .int t, rfl, ?_, dI (arrG ar i), Sum.inl (i : Int), rfl, hD', by rw [dI_len]; exact Nat.lt_of_le_of_lt hl (Nat.lt_trans hi (Nat.lt_of_le_of_lt (show n.toNat ≤ 300 by omega) (by decide))), Same.mu e hD, ?_⟩
        · have g := DGet.r (k := (i : Int)) (.inl (e _ _ hd2))
          rw [hk] at g
          exact g
        · rw [dI_put, arrG_some hk]
          exact upd_same
    · rintro H' ⟨e, hD'⟩
      refine ⟨_, rfl, p, _, dx, _, rfl, e _ _ hp2, T.cl_Map, T.n_Map_own_arrows, Nat.lt_of_le_of_lt (length_putF _ _ _) (by show 0 + 1 < 1000; decide), ?_⟩
      refine k _ (fun b o hb nb => ?_) ⟨dx, D, upd_same, ?_⟩
      · rw [upd_ne nb]
        refine e _ _ ?_
        rw [← hH2, upd_ne nb]
        exact e1 _ _ hb
      · have nDp : D ≠ p := Ne.symm (ne_of_none hp2 hD)
        rw [upd_ne nDp]
        exact hD'
end
end Ck
set_option maxHeartbeats 4000000
/-! maps: making, reading -/
namespace Ck
open PySem PySem.Spec PyProof.Rows L2
section
variable {X : Cx} {k j i : Nat} {d : Df} {ps : List Str} {sp : Sp} {x f m : Str} {p pos apos : Pos} {e o : Expr} {es : List Expr} {t : TA} {ta : TE} {C pp : Addr}
/-- e.f, a property -/
theorem pe_p (G : Ok X.prog X.w X.K X.mg X.base k d ps sp) (hr : Room j X.A) (hk : k + 1 ≤ j) (c : Cls X.K C) (hp : PropOf X.K C f pp (d.pth.ad X.K)) (he : PE X e ta) (hab : attributeBase e f X.env (eval e X.env) = eval e X.env := by rfl) :
    PE X (.Attribute e f pos) (tProp C sp [] E0 ta) := by
  obtain ⟨⟨fd, F, B⟩, kp⟩ := G
  exact pe_prop he c hp F (hr.mono hk) B .nil pass0 hab
/-- C(..) by its name -/
theorem pe_m {fi : Addr} (G : Ok X.prog X.w X.K X.mg X.base k d ps sp) (hr : Room j X.A) (hk : k + 1 ≤ j) (M : Mk X.K C fi) (hf : fi = d.pth.ad X.K) (hg : Gl X x) (hm : X.mg x = some (.ref C)) (ha : PA X (e :: es) t)
    (hdb : (x == ("__debug__" : Str)) = false := by decide) (he : starEach (e :: es) X.env = (false, eval e X.env) :: starEach es X.env := by rfl) (hpl : (backTo pos (starEach es X.env)).any (·.1) = false := by rfl) :
    PE X (.Call (.Name x p) (e :: es) [] pos) (tMake C sp [] E0 t) := by
  obtain ⟨⟨fd, F, B⟩, kp⟩ := G
  subst hf
  exact pe_make M F (hr.mono hk) hg hm B .nil pass0 ha hdb he hpl
/-- cls(..) -/
theorem pe_ml {fi : Addr} (G : Ok X.prog X.w X.K X.mg X.base k d ps sp) (hr : Room j X.A) (hk : k + 1 ≤ j) (M : Mk X.K C fi) (hf : fi = d.pth.ad X.K) (hN : X.N[i]? = some x) (hv : Vis X.env.scope x) (ha : PA X (e :: es) t)
    (hdb : (x == ("__debug__" : Str)) = false := by decide) (hcd : (x == ("__classdict__" : Str)) = false := by decide)
    (he : starEach (e :: es) X.env = (false, eval e X.env) :: starEach es X.env := by rfl) (hpl : (backTo pos (starEach es X.env)).any (·.1) = false := by rfl) :
    PE X (.Call (.Name x p) (e :: es) [] pos) (tMkL i C sp [] E0 t) := by
  obtain ⟨⟨fd, F, B⟩, kp⟩ := G
  subst hf
  exact pe_mkL M F (hr.mono hk) hN hv B .nil pass0 ha hdb hcd he hpl
/-- C.m(..), m a classmethod -/
theorem pe_cm {pl : Sem Bool} (G : Ok X.prog X.w X.K X.mg X.base k d ps sp) (hr : Room j X.A) (hk : k ≤ j) (r : ClX.CRead X.K C (.type "type")) (c : ClX.CMet X.K C (.type "type") m pp (d.pth.ad X.K)) (he : PE X o ta) (ha : PA X (e :: es) t)
    (hst : starEach (e :: es) X.env = (false, eval e X.env) :: starEach es X.env := by rfl) (hpl : (backTo pos (starEach es X.env)).any (·.1) = false := by rfl)
    (ht : eval (.Call (.Attribute o m apos) (e :: es) [] pos) X.env = (do
      let ov ← eval o X.env
      standAt apos.atName
      let (f, first) ← holding [ov] (getMethod ov m pl)
      callWith pos f first (backTo pos (starEach (e :: es) X.env)) (backToKw pos (keywordEach [] X.env))) := by rfl) :
    PE X (.Call (.Attribute o m apos) (e :: es) [] pos) (ClX.tCMeth C (fun vs H Q E => sp (vs ++ []) H Q E) E0 ta t) := by
  obtain ⟨⟨fd, F, B⟩, kp⟩ := G
  exact ClX.pe_cmeth he r c (F.raw B .nil) (hr.mono hk) pass0 ha hst hpl ht
/-- o.m(..) -/
theorem pe_me {pl : Sem Bool} {fi : Addr} (G : Ok X.prog X.w X.K X.mg X.base k d ps sp) (hr : Room j X.A) (hk : k ≤ j) (c : Cls X.K C) (hm : Meth X.K C m fi) (hf : fi = d.pth.ad X.K) (he : PE X o ta) (ha : PA X (e :: es) t)
    (hst : starEach (e :: es) X.env = (false, eval e X.env) :: starEach es X.env := by rfl) (hpl : (backTo pos (starEach es X.env)).any (·.1) = false := by rfl)
    (ht : eval (.Call (.Attribute o m apos) (e :: es) [] pos) X.env = (do
      let ov ← eval o X.env
      standAt apos.atName
      let (f, first) ← holding [ov] (getMethod ov m pl)
      callWith pos f first (backTo pos (starEach (e :: es) X.env)) (backToKw pos (keywordEach [] X.env))) := by rfl) :
    PE X (.Call (.Attribute o m apos) (e :: es) [] pos) (tMeth C m sp [] E0 ta t) := by
  obtain ⟨⟨fd, F, B⟩, kp⟩ := G
  subst hf
  exact pe_meth he c hm F (hr.mono hk) B .nil pass0 ha hst hpl ht
theorem call_lenO {fi : Addr} (G : Ok X.prog X.w X.K X.mg X.base k d ps sp) (hr : Room j X.A) (hk : k + 1 ≤ j) (hm : Meth X.K C "__len__" fi) (hf : fi = d.pth.ad X.K) : CallR X (.builtin "len") (rLenI C sp) := by
  obtain ⟨⟨fd, F, B⟩, kp⟩ := G
  subst hf
  exact call_lenI F (hr.mono hk) hm.at_ hm.fn B
end
/-- a Map's promise at __init__, told from the new instance on -/
theorem map_made {K : PySem.W.Frag} {H : Hp} {n : Int} {d : Addr} {ar : Z2} {Q : VK} (hd : H d = some (.dK (dI ar))) (h : (1 ≤ n ∧ n ≤ 300) ∧ arrowsOk n ar = true ∧ ar.length ≤ 1000) (k : ∀ p H', Same H H' → H p = none → MapAt K H' p (mkMp n ar) → Q (.ref p) H') :
    ∀ x dx, H x = none → H dx = none → dx ≠ x → sp_Map_init K ([.ref x] ++ ([.int n, .ref d] ++ [])) (upd (upd H dx (.own x)) x (.ins (He.ga K "Map") dx [])) (fun v H2 => v = .non ∧ Q (.ref x) H2) E0 := by
  intro x dx hx hdx ne
  refine ⟨x, dx, n, d, ar, rfl, upd_same, ?_, h, fun H' e M => ⟨rfl, k x H' (Same.made hx hdx e) hx M⟩⟩
  rw [upd_ne (ne_of_none hd hx), upd_ne (ne_of_none hd hdx)]
  exact hd
section
variable {P : Program} {w : World} {K : PySem.W.Frag} {mg : Str → Option Value} {base : Heap} (T : Tx K mg)
include T
abbrev sp_Map_size (K : PySem.W.Frag) : Sp := fun vs H Q _ => ∃ (a : Addr) (m : Mp), vs = [.ref a] ∧ MapAt K H a m ∧ Q (.int m.size) H
theorem ok_Map_size : Ok P w K mg base 1 d_Map_size ["self"] (sp_Map_size K) := by
  refine mk_ok T.f_Map_size sc_Map_size (fun vs H Q E h => ?_) (fun cdv A outer s H vs Q E hr h => ?_)
  · obtain ⟨a, m, rfl, _⟩ := h; rfl
  · obtain ⟨a, m, rfl, ⟨dx, d, h1, h2⟩, k⟩ := h
    refine ⟨_, pss_one (ps_ret (pe_fld (pv 0) rfl)), ?_⟩
    exact ⟨_, rfl, a, _, dx, _, _, rfl, h1, T.cl_Map, T.n_Map_own_size, mF_size, k⟩
abbrev sp_Map_arrows (K : PySem.W.Frag) : Sp := fun vs H Q _ => ∃ (a : Addr) (m : Mp), vs = [.ref a] ∧ MapAt K H a m ∧ ∀ p, H p = none → Q (.ref p) (upd H p (.dK (dI m.arr)))
theorem ok_Map_arrows : Ok P w K mg base 1 d_Map_arrows ["self"] (sp_Map_arrows K) := by
  refine mk_ok T.f_Map_arrows sc_Map_arrows (fun vs H Q E h => ?_) (fun cdv A outer s H vs Q E hr h => ?_)
  · obtain ⟨a, m, rfl, _⟩ := h; rfl
  · obtain ⟨a, m, rfl, ⟨dx, d, h1, h2⟩, k⟩ := h
    refine ⟨_, pss_one (ps_ret (pe_callTy call_dictD (by rfl) T.z_dict (by decide +kernel) (pa_cons (pe_fld (pv 0) rfl) pa_nil))), ?_⟩
    exact ⟨_, rfl, a, _, dx, _, _, rfl, h1, T.cl_Map, T.n_Map_own_arrows, mF_arr, d, _, rfl, .inl h2, k⟩
abbrev sp_Map_len (K : PySem.W.Frag) : Sp := fun vs H Q _ => ∃ (a : Addr) (m : Mp), vs = [.ref a] ∧ MapAt K H a m ∧ Q (.int m.arr.length) H
theorem ok_Map_len : Ok P w K mg base 1 d_Map_len ["self"] (sp_Map_len K) := by
  refine mk_ok T.f_Map_len sc_Map_len (fun vs H Q E h => ?_) (fun cdv A outer s H vs Q E hr h => ?_)
  · obtain ⟨a, m, rfl, _⟩ := h; rfl
  · obtain ⟨a, m, rfl, ⟨dx, d, h1, h2⟩, k⟩ := h
    refine ⟨_, pss_one (ps_ret (pe_callB call_lenD (by rfl) T.z_len PySem.boot_len (pa_cons (pe_fld (pv 0) rfl) pa_nil))), ?_⟩
    refine ⟨_, rfl, a, _, dx, _, _, rfl, h1, T.cl_Map, T.n_Map_own_arrows, mF_arr, d, _, rfl, h2, ?_⟩
    rw [dI_len]
    exact k
abbrev sp_check_map (K : PySem.W.Frag) : Sp := fun vs H Q _ => ∃ (a : Addr) (m : Mp), vs = [.ref a] ∧ MapAt K H a m ∧ Q .non H
theorem ok_check_map : Ok P w K mg base 1 d_check_map ["value"] (sp_check_map K) := by
  refine mk_ok T.f_check_map sc_check_map (fun vs H Q E h => ?_) (fun cdv A outer s H vs Q E hr h => ?_)
  · obtain ⟨a, m, rfl, _⟩ := h; rfl
  · obtain ⟨a, m, rfl, ⟨dx, d, h1, h2⟩, k⟩ := h
    refine ⟨_, pss_one (ps_if (pt_not (pt_val (pe_callB call_isi (by rfl) T.z_isinstance (by decide +kernel) (pa_cons (pv 0) (pa_cons (pe_glob (v := .ref (He.ga K "Map")) (by rfl) T.m_Map rfl) pa_nil))))) pss_never pss_nil), ?_⟩
    exact ⟨_, rfl, _, _, _, _, true, rfl, .own _, T.is_Map h1, by unfold PySem.W.kitOne; rw [if_pos (beq_self_eq_true _)], _, rfl, iteF k⟩
abbrev sp_check_shape (K : PySem.W.Frag) : Sp := fun vs H Q _ => ∃ (a : Addr) (m : Sh), vs = [.ref a] ∧ ShAt K H a m ∧ Q .non H
theorem ok_check_shape : Ok P w K mg base 1 d_check_shape ["value"] (sp_check_shape K) := by
  refine mk_ok T.f_check_shape sc_check_shape (fun vs H Q E h => ?_) (fun cdv A outer s H vs Q E hr h => ?_)
  · obtain ⟨a, m, rfl, _⟩ := h; rfl
  · obtain ⟨a, m, rfl, ⟨dx, c, d, h1, h2⟩, k⟩ := h
    refine ⟨_, pss_one (ps_if (pt_not (pt_val (pe_callB call_isi (by rfl) T.z_isinstance (by decide +kernel) (pa_cons (pv 0) (pa_cons (pe_glob (v := .ref (He.ga K "Shape")) (by rfl) T.m_Shape rfl) pa_nil))))) pss_never pss_nil), ?_⟩
    exact ⟨_, rfl, _, _, _, _, true, rfl, .own _, T.is_Shape h1, by unfold PySem.W.kitOne; rw [if_pos (beq_self_eq_true _)], _, rfl, iteF k⟩
/-- a new Map, all else as it was -/
abbrev NewMap (K : PySem.W.Frag) (H : Hp) (m : Mp) (Q : VK) : Prop := ∀ p H', Same H H' → H p = none → MapAt K H' p m → Q (.ref p) H'
def idG : Nat → Z2
  | 0 => []
  | i + 1 => put (i : Int) (i : Int) (idG i)
omit T in
theorem idG_len : ∀ i, (idG i).length ≤ i
  | 0 => Nat.le_refl _
  | i + 1 => by
    have h := idG_len i
    have := put_len (i : Int) (i : Int) (idG i)
    show (put (i : Int) (i : Int) (idG i)).length ≤ i + 1
    omega
abbrev sp_Map_identity (K : PySem.W.Frag) : Sp := fun vs H Q _ => ∃ (n : Int), vs = [.ref (He.ga K "Map"), .int n] ∧ ((1 ≤ n ∧ n ≤ 300) ∧ arrowsOk n (idG n.toNat) = true) ∧ NewMap K H (mkMp n (idG n.toNat)) Q
theorem ok_Map_identity : Ok P w K mg base 6 d_Map_identity ["cls", "size"] (sp_Map_identity K) := by
  refine mk_ok T.f_Map_identity sc_Map_identity (fun vs H Q E h => ?_) (fun cdv A outer s H vs Q E hr h => ?_)
  · obtain ⟨n, rfl, _⟩ := h; rfl
  · obtain ⟨n, rfl, ⟨hn, ho⟩, k⟩ := h
    have nd := sc_Map_identity.nd
    refine ⟨_, pss_cons (ps_expr (pe_f (ok_check_size T) hr (by decide) (by rfl) T.m_check_size (pa_cons (pv 1) pa_nil)))
      (pss_one (ps_ret (pe_ml (i := 0) (ok_Map_init T) hr (by decide) T.mk_Map rfl rfl (Or.inl rfl) (pa_cons (pv 1)
        (pa_cons (pe_dc (own := [("element", 2)]) (by rfl) nd (pi_range1 (by rfl) T.z_range (pa_cons (pv 1) pa_nil)) (blkOk_by (N := N_Map_identity) (sc := defScope s_Map_identity) (by decide +kernel)) (fun _ _ _ _ _ => pg_name (i := 2) nd rfl (Or.inl rfl))
          (fun _ _ _ _ _ => pts_nil) (fun _ _ _ _ _ => pv 2) (fun _ _ _ _ _ => pv 2)) pa_nil))))), ?_⟩
    refine ⟨_, rfl, n, rfl, hn, rfl, _, rfl, _, rfl, n, rfl, by omega, by omega, fun D hD => ?_⟩
    refine comp_rng (n := n.toNat) (fun i H' => Same H H' ∧ H' D = some (.dK (dI (idG i)))) ⟨Same.nw hD, upd_same⟩ ?_ ?_
    · rintro i H' hi ⟨e, hD'⟩
      have hl := idG_len i
      refine ⟨rfl, _, rfl, .int (i : Int), rfl, dI (idG i), Sum.inl (i : Int), rfl, hD', by rw [dI_len]; exact Nat.lt_of_le_of_lt hl (Nat.lt_trans hi (Nat.lt_of_le_of_lt (show n.toNat ≤ 300 by omega) (by decide))), Same.mu e hD, ?_⟩
      rw [dI_put]
      exact upd_same
    · rintro H' ⟨e, hD'⟩
      refine map_made hD' ⟨hn, ho, by have := idG_len n.toNat; omega⟩ fun p H2 e2 hp M => k p H2 (e.trans e2) (e.free hp) M
abbrev sp_Map_empty (K : PySem.W.Frag) : Sp := fun vs H Q _ => ∃ (n : Int), vs = [.ref (He.ga K "Map"), .int n] ∧ (1 ≤ n ∧ n ≤ 300) ∧ NewMap K H (mkMp n []) Q
theorem ok_Map_empty : Ok P w K mg base 6 d_Map_empty ["cls", "size"] (sp_Map_empty K) := by
  refine mk_ok T.f_Map_empty sc_Map_empty (fun vs H Q E h => ?_) (fun cdv A outer s H vs Q E hr h => ?_)
  · obtain ⟨n, rfl, _⟩ := h; rfl
  · obtain ⟨n, rfl, hn, k⟩ := h
    refine ⟨_, pss_cons (ps_expr (pe_f (ok_check_size T) hr (by decide) (by rfl) T.m_check_size (pa_cons (pv 1) pa_nil)))
      (pss_one (ps_ret (pe_ml (i := 0) (ok_Map_init T) hr (by decide) T.mk_Map rfl rfl (Or.inl rfl) (pa_cons (pv 1) (pa_cons pe_dnewK pa_nil))))), ?_⟩
    refine ⟨_, rfl, n, rfl, hn, rfl, _, rfl, fun D hD => ?_⟩
    exact map_made (ar := []) upd_same ⟨hn, rfl, Nat.zero_le _⟩ fun p H2 e2 hp M => k p H2 ((Same.nw hD).trans e2) ((Same.nw hD).free hp) M
end
end Ck
set_option maxHeartbeats 4000000
/-! rows, parts -/
namespace Ck
open PySem PySem.Spec PyProof.Rows L2
/-- for x in xs, a list that stands -/
theorem comp_lst {K : PySem.W.Frag} {a : Addr} {xs : List V} {Qd : Hp → Prop} {B : V → Hp → (Hp → Prop) → Prop} {H1 : Hp} (Pv : Nat → Hp → Prop) (h0 : Pv 0 H1) (hl : ∀ i H, i ≤ xs.length → Pv i H → SqL K H a xs)
    (hs : ∀ (i : Nat) x H, xs[i]? = some x → Pv i H → B x H (Pv (i + 1))) (hd : ∀ H, Pv xs.length H → Qd H) :
    ∃ W : Nat → Nat → Hp → Prop, (∃ m, W 0 m H1) ∧ ∀ i m H, W i m H →
      ((Itl K a).stop i H ∧ Qd H) ∨ ((Itl K a).go i H ∧ ∃ Nx : Hp → Prop, (∀ H', Nx H' → ∃ m', m' < m ∧ W (i + 1) m' H') ∧ ∀ x H', (Itl K a).yld i H x H' → B x H' Nx) := by
  refine comp_gen (n := xs.length) Pv h0 (fun i H hi p => ⟨xs, xs[i], hl i H (Nat.le_of_lt hi) p, by simp [hi]⟩) (fun H p => ⟨xs, hl _ H (Nat.le_refl _) p, Nat.le_refl _⟩) (fun i H hi p x H' y => ?_) hd
  obtain ⟨rfl, y⟩ := y
  exact hs i x _ (y xs (hl i _ (Nat.le_of_lt hi) p)) p
/-- for v in d.values() of a locked dict -/
theorem comp_vals {d : Addr} {od : Obj} {kvs : List (Key × V)} {Qd : Hp → Prop} {B : V → Hp → (Hp → Prop) → Prop} {H1 : Hp} (Pv : Nat → Hp → Prop) (h0 : Pv 0 H1) (hl : ∀ i H, i ≤ kvs.length → Pv i H → H d = some (.frz od (.dK kvs)))
    (hs : ∀ (i : Nat) k v H, kvs[i]? = some (k, v) → Pv i H → B v H (Pv (i + 1))) (hd : ∀ H, Pv kvs.length H → Qd H) :
    ∃ W : Nat → Nat → Hp → Prop, (∃ m, W 0 m H1) ∧ ∀ i m H, W i m H →
      ((Itd d od kvs).stop i H ∧ Qd H) ∨ ((Itd d od kvs).go i H ∧ ∃ Nx : Hp → Prop, (∀ H', Nx H' → ∃ m', m' < m ∧ W (i + 1) m' H') ∧ ∀ x H', (Itd d od kvs).yld i H x H' → B x H' Nx) := by
  refine comp_gen (n := kvs.length) Pv h0 (fun i H hi p => ⟨hl i H (Nat.le_of_lt hi) p, hi⟩) (fun H p => ⟨hl _ H (Nat.le_refl _) p, Nat.le_refl _⟩) (fun i H hi p x H' y => ?_) hd
  obtain ⟨rfl, k, y⟩ := y
  exact hs i k x _ y p
/-! ### the mirror -/
def rowGo (ar : Z2) (e : Int) : Nat → List Int → Int → Option (List Int)
  | 0, _, _ => none
  | n + 1, fr, l => match look l ar with
    | some t => if t = e then some (fr ++ [l]) else rowGo ar e n (fr ++ [l]) t
    | none => some (fr ++ [l])
def rowFrom (ar : Z2) (e : Int) : Option (List Int) := rowGo ar e 301 [] e
theorem rowGo_len (ar : Z2) (e : Int) : ∀ (n : Nat) (fr : List Int) (l : Int) (r : List Int), rowGo ar e n fr l = some r → r.length ≤ fr.length + n
  | 0, _, _, _, h => by cases h
  | n + 1, fr, l, r, h => by
    unfold rowGo at h
    have e1 : (fr ++ [l]).length = fr.length + 1 := by rw [List.length_append]; rfl
    split at h
    · split at h
      · cases h; omega
      · have := rowGo_len ar e n _ _ r h; omega
    · cases h; omega
theorem rowGo_ne (ar : Z2) (e : Int) : ∀ (n : Nat) (fr : List Int) (l : Int) (r : List Int), rowGo ar e n fr l = some r → r ≠ []
  | 0, _, _, _, h => by cases h
  | n + 1, fr, l, r, h => by
    unfold rowGo at h
    split at h
    · split at h
      · cases h; simp
      · exact rowGo_ne ar e n _ _ r h
    · cases h; simp
def addAll (row seen : List Int) : List Int := row.foldl (fun acc x => putL x acc) seen
theorem addAll_snoc (a : List Int) (x : Int) (s : List Int) : addAll (a ++ [x]) s = putL x (addAll a s) := by
  unfold addAll
  rw [List.foldl_append]
  rfl
theorem addAll_turn {row : List Int} {i : Nat} {x : Int} (h : row[i]? = some x) (s : List Int) : addAll (row.take (i + 1)) s = putL x (addAll (row.take i) s) := by
  rw [List.take_add_one, h]
  exact addAll_snoc _ _ _
theorem addAll_len : ∀ (row s : List Int), (addAll row s).length ≤ s.length + row.length
  | [], s => Nat.le_refl _
  | x :: r, s => by
    have h1 := addAll_len r (putL x s)
    have h2 := putL_len x s
    show (addAll r (putL x s)).length ≤ s.length + (r.length + 1)
    omega
theorem merge_dB : ∀ (b a : List Int), mergeK (dB a) (dB b) = dB (addAll b a)
  | [], a => rfl
  | x :: r, a => by
    show mergeK (putK (dB a) (Sum.inl x) (.bl true)) (dB r) = dB (addAll r (putL x a))
    rw [dB_put, merge_dB r (putL x a)]
structure Pst where
  rows : List (List Int)
  seen : List Int
def pturn (ar : Z2) (skip : Int → List Int → Bool) (i : Nat) (s : Pst) : Option Pst := if skip (i : Int) s.seen = true then some s else (rowFrom ar (i : Int)).bind fun row => some ⟨s.rows ++ [row], addAll (addAll row []) s.seen⟩
def tgts (ar : Z2) : List Int := addAll (ar.map (·.2)) []
def partsOf (m : Mp) : Option (List (List Int) × List (List Int)) := (itN (pturn m.arr fun x _ => has x (tgts m.arr)) ⟨[], []⟩ m.size.toNat).bind fun a =>
  (itN (pturn m.arr fun x seen => has x seen) ⟨[], a.seen⟩ m.size.toNat).bind fun b => some (b.rows, a.rows)
/-- the lists at these addresses -/
abbrev Rows (H : Hp) : List Addr → List (List Int) → Prop := Paired fun a r => H a = some (.lst (r.map V.int))
theorem Rows.mono {H H' : Hp} {as : List Addr} {rs : List (List Int)} (h : Rows H as rs) (e : Same H H') : Rows H' as rs := Paired.mapP h fun a r z => e _ _ z
/-- .. one cell changes that is none of them -/
theorem Rows.upd {H : Hp} {as : List Addr} {rs : List (List Int)} {p : Addr} {o : HO} (h : Rows H as rs) (n : ∀ a ∈ as, a ≠ p) : Rows (upd H p o) as rs := by
  induction h with
  | nil => exact .nil
  | cons r t ih => exact .cons (upd_at r (n _ List.mem_cons_self)) (ih fun a ha => n a (List.mem_cons_of_mem _ ha))
theorem Rows.ne {H : Hp} {as : List Addr} {rs : List (List Int)} {p : Addr} (h : Rows H as rs) (n : ∀ xs : List Int, H p ≠ some (.lst (xs.map V.int))) : ∀ a ∈ as, a ≠ p := by
  induction h with
  | nil => intro a ha; cases ha
  | cons r t ih =>
    intro a ha e
    rcases List.mem_cons.mp ha with rfl | ha
    · subst e; exact n _ r
    · exact ih a ha e
section
variable {P : Program} {w : World} {K : PySem.W.Frag} {mg : Str → Option Value} {base : Heap} (T : Tx K mg)
include T
abbrev sp_row_from : Sp := fun vs H Q _ => ∃ (d : Addr) (ar : Z2) (e : Int) (r : List Int), vs = [.ref d, .int e] ∧ H d = some (.dK (dI ar)) ∧ rowFrom ar e = some r ∧ ∀ p H', Same H H' → H p = none → H' p = some (.lst (r.map V.int)) → Q (.ref p) H'
theorem ok_row_from : Ok P w K mg base 1 d_row_from ["arrows", "element"] sp_row_from := by
  refine mk_ok T.f_row_from sc_row_from (fun vs H Q E h => ?_) (fun cdv A outer s H vs Q E hr h => ?_)
  · obtain ⟨d, ar, e, r, rfl, _⟩ := h; rfl
  · obtain ⟨d, ar, e, r, rfl, hd, hrow, k⟩ := h
    have hu := hu_of hr
    have nd := sc_row_from.nd
    refine ⟨_, pss_cons (ps_set (i := 2) nd rfl (Or.inl rfl) (pe_lst (pa_cons (pv 1) pa_nil)))
      (pss_cons (ps_while PassesOwn.never (PW.pt (pw_and (pt_cmp (pc_din hu (pe_ix ix_list (pv 2) (pe_un un_neg pe_int) (fun _ _ => rfl)) (pv 0)))
          (pw_and1 (pt_cmpR op_ne (pe_dget hu (pv 0) (pe_ix ix_list (pv 2) (pe_un un_neg pe_int) (fun _ _ => rfl)) (fun _ _ => rfl)) (pv 1) (nomark _)))))
        (pss_one (ps_expr (pe_bm PySem.F.plainAttrs_list PySem.F.slot_list_append PySem.F.type_list_append mt_append (pv 2) (pa_cons (pe_dget hu (pv 0) (pe_ix ix_list (pv 2) (pe_un un_neg pe_int) (fun _ _ => rfl)) (fun _ _ => rfl)) pa_nil)))))
      (pss_one (ps_ret (pv 2)))), ?_⟩
    refine ⟨_, rfl, by show 1 ≤ sizeLine; decide, fun R hR => ?_⟩
    refine ⟨fun m σ H' => ∃ fr l, σ = [some (.ref d), some (.int e), some (.ref R)] ∧ Same H H' ∧ H' R = some (.lst (fr.map V.int ++ [.int l])) ∧ rowGo ar e m fr l = some r ∧ fr.length + m ≤ 301, ⟨301, [], e, rfl, Same.nw hR, upd_same, hrow, Nat.le_refl _⟩, ?_⟩
    rintro m σ H' ⟨fr, l, rfl, e1, hR', hg, hz⟩
    cases m with
    | zero => cases hg
    | succ m =>
      have ix : atI (fr.map V.int ++ [V.int l]) (-1) = some (V.int l) := atI_last _ _
      have fin : ∀ H2, Same H H2 → H2 R = some (.lst ((fr ++ [l]).map V.int)) → some (fr ++ [l]) = some r → Q (.ref R) H2 := fun H2 e2 h2 h3 => by
        cases h3
        exact k R H2 e2 hR h2
      have e3 : (fr ++ [l]).map V.int = fr.map V.int ++ [V.int l] := by rw [List.map_append]; rfl
      refine ⟨_, rfl, 1, rfl, R, _, -1, _, rfl, rfl, SqL.of hR', ix, _, rfl, d, _, rfl, DGet.r (.inl (e1 _ _ hd)), _, rfl, ?_⟩
      unfold rowGo at hg
      cases hk : look l ar with
      | none =>
        rw [hk] at hg
        exact ⟨_, rfl, fin H' e1 (by rw [e3]; exact hR') hg⟩
      | some t =>
        rw [hk] at hg
        have g : DGet H' d (.int l) (some (.int t)) := by
          have g := DGet.r (k := l) (.inl (e1 _ _ hd))
          rw [hk] at g
          exact g
        refine ⟨_, rfl, _, rfl, 1, rfl, R, _, -1, _, rfl, rfl, SqL.of hR', ix, d, _, rfl, g, _, rfl, rfl, _, rfl, ?_⟩
        by_cases hte : t = e
        · have hg : (if t = e then some (fr ++ [l]) else rowGo ar e m (fr ++ [l]) t) = some r := hg
          rw [if_pos hte] at hg
          refine ifF (not_t (decide_eq_true (by rw [hte]))) ⟨_, rfl, fin H' e1 (by rw [e3]; exact hR') hg⟩
        · have hg : (if t = e then some (fr ++ [l]) else rowGo ar e m (fr ++ [l]) t) = some r := hg
          rw [if_neg hte] at hg
          refine ifT (not_f (decide_eq_false (fun z => hte (V.int.inj z)))) ?_
          refine ⟨fun σ2 H2 => σ2 = [some (.ref d), some (.int e), some (.ref R)] ∧ H2 = upd H' R (.lst (fr.map V.int ++ [.int l] ++ [.int t])), ?_, ?_⟩
          · rintro σ2 H2 ⟨rfl, rfl⟩
            refine ⟨m, Nat.lt_succ_self _, fr ++ [l], t, rfl, Same.mu e1 hR, ?_, hg, ?_⟩
            · rw [e3]; exact upd_same
            · rw [List.length_append]; show fr.length + 1 + m ≤ 301; omega
          · refine ⟨_, rfl, .inl ⟨rfl, _, SqL.of hR'⟩, _, rfl, _, rfl, 1, rfl, R, _, -1, _, rfl, rfl, SqL.of hR', ix, d, _, rfl, g, R, _, _, rfl, rfl, hR', ?_, rfl, rfl⟩
            rw [List.length_append, List.length_map]
            show fr.length + 1 < sizeLine
            exact Nat.lt_of_le_of_lt (show fr.length + 1 ≤ 301 by omega) (by decide)
end
end Ck
set_option maxHeartbeats 4000000
/-! parts_of -/
namespace Ck
open PySem PySem.Spec PyProof.Rows L2
theorem Rows.frame {H H' : Hp} {as : List Addr} {rs : List (List Int)} {Pn : Addr → Prop} (h : Rows H as rs) (hn : ∀ x ∈ as, Pn x) (fr : ∀ x o, H x = some o → Pn x → H' x = some o) : Rows H' as rs := by
  induction h with
  | nil => exact .nil
  | cons r t ih => exact .cons (fr _ _ r (hn _ List.mem_cons_self)) (ih fun a ha => hn a (List.mem_cons_of_mem _ ha))
theorem all_snoc {Pn : Addr → Prop} {as : List Addr} {q : Addr} (h : ∀ x ∈ as, Pn x) (hq : Pn q) : ∀ x ∈ as ++ [q], Pn x := fun x hx => by
  rcases List.mem_append.mp hx with z | z
  · exact h x z
  · rw [List.mem_singleton.mp z]; exact hq
abbrev rNeg : V → Hp → VK → Prop := rU fun i => .int (-i)
/-- rows.append(row_from(arrows, element)); seen.update({one: True for one in rows[-1]}), rows in slot c -/
abbrev t_blk (K : PySem.W.Frag) (c : Nat) : TS := tSeq (tDrop (tBM K "list" rAppend (tVar c) (tCons (tCall sp_row_from [] E0 (tCons (tVar 1) (tCons (tVar 6) tNil))) tNil)))
  (tDrop (tBM K "dict" rUpd (tVar 5) (tCons (tDc (iList K (tOp (rIxL K) (tVar c) (tUn rNeg (tC (.int 1))))) (gName 8) tYes (tVar 8) (tC (.bl true)) [8]) tNil)))
theorem read_blk {K : PySem.W.Frag} {c : Nat} {L S a1 : Addr} {g tt cy ch : V} {e : Int} {x7 x8 : Option V} {H : Hp} {D : Ends} {ar : Z2} {row seen : List Int} {xs : List V}
    (hc : ([some g, some (.ref a1), some tt, some cy, some ch, some (.ref S), some (.int e), x7, x8] : List (Option V))[c]? = some (some (.ref L)))
    (ha : H a1 = some (.dK (dI ar))) (hrow : rowFrom ar e = some row) (hL : H L = some (.lst xs)) (hS : H S = some (.dK (dB seen))) (z1 : xs.length ≤ 1000) (z2 : seen.length ≤ 1000000)
    (k : ∀ q H', H q = none → (∀ x o, H x = some o → x ≠ L → x ≠ S → H' x = some o) → H' L = some (.lst (xs ++ [.ref q])) → H' q = some (.lst (row.map V.int)) → H' S = some (.dK (dB (addAll (addAll row []) seen))) →
      D.nx [some g, some (.ref a1), some tt, some cy, some ch, some (.ref S), some (.int e), x7, x8] H') :
    t_blk K c D [some g, some (.ref a1), some tt, some cy, some ch, some (.ref S), some (.int e), x7, x8] H := by
  have nLS : L ≠ S := ne_of hL hS (by intro z; cases z)
  have hlen := rowGo_len _ _ _ _ _ _ hrow
  have hlen : row.length ≤ 301 := by simpa using hlen
  refine ⟨_, hc, .inl ⟨rfl, _, SqL.of hL⟩, _, rfl, _, rfl, a1, ar, e, row, rfl, ha, hrow, fun q H1 e1 hq h1 => ?_⟩
  have nqL : q ≠ L := Ne.symm (ne_of_none hL hq)
  have nqS : q ≠ S := Ne.symm (ne_of_none hS hq)
  refine ⟨L, xs, _, rfl, rfl, e1 _ _ hL, Nat.lt_of_le_of_lt z1 (by decide), ?_⟩
  generalize hH2 : upd H1 L (.lst (xs ++ [.ref q])) = H2
  have g1 : H2 L = some (.lst (xs ++ [.ref q])) := by rw [← hH2]; exact upd_same
  have g2 : H2 q = some (.lst (row.map V.int)) := by rw [← hH2]; exact upd_at h1 nqL
  have g3 : H2 S = some (.dK (dB seen)) := by rw [← hH2]; exact upd_at (e1 _ _ hS) (Ne.symm nLS)
  refine ⟨_, rfl, .inr (.inr (.inl ⟨rfl, .inl ⟨_, g3⟩⟩)), ?_⟩
  refine ⟨_, hc, 1, rfl, L, _, -1, _, rfl, rfl, SqL.of g1, atI_last _ _, q, rfl, ⟨_, SqL.of g2⟩, fun Dd hD => ?_⟩
  refine comp_lst (xs := row.map V.int) (fun i H' => Same H2 H' ∧ H' Dd = some (.dK (dB (addAll (row.take i) [])))) ⟨Same.nw hD, upd_same⟩ (fun i H' _ p => SqL.of (p.1 _ _ g2)) ?_ ?_
  · rintro i x H' hi ⟨e2, h2⟩
    rw [List.getElem?_map] at hi
    obtain ⟨n, hn, rfl⟩ := Option.map_eq_some_iff.mp hi
    refine ⟨rfl, _, rfl, dB (addAll (row.take i) []), Sum.inl n, rfl, h2, ?_, Same.mu e2 hD, ?_⟩
    · rw [dB_len]
      have := addAll_len (row.take i) []
      have h3 : (row.take i).length ≤ row.length := by rw [List.length_take]; omega
      exact Nat.lt_of_le_of_lt (show _ ≤ 301 by simp at this; omega) (by decide)
    · rw [dB_put, addAll_turn hn]
      exact upd_same
  · rintro H' ⟨e2, h2⟩
    have ht : row.take (row.map V.int).length = row := by rw [List.length_map, List.take_length]
    rw [ht] at h2
    have nSD : S ≠ Dd := ne_of_none g3 hD
    have l1 := addAll_len row []
    refine ⟨S, Dd, _, _, rfl, rfl, e2 _ _ g3, h2, nSD, ?_, ?_⟩
    · rw [dB_len, dB_len]
      exact Nat.le_trans (show _ ≤ 1001000 by simp at l1; omega) (by decide)
    · rw [merge_dB]
      refine k q _ hq (fun x o hx n1 n2 => ?_) ?_ ?_ upd_same
      · rw [upd_ne n2]
        refine e2 _ _ ?_
        rw [← hH2, upd_ne n1]
        exact e1 _ _ hx
      · exact upd_at (e2 _ _ g1) nLS
      · exact upd_at (e2 _ _ g2) nqS
theorem pturn_len {ar : Z2} {skip : Int → List Int → Bool} {i : Nat} {s t : Pst} (h : pturn ar skip i s = some t) : t.rows.length ≤ s.rows.length + 1 ∧ t.seen.length ≤ s.seen.length + 301 := by
  unfold pturn at h
  split at h
  · cases h; omega
  · obtain ⟨row, h1, h2⟩ := Option.bind_eq_some_iff.mp h
    cases h2
    have hlen := rowGo_len _ _ _ _ _ _ h1
    have hlen : row.length ≤ 301 := by simpa using hlen
    have l1 := addAll_len row []
    have l2 := addAll_len (addAll row []) s.seen
    refine ⟨by show (s.rows ++ [row]).length ≤ _; rw [List.length_append]; exact Nat.le_refl _, ?_⟩
    show (addAll (addAll row []) s.seen).length ≤ _
    simp at l1
    omega
section
variable {P : Program} {w : World} {K : PySem.W.Frag} {mg : Str → Option Value} {base : Heap} (T : Tx K mg)
include T
/-- the lists of the rows, told by their addresses -/
abbrev LRows (H : Hp) (p : Addr) (rs : List (List Int)) : Prop := ∃ as : List Addr, H p = some (.lst (as.map V.ref)) ∧ Rows H as rs
abbrev sp_parts_of (K : PySem.W.Frag) : Sp := fun vs H Q _ => ∃ (a : Addr) (m : Mp) (cy ch : List (List Int)), vs = [.ref a] ∧ MapAt K H a m ∧ (partsOf m = some (cy, ch) ∧ (1 ≤ m.size ∧ m.size ≤ 300) ∧ m.arr.length ≤ 1000) ∧
  ∀ p c d H', Same H H' → H p = none → H' p = some (.tup [.ref c, .ref d]) → LRows H' c cy → LRows H' d ch → Q (.ref p) H'
theorem ok_parts_of : Ok P w K mg base 3 d_parts_of ["given"] (sp_parts_of K) := by
  refine mk_ok T.f_parts_of sc_parts_of (fun vs H Q E h => ?_) (fun cdv A outer s H vs Q E hr h => ?_)
  · obtain ⟨a, m, cy, ch, rfl, _⟩ := h; rfl
  · obtain ⟨a, m, cy, ch, rfl, hm, ⟨hp, ⟨hz0, hz⟩, hz2⟩, k⟩ := h
    have hu := hu_of hr
    have nd := sc_parts_of.nd
    refine ⟨_, pss_cons (ps_par (i := 1) (j := 2) (by rfl) nd rfl rfl (by decide) rfl rfl (pa_cons (pe_p (ok_Map_arrows T) hr (by decide) T.cl_Map T.p_Map_arrows (pv 0))
        (pa_cons (pe_dc (own := [("target", 7)]) (by rfl) nd (pi_values (pe_fz (pe_p (ok_Map_arrows T) hr (by decide) T.cl_Map T.p_Map_arrows (pv 0)))) (blkOk_by (N := N_parts_of) (sc := defScope s_parts_of) (by decide +kernel)) (fun _ _ _ _ _ => pg_name (i := 7) nd rfl (Or.inl rfl))
          (fun _ _ _ _ _ => pts_nil) (fun _ _ _ _ _ => pv 7) (fun _ _ _ _ _ => pe_bl)) pa_nil)) (by rfl))
      (pss_cons (ps_par3 (i := 3) (j := 4) (l := 5) (by rfl) nd rfl rfl rfl (by decide) (by decide) (by decide) rfl rfl rfl (pa_cons (pe_lst pa_nil) (pa_cons (pe_lst pa_nil) (pa_cons pe_dnewK pa_nil))) (by rfl))
      (pss_cons (ps_for PassesOwn.never (by rfl) (pi_range1 (by rfl) T.z_range (pa_cons (pe_p (ok_Map_size T) hr (by decide) T.cl_Map T.p_Map_size (pv 0)) pa_nil)) (pg_name (i := 6) nd rfl (Or.inl rfl))
        (pss_one (ps_if (pt_cmp (pc_dnotin hu (pv 6) (pv 2)))
          (pss_cons (ps_expr (pe_bm PySem.F.plainAttrs_list PySem.F.slot_list_append PySem.F.type_list_append mt_append (pv 4) (pa_cons (pe_f (ok_row_from T) hr (by decide) (by rfl) T.m_row_from (pa_cons (pv 1) (pa_cons (pv 6) pa_nil))) pa_nil)))
            (pss_one (ps_expr (pe_bm PySem.F.plainAttrs_dict PySem.F.slot_dict_update PySem.F.type_dict_update mt_upd (pv 5) (pa_cons
              (pe_dc (own := [("one", 8)]) (by rfl) nd (pi_list (pe_ix ix_list (pv 4) (pe_un un_neg pe_int) (fun _ _ => rfl))) (blkOk_by (N := N_parts_of) (sc := defScope s_parts_of) (by decide +kernel)) (fun _ _ _ _ _ => pg_name (i := 8) nd rfl (Or.inl rfl))
                (fun _ _ _ _ _ => pts_nil) (fun _ _ _ _ _ => pv 8) (fun _ _ _ _ _ => pe_bl)) pa_nil))))) pss_nil)))
      (pss_cons (ps_for PassesOwn.never (by rfl) (pi_range1 (by rfl) T.z_range (pa_cons (pe_p (ok_Map_size T) hr (by decide) T.cl_Map T.p_Map_size (pv 0)) pa_nil)) (pg_name (i := 6) nd rfl (Or.inl rfl))
        (pss_one (ps_if (pt_cmp (pc_dnotin hu (pv 6) (pv 5)))
          (pss_cons (ps_expr (pe_bm PySem.F.plainAttrs_list PySem.F.slot_list_append PySem.F.type_list_append mt_append (pv 3) (pa_cons (pe_f (ok_row_from T) hr (by decide) (by rfl) T.m_row_from (pa_cons (pv 1) (pa_cons (pv 6) pa_nil))) pa_nil)))
            (pss_one (ps_expr (pe_bm PySem.F.plainAttrs_dict PySem.F.slot_dict_update PySem.F.type_dict_update mt_upd (pv 5) (pa_cons
              (pe_dc (own := [("one", 8)]) (by rfl) nd (pi_list (pe_ix ix_list (pv 3) (pe_un un_neg pe_int) (fun _ _ => rfl))) (blkOk_by (N := N_parts_of) (sc := defScope s_parts_of) (by decide +kernel)) (fun _ _ _ _ _ => pg_name (i := 8) nd rfl (Or.inl rfl))
                (fun _ _ _ _ _ => pts_nil) (fun _ _ _ _ _ => pv 8) (fun _ _ _ _ _ => pe_bl)) pa_nil))))) pss_nil)))
      (pss_one (ps_ret (pe_tup (pa_cons (pv 3) (pa_cons (pv 4) pa_nil)))))))), ?_⟩
    obtain ⟨dx, da, h1, h2⟩ := id hm
    obtain ⟨pa, hpa, hp2⟩ := Option.bind_eq_some_iff.mp hp
    obtain ⟨pb, hpb, hp3⟩ := Option.bind_eq_some_iff.mp hp2
    -- arrows
    refine ⟨_, rfl, a, dx, _, rfl, h1, a, m, rfl, hm, fun ad had => ?_⟩
    generalize hG1 : upd H ad (.dK (dI m.arr)) = G1
    have e1 : Same H G1 := by rw [← hG1]; exact Same.nw had
    have a1 : G1 ad = some (.dK (dI m.arr)) := by rw [← hG1]; exact upd_same
    -- targets
    refine ⟨_, rfl, a, dx, _, rfl, e1 _ _ h1, a, m, rfl, hm.mono e1, fun tv htv => ⟨tv, _, rfl, upd_same, True.intro, fun od => ⟨tv, od, dI m.arr, rfl, upd_same, fun tg htg => ?_⟩⟩⟩
    generalize hG2 : upd (upd G1 tv (.dK (dI m.arr))) tv (.frz od (.dK (dI m.arr))) = G2 at htg
    have e2 : Same G1 G2 := by rw [← hG2, upd_upd]; exact Same.nw htv
    have t2 : G2 tv = some (.frz od (.dK (dI m.arr))) := by rw [← hG2]; exact upd_same
    refine comp_vals (kvs := dI m.arr) (fun i H' => Same G2 H' ∧ H' tg = some (.dK (dB (addAll ((m.arr.map (·.2)).take i) [])))) ⟨Same.nw htg, upd_same⟩ (fun i H' _ p => p.1 _ _ t2) ?_ ?_
    · rintro i kk v H' hi ⟨e3, h3⟩
      obtain ⟨q, hq, rfl, rfl⟩ := dI_at hi
      have hq2 : (m.arr.map (·.2))[i]? = some q.2 := by rw [List.getElem?_map, hq]; rfl
      refine ⟨rfl, _, rfl, dB (addAll ((m.arr.map (·.2)).take i) []), Sum.inl q.2, rfl, h3, ?_, Same.mu e3 htg, ?_⟩
      · rw [dB_len]
        have l1 := addAll_len ((m.arr.map (·.2)).take i) []
        rw [List.length_take, List.length_map] at l1
        exact Nat.lt_of_le_of_lt (show _ ≤ 1000 by simp at l1; omega) (by decide)
      · rw [dB_put, addAll_turn hq2]
        exact upd_same
    rintro G3 ⟨e3, h3⟩
    have h3 : G3 tg = some (.dK (dB (tgts m.arr))) := by
      rw [dI_len, ← List.length_map (f := (·.2)) (as := m.arr), List.take_length] at h3
      exact h3
    have f3 : Same H G3 := e1.trans (e2.trans e3)
    have a3 : G3 ad = some (.dK (dI m.arr)) := e3 _ _ (e2 _ _ a1)
    refine ⟨_, _, rfl, by show 0 ≤ sizeLine; decide, fun L3 n3 => ⟨by show 0 ≤ sizeLine; decide, fun L4 n4 S nS => ⟨_, _, _, rfl, ?_⟩⟩⟩
    have d34 : L3 ≠ L4 := by intro z; subst z; rw [upd_same] at n4; cases n4
    have d3S : L3 ≠ S := by intro z; subst z; rw [upd_ne d34, upd_same] at nS; cases nS
    have d4S : L4 ≠ S := by intro z; subst z; rw [upd_same] at nS; cases nS
    have n4' : G3 L4 = none := by rw [upd_ne (Ne.symm d34)] at n4; exact n4
    have nS' : G3 S = none := by rw [upd_ne (Ne.symm d4S), upd_ne (Ne.symm d3S)] at nS; exact nS
    generalize hG4 : upd (upd (upd G3 L3 (.lst [])) L4 (.lst [])) S (.dK []) = G4
    have e4 : Same G3 G4 := by rw [← hG4]; exact Same.mu (Same.mu (Same.nw n3) n4') nS'
    have q3 : G4 L3 = some (.lst []) := by rw [← hG4]; exact upd_at (upd_at upd_same d34) d3S
    have q4 : G4 L4 = some (.lst []) := by rw [← hG4]; exact upd_at upd_same d4S
    have qS : G4 S = some (.dK (dB [])) := by rw [← hG4]; exact upd_same
    have nadS : ad ≠ S := ne_of_none a3 nS'
    have ntgS : tg ≠ S := ne_of_none h3 nS'
    have nad4 : ad ≠ L4 := ne_of_none a3 n4'
    have ntg4 : tg ≠ L4 := ne_of_none h3 n4'
    have nad3 : ad ≠ L3 := ne_of_none a3 n3
    have f4 : Same H G4 := f3.trans e4
    have hn3 : H L3 = none := f3.free n3
    have hn4 : H L4 = none := f3.free n4'
    have hnS : H S = none := f3.free nS'
    have xb : ∀ {xs : List V} {H' : Hp} {p q : Addr} {x : Addr} {o : HO}, True := trivial
    -- the chains
    refine ⟨_, rfl, a, dx, _, rfl, f4 _ _ h1, a, m, rfl, hm.mono f4, m.size, rfl, by omega, by omega, ?_⟩
    refine for_rng (n := m.size.toNat) (fun i σ H' => ∃ (x6 x7 x8 : Option V) (st : Pst) (as : List Addr), σ = [some (.ref a), some (.ref ad), some (.ref tg), some (.ref L3), some (.ref L4), some (.ref S), x6, x7, x8] ∧ itN (pturn m.arr fun x _ => has x (tgts m.arr)) ⟨[], []⟩ i = some st ∧
      Same H H' ∧ H' ad = some (.dK (dI m.arr)) ∧ H' tg = some (.dK (dB (tgts m.arr))) ∧ H' L3 = some (.lst []) ∧ H' L4 = some (.lst (as.map V.ref)) ∧ Rows H' as st.rows ∧ H' S = some (.dK (dB st.seen)) ∧ st.rows.length ≤ i ∧ st.seen.length ≤ 301 * i ∧ ∀ x ∈ as, x ≠ L4 ∧ x ≠ S ∧ x ≠ L3) ?_ ?_ ?_
    · exact ⟨_, _, _, ⟨[], []⟩, [], rfl, rfl, f4, e4 _ _ a3, e4 _ _ h3, q3, q4, .nil, qS, Nat.le_refl _, Nat.zero_le _, fun x hx => nomatch hx⟩
    · rintro i σ H' hi ⟨x6, x7, x8, st, as, rfl, it, f, ha, ht, h3', h4', hr', hS', z1, z2, z3⟩
      obtain ⟨st', u1, u2⟩ := itN_turn hpa hi it
      obtain ⟨y1, y2⟩ := pturn_len u1
      obtain ⟨o, ho1, ho2⟩ := DGet.b (k := (i : Int)) (Rd.of ht)
      refine ⟨_, rfl, _, rfl, tg, o, rfl, ho1, _, rfl, ?_⟩
      unfold pturn at u1
      by_cases hh : has (i : Int) (tgts m.arr) = true
      · rw [if_pos hh] at u1
        cases u1
        exact ifF (not_t (ho2.trans hh)) ⟨_, _, _, st, as, rfl, u2, f, ha, ht, h3', h4', hr', hS', by omega, by omega, z3⟩
      · rw [if_neg hh] at u1
        obtain ⟨row, w1, w2⟩ := Option.bind_eq_some_iff.mp u1
        cases w2
        refine ifT (not_f (ho2.trans (eq_false_of_ne_true hh))) ?_
        have ll := Paired.length hr'
        refine read_blk (c := 4) rfl ha w1 h4' hS' (by rw [List.length_map]; omega) (by omega) fun q H2 hq fr g4 gq gS => ?_
        refine ⟨_, _, _, ⟨st.rows ++ [row], addAll (addAll row []) st.seen⟩, as ++ [q], rfl, u2, fun x o hx => fr x o (f _ _ hx) (ne_of_none hx hn4) (ne_of_none hx hnS), fr _ _ ha nad4 nadS, fr _ _ ht ntg4 ntgS, fr _ _ h3' d34 d3S, ?_,
          Paired.snoc (Rows.frame hr' z3 fun x o hx n => fr x o hx n.1 n.2.1) gq, gS, by omega, by omega, all_snoc z3 ⟨Ne.symm (ne_of_none h4' hq), Ne.symm (ne_of_none hS' hq), Ne.symm (ne_of_none h3' hq)⟩⟩
        rw [List.map_append]
        exact g4
    rintro σ H5 ⟨x6, x7, x8, st, as, rfl, it, f5, a5, t5, q35, q45, r5, s5, z1, z2, z3⟩
    rw [hpa] at it
    cases it
    -- the cycles
    refine ⟨_, rfl, a, dx, _, rfl, f5 _ _ h1, a, m, rfl, hm.mono f5, m.size, rfl, by omega, by omega, ?_⟩
    refine for_rng (n := m.size.toNat) (fun i σ H' => ∃ (x6 x7 x8 : Option V) (st : Pst) (bs : List Addr), σ = [some (.ref a), some (.ref ad), some (.ref tg), some (.ref L3), some (.ref L4), some (.ref S), x6, x7, x8] ∧ itN (pturn m.arr fun x seen => has x seen) ⟨[], pa.seen⟩ i = some st ∧
      Same H H' ∧ H' ad = some (.dK (dI m.arr)) ∧ H' L4 = some (.lst (as.map V.ref)) ∧ Rows H' as pa.rows ∧ H' L3 = some (.lst (bs.map V.ref)) ∧ Rows H' bs st.rows ∧ H' S = some (.dK (dB st.seen)) ∧ st.rows.length ≤ i ∧ st.seen.length ≤ 301 * (i + 300) ∧ ∀ x ∈ bs, x ≠ L3 ∧ x ≠ S) ?_ ?_ ?_
    · exact ⟨_, _, _, ⟨[], pa.seen⟩, [], rfl, rfl, f5, a5, q45, r5, q35, .nil, s5, Nat.le_refl _, by show pa.seen.length ≤ _; omega, fun x hx => nomatch hx⟩
    · rintro i σ H' hi ⟨x6, x7, x8, st, bs, rfl, it, f, ha, h4', hra, h3', hr', hS', y1, y2, y3⟩
      obtain ⟨st', u1, u2⟩ := itN_turn hpb hi it
      obtain ⟨w1, w2⟩ := pturn_len u1
      obtain ⟨o, ho1, ho2⟩ := DGet.b (k := (i : Int)) (Rd.of hS')
      refine ⟨_, rfl, _, rfl, S, o, rfl, ho1, _, rfl, ?_⟩
      unfold pturn at u1
      by_cases hh : has (i : Int) st.seen = true
      · rw [if_pos hh] at u1
        cases u1
        exact ifF (not_t (ho2.trans hh)) ⟨_, _, _, st, bs, rfl, u2, f, ha, h4', hra, h3', hr', hS', by omega, by omega, y3⟩
      · rw [if_neg hh] at u1
        obtain ⟨row, v1, v2⟩ := Option.bind_eq_some_iff.mp u1
        cases v2
        refine ifT (not_f (ho2.trans (eq_false_of_ne_true hh))) ?_
        have ll := Paired.length hr'
        refine read_blk (c := 3) rfl ha v1 h3' hS' (by rw [List.length_map]; omega) (by omega) fun q H2 hq fr g3 gq gS => ?_
        refine ⟨_, _, _, ⟨st.rows ++ [row], addAll (addAll row []) st.seen⟩, bs ++ [q], rfl, u2, fun x o hx => fr x o (f _ _ hx) (ne_of_none hx hn3) (ne_of_none hx hnS), fr _ _ ha nad3 nadS, fr _ _ h4' (Ne.symm d34) d4S, Rows.frame hra z3 fun x o hx n => fr x o hx n.2.2 n.2.1, ?_,
          Paired.snoc (Rows.frame hr' y3 fun x o hx n => fr x o hx n.1 n.2) gq, gS, by omega, by omega, all_snoc y3 ⟨Ne.symm (ne_of_none h3' hq), Ne.symm (ne_of_none hS' hq)⟩⟩
        rw [List.map_append]
        exact g3
    rintro σ H6 ⟨y6, y7, y8, st, bs, rfl, it, f6, a6, q46, r6, q36, rb6, s6, _⟩
    rw [hpb] at it
    cases it
    cases hp3
    refine ⟨_, rfl, _, rfl, by show 2 ≤ sizeLine; decide, fun p hp => ?_⟩
    have e7 : Same H6 (upd H6 p (.tup [.ref L3, .ref L4])) := Same.nw hp
    exact k p L3 L4 _ (f6.trans e7) (f6.free hp) upd_same ⟨bs, e7 _ _ q36, rb6.mono e7⟩ ⟨as, e7 _ _ q46, r6.mono e7⟩
end
end Ck
set_option maxHeartbeats 4000000
/-! shapes: making, reading -/
namespace Ck
open PySem PySem.Spec PyProof.Rows L2
/-! ### counts: dicts of lengths to numbers, the keys rising -/
def ascB : Z2 → Bool
  | [] => true
  | p :: r => r.all (fun q => decide (p.1 < q.1)) && ascB r
def okC (l : Z2) : Bool := l.all (fun p => inR p.1 1 300 && inR p.2 1 300) && (ascB l && decide (l.length ≤ 50))
theorem ascB_pair : ∀ {l : Z2}, ascB l = true → l.Pairwise fun p q => p.1 < q.1
  | [], _ => .nil
  | p :: r, h => by
    obtain ⟨h1, h2⟩ := two h
    exact .cons (fun q hq => of_decide_eq_true (List.all_eq_true.mp h1 q hq)) (ascB_pair h2)
theorem okC_asc {l : Z2} (h : okC l = true) : l.Pairwise fun p q => p.1 < q.1 := ascB_pair (two (two h).2).1
theorem okC_len {l : Z2} (h : okC l = true) : l.length ≤ 50 := of_decide_eq_true (two (two h).2).2
theorem okC_pos {l : Z2} (h : okC l = true) {p : Int × Int} (hp : p ∈ l) : (1 ≤ p.1 ∧ p.1 ≤ 300) ∧ (1 ≤ p.2 ∧ p.2 ≤ 300) := by
  have h1 := List.all_eq_true.mp (two h).1 p hp
  obtain ⟨a, b⟩ := two h1
  obtain ⟨a1, a2⟩ := two a
  obtain ⟨b1, b2⟩ := two b
  exact ⟨⟨of_decide_eq_true a1, of_decide_eq_true a2⟩, ⟨of_decide_eq_true b1, of_decide_eq_true b2⟩⟩
theorem look_asc : ∀ {l : Z2} {i : Nat} {p : Int × Int}, (l.Pairwise fun p q => p.1 < q.1) → l[i]? = some p → look p.1 l = some p.2
  | [], i, p, _, h => by simp at h
  | q :: r, 0, p, _, h => by
    cases (show q = p by simpa using h)
    unfold look
    rw [List.find?_cons, decide_eq_true rfl]
    rfl
  | q :: r, i + 1, p, hp, h => by
    have hp2 := List.pairwise_cons.mp hp
    have h' : r[i]? = some p := by simpa using h
    have hlt := hp2.1 p (List.mem_of_getElem? h')
    have ih := look_asc hp2.2 h'
    unfold look at ih ⊢
    rw [List.find?_cons, decide_eq_false (by omega)]
    exact ih
theorem put_asc : ∀ {l : Z2} {i : Nat} {p : Int × Int}, (l.Pairwise fun p q => p.1 < q.1) → l[i]? = some p → put p.1 p.2 (l.take i) = l.take (i + 1) := by
  intro l i p hp h
  have hn : ((l.take i).any fun q => decide (q.1 = p.1)) = false := by
    rw [List.any_eq_false]
    intro q hq z
    have hz := of_decide_eq_true z
    obtain ⟨j, hj, e⟩ := List.mem_take_iff_getElem.mp hq
    have hi := (List.getElem?_eq_some_iff.mp h)
    obtain ⟨hil, hie⟩ := hi
    have := List.pairwise_iff_getElem.mp hp j i (by omega) hil (by omega)
    rw [e, hie] at this
    omega
  unfold put
  rw [hn, if_neg Bool.false_ne_true, List.take_add_one, h]
  rfl
theorem srt_one : ∀ {a b : List Int}, a.Perm b → a.Pairwise (· ≤ ·) → b.Pairwise (· ≤ ·) → a = b
  | [], b, h, _, _ => h.nil_eq
  | x :: a, [], h, _, _ => absurd h.length_eq (by simp)
  | x :: a, y :: b, h, ha, hb => by
    have h1 := List.pairwise_cons.mp ha
    have h2 := List.pairwise_cons.mp hb
    have hx : x ∈ y :: b := h.subset List.mem_cons_self
    have hy : y ∈ x :: a := h.symm.subset List.mem_cons_self
    have e : x = y := by
      rcases List.mem_cons.mp hx with z | z
      · exact z
      · rcases List.mem_cons.mp hy with z2 | z2
        · exact z2.symm
        · have := h1.1 y z2; have := h2.1 x z; omega
    subst e
    rw [srt_one (List.Perm.cons_inv h) h1.2 h2.2]
theorem keys_rise {l : Z2} (h : l.Pairwise fun p q => p.1 < q.1) : (l.map (·.1)).Pairwise (· ≤ ·) := List.pairwise_map.mpr (h.imp fun z => Int.le_of_lt z)
/-- for k in d, a locked dict -/
theorem comp_keys {d : Addr} {od : Obj} {kvs : List (Key × V)} {Qd : Hp → Prop} {B : V → Hp → (Hp → Prop) → Prop} {H1 : Hp} (Pv : Nat → Hp → Prop) (h0 : Pv 0 H1) (hl : ∀ i H, i ≤ kvs.length → Pv i H → H d = some (.frz od (.dK kvs)))
    (hs : ∀ (i : Nat) k v H, kvs[i]? = some (k, v) → Pv i H → B (kV k) H (Pv (i + 1))) (hd : ∀ H, Pv kvs.length H → Qd H) :
    ∃ W : Nat → Nat → Hp → Prop, (∃ m, W 0 m H1) ∧ ∀ i m H, W i m H →
      ((Itk d od kvs).stop i H ∧ Qd H) ∨ ((Itk d od kvs).go i H ∧ ∃ Nx : Hp → Prop, (∀ H', Nx H' → ∃ m', m' < m ∧ W (i + 1) m' H') ∧ ∀ x H', (Itk d od kvs).yld i H x H' → B x H' Nx) := by
  refine comp_gen (n := kvs.length) Pv h0 (fun i H hi p => ⟨hl i H (Nat.le_of_lt hi) p, hi⟩) (fun H p => ⟨hl _ H (Nat.le_refl _) p, Nat.le_refl _⟩) (fun i H hi p x H' y => ?_) hd
  obtain ⟨rfl, k, v, y, rfl⟩ := y
  exact hs i k v _ y p
/-- for k, v in d.items() -/
theorem comp_its {d : Addr} {od : Obj} {kvs : List (Key × V)} {Qd : Hp → Prop} {B : V → Hp → (Hp → Prop) → Prop} {H1 : Hp} (Pv : Nat → Hp → Prop) (h0 : Pv 0 H1) (hl : ∀ i H, i ≤ kvs.length → Pv i H → H d = some (.frz od (.dK kvs)))
    (hs : ∀ (i : Nat) k v H Tp H2, kvs[i]? = some (k, v) → Pv i H → Same H H2 → H2 Tp = some (.tup [kV k, v]) → B (.ref Tp) H2 (Pv (i + 1))) (hd : ∀ H, Pv kvs.length H → Qd H) :
    ∃ W : Nat → Nat → Hp → Prop, (∃ m, W 0 m H1) ∧ ∀ i m H, W i m H →
      ((Iti d od kvs).stop i H ∧ Qd H) ∨ ((Iti d od kvs).go i H ∧ ∃ Nx : Hp → Prop, (∀ H', Nx H' → ∃ m', m' < m ∧ W (i + 1) m' H') ∧ ∀ x H', (Iti d od kvs).yld i H x H' → B x H' Nx) := by
  refine comp_gen (n := kvs.length) Pv h0 (fun i H hi p => ⟨hl i H (Nat.le_of_lt hi) p, hi⟩) (fun H p => ⟨hl _ H (Nat.le_refl _) p, Nat.le_refl _⟩) (fun i H hi p x H' y => ?_) hd
  obtain ⟨Tp, k, v, e, rfl, hT, rfl⟩ := y
  exact hs i k v H Tp _ e p (Same.nw hT) upd_same
section
variable {P : Program} {w : World} {K : PySem.W.Frag} {mg : Str → Option Value} {base : Heap} (T : Tx K mg)
include T
abbrev sp_are_counts : Sp := fun vs H Q _ => ∃ (d : Addr) (l : Z2), vs = [.ref d] ∧ H d = some (.dK (dI l)) ∧ okC l = true ∧ ∀ H', Same H H' → Q (.bl true) H'
theorem ok_are_counts : Ok P w K mg base 2 d_are_counts ["value"] sp_are_counts := by
  refine mk_ok T.f_are_counts sc_are_counts (fun vs H Q E h => ?_) (fun cdv A outer s H vs Q E hr h => ?_)
  · obtain ⟨d, l, rfl, _⟩ := h; rfl
  · obtain ⟨d, l, rfl, hd, ho, k⟩ := h
    have nd := sc_are_counts.nd
    refine ⟨_, pss_cons (ps_if (pt_not (pt_val (pe_callB call_isi (by rfl) T.z_isinstance (by decide +kernel) (pa_cons (pv 0) (pa_cons (pe_bltn (v := .ty "dict") (by rfl) T.z_dict (by decide +kernel) rfl) pa_nil))))) pss_never pss_nil)
      (pss_one (ps_ret (pe_callB (cr_all (by rfl)) (by rfl) T.z_all (by decide +kernel) (pa_cons (pe_lock (pe_lc (own := [("one", 1), ("number", 2)]) (g := gTup K 2 (gCons (gName 1) (gCons (gName 2) gNil))) (by rfl) nd (pi_items (pv 0)) (blkOk_by (N := N_are_counts) (sc := defScope s_are_counts) (by decide +kernel))
        (fun _ _ _ _ _ => pg_tup (by rfl) (pgs_cons (pg_name (i := 1) nd rfl (Or.inl rfl)) (pgs_cons (pg_name (i := 2) nd rfl (Or.inl rfl)) pgs_nil))) (fun _ _ _ _ _ => pts_nil)
        (fun _ _ _ _ _ => pe_and (pe_f (ok_is_integer T) hr (by decide) (by rfl) T.m_is_integer (pa_cons (pv 1) pa_nil)) (pe_and (pe_f (ok_is_integer T) hr (by decide) (by rfl) T.m_is_integer (pa_cons (pv 2) pa_nil))
          (pe_and (pe_cmpR op_gt (pv 1) pe_int (nomark _)) (pe_one (pe_cmpR op_gt (pv 2) pe_int (nomark _)))))))) pa_nil)))), ?_⟩
    refine ⟨_, rfl, _, _, _, _, true, rfl, .ty "dict", .base (.dK hd), kit_ty (by decide +kernel), _, rfl, ?_⟩
    refine ⟨d, _, hd, True.intro, fun od => ?_⟩
    refine ⟨_, rfl, d, od, _, rfl, upd_same, fun D hD => ?_⟩
    generalize hG : upd H d (.frz od (.dK (dI l))) = G at hD
    have gd : G d = some (.frz od (.dK (dI l))) := by rw [← hG]; exact upd_same
    refine comp_its (kvs := dI l) (fun i H' => Same G H' ∧ H' D = some (.lst ((List.replicate i true).map V.bl))) ⟨Same.nw hD, upd_same⟩ (fun i H' _ p => p.1 _ _ gd) ?_ ?_
    · rintro i kk v H' Tp H2 hi ⟨e, hD'⟩ e2 hT
      obtain ⟨p, hp, rfl, rfl⟩ := dI_at hi
      obtain ⟨⟨p1, _⟩, ⟨p2, _⟩⟩ := okC_pos ho (List.mem_of_getElem? hp)
      have hlt := (List.getElem?_eq_some_iff.mp hp).1
      have hl := okC_len ho
      refine ⟨Tp, _, rfl, SqT.of hT, rfl, _, _, rfl, _, _, rfl, rfl, rfl, ?_⟩
      refine ⟨_, rfl, p.1, rfl, true, rfl, _, rfl, p.2, rfl, true, rfl, _, rfl, _, _, rfl, rfl, decide (0 < p.1), rfl, ifT (decide_eq_true (by omega)) ⟨_, rfl, _, _, rfl, rfl, ?_⟩⟩
      refine ⟨_, e2 _ _ hD', ?_, Same.mu (e.trans e2) hD, ?_⟩
      · rw [List.length_map, List.length_replicate]
        exact Nat.lt_of_le_of_lt (show i ≤ 50 by omega) (by decide)
      · rw [upd_same, List.replicate_succ', List.map_append]
        show some (HO.lst (_ ++ [V.bl (decide (0 < p.2))])) = some (HO.lst (_ ++ [V.bl true]))
        rw [decide_eq_true (show (0 : Int) < p.2 by omega)]
    · rintro H' ⟨e, hD'⟩
      subst hG
      obtain ⟨u1, u2⟩ := unlock hd e
      have nDd : D ≠ d := by intro z; subst z; rw [upd_same] at hD; cases hD
      refine ⟨u1, D, _, rfl, SqL.of (upd_at hD' nDd), ?_⟩
      rw [show (List.replicate (dI l).length true).all id = true from List.all_eq_true.mpr fun x hx => by rw [List.eq_of_mem_replicate hx]; rfl]
      exact k _ u2
abbrev sp_ordered : Sp := fun vs H Q _ => ∃ (d : Addr) (l : Z2), vs = [.ref d] ∧ H d = some (.dK (dI l)) ∧ okC l = true ∧ ∀ p H', Same H H' → H p = none → H' p = some (.dK (dI l)) → Q (.ref p) H'
theorem ok_ordered : Ok P w K mg base 1 d_ordered ["counts"] sp_ordered := by
  refine mk_ok T.f_ordered sc_ordered (fun vs H Q E h => ?_) (fun cdv A outer s H vs Q E hr h => ?_)
  · obtain ⟨d, l, rfl, _⟩ := h; rfl
  · obtain ⟨d, l, rfl, hd, ho, k⟩ := h
    have hu := hu_of hr
    have nd := sc_ordered.nd
    have hasc := okC_asc ho
    have hlen := okC_len ho
    refine ⟨_, pss_one (ps_ret (pe_dc (own := [("length", 1)]) (by rfl) nd (pi_list (pe_callB cr_sorted (by rfl) T.z_sorted (by decide +kernel) (pa_cons (pe_lock (pe_lc (own := [("length", 1)]) (by rfl) nd (pi_keys (pv 0))
        (blkOk_by (N := N_ordered) (sc := defScope s_ordered) (by decide +kernel)) (fun _ _ _ _ _ => pg_name (i := 1) nd rfl (Or.inl rfl)) (fun _ _ _ _ _ => pts_nil) (fun _ _ _ _ _ => pe_callTy call_int1 (by rfl) T.z_int (by decide +kernel) (pa_cons (pv 1) pa_nil)))) pa_nil)))
      (blkOk_by (N := N_ordered) (sc := defScope s_ordered) (by decide +kernel)) (fun _ _ _ _ _ => pg_name (i := 1) nd rfl (Or.inl rfl)) (fun _ _ _ _ _ => pts_nil) (fun _ _ _ _ _ => pv 1) (fun _ _ _ _ _ => pe_dget hu (pv 0) (pv 1) (fun _ _ => rfl)))), ?_⟩
    refine ⟨d, _, hd, True.intro, fun od => ?_⟩
    refine ⟨_, rfl, d, od, rfl, .inl ⟨_, upd_same, fun D hD => ?_⟩⟩
    generalize hG : upd H d (.frz od (.dK (dI l))) = G at hD
    have gd : G d = some (.frz od (.dK (dI l))) := by rw [← hG]; exact upd_same
    refine comp_keys (kvs := dI l) (fun i H' => Same G H' ∧ H' D = some (.lst (((l.map (·.1)).take i).map V.int))) ⟨Same.nw hD, upd_same⟩ (fun i H' _ p => p.1 _ _ gd) ?_ ?_
    · rintro i kk v H' hi ⟨e, hD'⟩
      obtain ⟨p, hp, rfl, rfl⟩ := dI_at hi
      have hlt := (List.getElem?_eq_some_iff.mp hp).1
      refine ⟨rfl, _, rfl, .inl ⟨p.1, rfl, _, hD', ?_, Same.mu e hD, ?_⟩⟩
      · rw [List.length_map, List.length_take, List.length_map]
        exact Nat.lt_of_le_of_lt (show _ ≤ 50 by omega) (by decide)
      · rw [upd_same, List.take_add_one, List.getElem?_map, hp, List.map_append]
        rfl
    · rintro H' ⟨e, hD'⟩
      subst hG
      obtain ⟨u1, u2⟩ := unlock hd e
      have nDd : D ≠ d := by intro z; subst z; rw [upd_same] at hD; cases hD
      have hD2 : (upd H' d (.dK (dI l))) D = some (.lst ((l.map (·.1)).map V.int)) := by
        rw [upd_ne nDd, hD', dI_len, ← List.length_map (f := (·.1)) (as := l), List.take_length]
      generalize hG2 : upd H' d (.dK (dI l)) = G2 at u2 hD2
      refine ⟨u1, D, l.map (·.1), rfl, SqL.of hD2, by rw [List.length_map]; omega, fun ns p hperm hsort hp => ?_⟩
      have en : ns = l.map (·.1) := srt_one hperm hsort (keys_rise hasc)
      subst en
      refine ⟨p, rfl, ⟨_, SqL.of upd_same⟩, fun R hR => ?_⟩
      generalize hG3 : upd G2 p (.lst ((l.map (·.1)).map V.int)) = G3 at hR
      have e3 : Same H G3 := by rw [← hG3]; exact u2.trans (Same.nw hp)
      have g3 : G3 p = some (.lst ((l.map (·.1)).map V.int)) := by rw [← hG3]; exact upd_same
      refine comp_lst (xs := (l.map (·.1)).map V.int) (fun i H' => Same G3 H' ∧ H' R = some (.dK (dI (l.take i)))) ⟨Same.nw hR, upd_same⟩ (fun i H' _ p => SqL.of (p.1 _ _ g3)) ?_ ?_
      · rintro i x H2 hi ⟨e4, h4⟩
        rw [List.getElem?_map, List.getElem?_map] at hi
        obtain ⟨n, hn, rfl⟩ := Option.map_eq_some_iff.mp hi
        obtain ⟨q, hq, rfl⟩ := Option.map_eq_some_iff.mp hn
        have g := DGet.r (k := q.1) (.inl (e4 _ _ (e3 _ _ hd)))
        rw [look_asc hasc hq] at g
        refine ⟨rfl, _, rfl, _, rfl, _, rfl, d, .int q.2, rfl, g, dI (l.take i), Sum.inl q.1, rfl, h4, ?_, Same.mu e4 hR, ?_⟩
        · rw [dI_len, List.length_take]
          exact Nat.lt_of_le_of_lt (show _ ≤ 50 by omega) (by decide)
        · rw [dI_put, put_asc hasc hq]
          exact upd_same
      · rintro H2 ⟨e4, h4⟩
        refine k R H2 (e3.trans e4) (e3.free hR) ?_
        rw [List.length_map, List.length_map, List.take_length] at h4
        exact h4
end
end Ck
set_option maxHeartbeats 4000000
/-! shapes: __init__, properties, ==, shape_of -/
namespace Ck
open PySem PySem.Spec PyProof.Rows L2
theorem dI_mem {l : Z2} {q : Key × V} (h : q ∈ dI l) : ∃ p ∈ l, q = (Sum.inl p.1, V.int p.2) := by
  obtain ⟨p, hp, e⟩ := List.mem_map.mp h
  exact ⟨p, hp, e.symm⟩
theorem dI_find {l : Z2} (h : okC l = true) : ∀ q ∈ dI l, valV (dI l) q.1 = some q.2 ∧ flatB q.2 = true := fun q hq => by
  obtain ⟨p, hp, rfl⟩ := dI_mem hq
  obtain ⟨i, hi, e⟩ := List.mem_iff_getElem.mp hp
  rw [dI_val, look_asc (okC_asc h) (by rw [List.getElem?_eq_getElem hi, e])]
  exact ⟨rfl, rfl⟩
theorem map_take_turn {α β : Type} (f : α → β) {xs : List α} {i : Nat} {x : α} (h : xs[i]? = some x) : (xs.take (i + 1)).map f = (xs.take i).map f ++ [f x] := by
  rw [List.take_add_one, h, List.map_append]
  rfl
/-- a Shape's promise at __init__, from the new instance on -/
abbrev NewShape (K : PySem.W.Frag) (H : Hp) (s : Sh) (Q : VK) : Prop := ∀ p H', Same H H' → H p = none → ShAt K H' p s → Q (.ref p) H'
def shSize (s : Sh) : Int := ((s.cyc ++ s.chn).map fun p => p.1 * p.2).sum
def cntF (rows : List (List Int)) : Nat → Z2
  | 0 => []
  | i + 1 => match rows[i]? with
    | some r => put (r.length : Int) ((look (r.length : Int) (cntF rows i)).getD 0 + 1) (cntF rows i)
    | none => cntF rows i
def cnt (rows : List (List Int)) : Z2 := cntF rows rows.length
theorem cntF_len (rows : List (List Int)) : ∀ i, (cntF rows i).length ≤ i
  | 0 => Nat.le_refl _
  | i + 1 => by
    have h := cntF_len rows i
    unfold cntF
    split
    · rename_i r _
      have := put_len (r.length : Int) ((look (r.length : Int) (cntF rows i)).getD 0 + 1) (cntF rows i)
      omega
    · omega
theorem cntF_turn {rows : List (List Int)} {i : Nat} {r : List Int} (h : rows[i]? = some r) : cntF rows (i + 1) = put (r.length : Int) ((look (r.length : Int) (cntF rows i)).getD 0 + 1) (cntF rows i) := by
  show (match rows[i]? with | some r => put (r.length : Int) ((look (r.length : Int) (cntF rows i)).getD 0 + 1) (cntF rows i) | none => cntF rows i) = _
  rw [h]
def mOk (m : Mp) : Bool := inR m.size 1 300 && decide (m.arr.length ≤ 1000)
def shapeOf (m : Mp) : Option Sh := if mOk m = true then (partsOf m).bind fun p => if (decide (p.1.length ≤ 300) && (decide (p.2.length ≤ 300) && (okC (cnt p.1) && okC (cnt p.2)))) = true then some ⟨cnt p.1, cnt p.2⟩ else none else none
theorem getD_int (o : Option Int) : (o.map V.int).getD (V.int 0) = V.int (o.getD 0) := by cases o <;> rfl
theorem Rows.at_ {H : Hp} : ∀ {as : List Addr} {rs : List (List Int)} {i : Nat} {a : Addr}, Rows H as rs → as[i]? = some a → ∃ r, rs[i]? = some r ∧ H a = some (.lst (r.map V.int))
  | _, _, i, a, .nil, h => by simp at h
  | _, _, 0, a, .cons z _, h => by cases (show _ = a by simpa using h); exact ⟨_, rfl, z⟩
  | _, _, i + 1, a, .cons _ t, h => by
    obtain ⟨r, h1, h2⟩ := Rows.at_ (i := i) t (by simpa using h)
    exact ⟨r, by simpa using h1, h2⟩
section
variable {P : Program} {w : World} {K : PySem.W.Frag} {mg : Str → Option Value} {base : Heap} (T : Tx K mg)
include T
abbrev sp_Shape_init (K : PySem.W.Frag) : Sp := fun vs H Q _ => ∃ (p dx c d : Addr) (s : Sh), vs = [.ref p, .ref c, .ref d] ∧ H p = some (.ins (He.ga K "Shape") dx []) ∧ H c = some (.dK (dI s.cyc)) ∧ H d = some (.dK (dI s.chn)) ∧
  (okC s.cyc = true ∧ okC s.chn = true) ∧ ∀ H', (∀ b o, H b = some o → b ≠ p → H' b = some o) → ShAt K H' p s → Q .non H'
theorem ok_Shape_init : Ok P w K mg base 3 d_Shape_init ["self", "cycles", "chains"] (sp_Shape_init K) := by
  refine mk_ok T.f_Shape_init sc_Shape_init (fun vs H Q E h => ?_) (fun cdv A outer s H vs Q E hr h => ?_)
  · obtain ⟨p, dx, c, d, s, rfl, _⟩ := h; rfl
  · obtain ⟨p, dx, c, d, s, rfl, hp, hc, hd, ⟨o1, o2⟩, k⟩ := h
    have npc : c ≠ p := ne_of hc hp (by intro z; cases z)
    have npd : d ≠ p := ne_of hd hp (by intro z; cases z)
    refine ⟨_, pss_cons (ps_if (pt_not (pt_val (pe_f (ok_are_counts T) hr (by decide) (by rfl) T.m_are_counts (pa_cons (pv 1) pa_nil)))) pss_never pss_nil)
      (pss_cons (ps_if (pt_not (pt_val (pe_f (ok_are_counts T) hr (by decide) (by rfl) T.m_are_counts (pa_cons (pv 2) pa_nil)))) pss_never pss_nil)
      (pss_cons (ps_fld (pv 0) (pe_f (ok_ordered T) hr (by decide) (by rfl) T.m_ordered (pa_cons (pv 1) pa_nil)) rfl)
      (pss_one (ps_fld (pv 0) (pe_f (ok_ordered T) hr (by decide) (by rfl) T.m_ordered (pa_cons (pv 2) pa_nil)) rfl)))), ?_⟩
    refine ⟨_, rfl, c, _, rfl, hc, o1, fun H1 e1 => ⟨_, rfl, ?_⟩⟩
    refine ⟨_, rfl, d, _, rfl, e1 _ _ hd, o2, fun H2 e2 => ⟨_, rfl, ?_⟩⟩
    have e2 := e1.trans e2
    refine ⟨_, rfl, c, _, rfl, e2 _ _ hc, o1, fun c' H3 e3 nc' hc' => ?_⟩
    have e3 := e2.trans e3
    have hp3 := e3 _ _ hp
    refine ⟨_, rfl, p, _, dx, _, rfl, hp3, T.cl_Shape, T.n_Shape_own_cycles, (by show 0 < 1000; decide), ?_⟩
    generalize hG : upd H3 p (.ins (He.ga K "Shape") dx (putF "own_cycles" (.ref c') [])) = G
    have ncp : c' ≠ p := by intro z; subst z; rw [hp3] at hc'; cases hc'
    have g1 : G p = some (.ins (He.ga K "Shape") dx (putF "own_cycles" (.ref c') [])) := by rw [← hG]; exact upd_same
    have g2 : G c' = some (.dK (dI s.cyc)) := by rw [← hG]; exact upd_at hc' ncp
    have g3 : G d = some (.dK (dI s.chn)) := by rw [← hG]; exact upd_at (e3 _ _ hd) npd
    refine ⟨_, rfl, d, _, rfl, g3, o2, fun d' H4 e4 nd' hd' => ?_⟩
    have hp4 := e4 _ _ g1
    refine ⟨_, rfl, p, _, dx, _, rfl, hp4, T.cl_Shape, T.n_Shape_own_chains, Nat.lt_of_le_of_lt (length_putF _ _ _) (by show 0 + 1 < 1000; decide), ?_⟩
    have ndp : d' ≠ p := by intro z; subst z; rw [hp4] at hd'; cases hd'
    refine k _ (fun b o hb nb => ?_) ⟨dx, c', d', upd_same, upd_at (e4 _ _ g2) ncp, upd_at hd' ndp⟩
    rw [upd_ne nb]
    refine e4 _ _ ?_
    rw [← hG, upd_ne nb]
    exact e3 _ _ hb
omit T in
theorem shape_made {H : Hp} {c d : Addr} {s : Sh} {Q : VK} (hc : H c = some (.dK (dI s.cyc))) (hd : H d = some (.dK (dI s.chn))) (h : okC s.cyc = true ∧ okC s.chn = true) (k : NewShape K H s Q) :
    ∀ x dx, H x = none → H dx = none → dx ≠ x → sp_Shape_init K ([.ref x] ++ ([.ref c, .ref d] ++ [])) (upd (upd H dx (.own x)) x (.ins (He.ga K "Shape") dx [])) (fun v H2 => v = .non ∧ Q (.ref x) H2) E0 := by
  intro x dx hx hdx ne
  refine ⟨x, dx, c, d, s, rfl, upd_same, ?_, ?_, h, fun H' e M => ⟨rfl, k x H' (Same.made hx hdx e) hx M⟩⟩
  · rw [upd_ne (ne_of_none hc hx), upd_ne (ne_of_none hc hdx)]
    exact hc
  · rw [upd_ne (ne_of_none hd hx), upd_ne (ne_of_none hd hdx)]
    exact hd
abbrev sp_Shape_cyc (K : PySem.W.Frag) : Sp := fun vs H Q _ => ∃ (a : Addr) (s : Sh), vs = [.ref a] ∧ ShAt K H a s ∧ ∀ p, H p = none → Q (.ref p) (upd H p (.dK (dI s.cyc)))
abbrev sp_Shape_chn (K : PySem.W.Frag) : Sp := fun vs H Q _ => ∃ (a : Addr) (s : Sh), vs = [.ref a] ∧ ShAt K H a s ∧ ∀ p, H p = none → Q (.ref p) (upd H p (.dK (dI s.chn)))
theorem ok_Shape_cycles : Ok P w K mg base 1 d_Shape_cycles ["self"] (sp_Shape_cyc K) := by
  refine mk_ok T.f_Shape_cycles sc_Shape_cycles (fun vs H Q E h => ?_) (fun cdv A outer s H vs Q E hr h => ?_)
  · obtain ⟨a, m, rfl, _⟩ := h; rfl
  · obtain ⟨a, s, rfl, ⟨dx, c, d, h1, h2, h3⟩, k⟩ := h
    refine ⟨_, pss_one (ps_ret (pe_callTy call_dictD (by rfl) T.z_dict (by decide +kernel) (pa_cons (pe_fld (pv 0) rfl) pa_nil))), ?_⟩
    exact ⟨_, rfl, a, _, dx, _, _, rfl, h1, T.cl_Shape, T.n_Shape_own_cycles, sF_cyc, c, _, rfl, .inl h2, k⟩
theorem ok_Shape_chains : Ok P w K mg base 1 d_Shape_chains ["self"] (sp_Shape_chn K) := by
  refine mk_ok T.f_Shape_chains sc_Shape_chains (fun vs H Q E h => ?_) (fun cdv A outer s H vs Q E hr h => ?_)
  · obtain ⟨a, m, rfl, _⟩ := h; rfl
  · obtain ⟨a, s, rfl, ⟨dx, c, d, h1, h2, h3⟩, k⟩ := h
    refine ⟨_, pss_one (ps_ret (pe_callTy call_dictD (by rfl) T.z_dict (by decide +kernel) (pa_cons (pe_fld (pv 0) rfl) pa_nil))), ?_⟩
    exact ⟨_, rfl, a, _, dx, _, _, rfl, h1, T.cl_Shape, T.n_Shape_own_chains, sF_chn, d, _, rfl, .inl h3, k⟩
abbrev sp_Shape_size (K : PySem.W.Frag) : Sp := fun vs H Q _ => ∃ (a : Addr) (s : Sh), vs = [.ref a] ∧ ShAt K H a s ∧ (okC s.cyc = true ∧ okC s.chn = true) ∧ ∀ H', Same H H' → Q (.int (shSize s)) H'
theorem ok_Shape_size : Ok P w K mg base 1 d_Shape_size ["self"] (sp_Shape_size K) := by
  refine mk_ok T.f_Shape_size sc_Shape_size (fun vs H Q E h => ?_) (fun cdv A outer s H vs Q E hr h => ?_)
  · obtain ⟨a, m, rfl, _⟩ := h; rfl
  · obtain ⟨a, s, rfl, ⟨dx, c, d, h1, h2, h3⟩, ⟨o1, o2⟩, k⟩ := h
    have nd := sc_Shape_size.nd
    refine ⟨_, pss_cons (ps_set (i := 1) nd rfl (Or.inl rfl) (pe_op op_cat (LiI.pe_listItems (by rfl) (pe_fld (pv 0) rfl) (by rfl) T.z_list (by decide +kernel)) (LiI.pe_listItems (by rfl) (pe_fld (pv 0) rfl) (by rfl) T.z_list (by decide +kernel))))
      (pss_one (ps_ret (pe_callB (cr_sum (by rfl)) (by rfl) T.z_sum (by decide +kernel) (pa_cons (pe_lc (own := [("length", 2), ("number", 3)]) (g := gTup K 2 (gCons (gName 2) (gCons (gName 3) gNil))) (by rfl) nd (pi_list (pv 1))
        (blkOk_by (N := N_Shape_size) (sc := defScope s_Shape_size) (by decide +kernel)) (fun _ _ _ _ _ => pg_tup (by rfl) (pgs_cons (pg_name (i := 2) nd rfl (Or.inl rfl)) (pgs_cons (pg_name (i := 3) nd rfl (Or.inl rfl)) pgs_nil))) (fun _ _ _ _ _ => pts_nil)
        (fun _ _ _ _ _ => pe_op op_mul (pv 2) (pv 3))) pa_nil)))), ?_⟩
    refine ⟨_, rfl, a, _, dx, _, _, rfl, h1, T.cl_Shape, T.n_Shape_own_cycles, sF_cyc, c, _, rfl, h2, fun H1 p1 t1 e1 n1 _ _ q1 r1 => ?_⟩
    refine ⟨_, rfl, a, _, dx, _, _, rfl, e1 _ _ h1, T.cl_Shape, T.n_Shape_own_chains, sF_chn, d, _, rfl, e1 _ _ h3, fun H2 p2 t2 e2 n2 _ _ q2 r2 => ?_⟩
    have l1 := Paired.length r1
    have l2 := Paired.length r2
    rw [dI_len] at l1 l2
    have k1 := okC_len o1
    have k2 := okC_len o2
    refine ⟨p1, p2, _, _, rfl, rfl, e2 _ _ q1, q2, by rw [List.length_map, List.length_map]; exact Nat.le_trans (show _ ≤ 100 by omega) (by decide), fun L hL => ?_⟩
    generalize hG : upd H2 L (.lst (t1.map V.ref ++ t2.map V.ref)) = G
    have eG : Same H2 G := by rw [← hG]; exact Same.nw hL
    have gL : G L = some (.lst ((t1 ++ t2).map V.ref)) := by rw [← hG, List.map_append]; exact upd_same
    have rr : Paired (fun (t : Addr) (q : Key × V) => G t = some (.tup [kV q.1, q.2])) (t1 ++ t2) (dI (s.cyc ++ s.chn)) := by
      rw [dI_app]
      have app : ∀ {xs zs : List Addr} {ys ws : List (Key × V)}, Paired (fun (t : Addr) (q : Key × V) => G t = some (.tup [kV q.1, q.2])) xs ys → Paired (fun (t : Addr) (q : Key × V) => G t = some (.tup [kV q.1, q.2])) zs ws → Paired (fun (t : Addr) (q : Key × V) => G t = some (.tup [kV q.1, q.2])) (xs ++ zs) (ys ++ ws) := by
        intro xs zs ys ws h1 h2
        induction h1 with
        | nil => exact h2
        | cons r t ih => exact .cons r ih
      exact app (Paired.mapP r1 fun x q z => eG _ _ (e2 _ _ z)) (Paired.mapP r2 fun x q z => eG _ _ z)
    have okp : ∀ q ∈ s.cyc ++ s.chn, 1 ≤ q.1 ∧ q.1 ≤ 300 := fun q hq => by
      rcases List.mem_append.mp hq with z | z
      · exact (okC_pos o1 z).1
      · exact (okC_pos o2 z).1
    refine ⟨_, rfl, L, rfl, ⟨_, SqL.of gL⟩, fun D hD => ?_⟩
    refine comp_lst (xs := (t1 ++ t2).map V.ref) (fun i H' => Same G H' ∧ H' D = some (.lst ((((s.cyc ++ s.chn).map fun p => p.1 * p.2).take i).map V.int))) ⟨Same.nw hD, upd_same⟩ (fun i H' _ p => SqL.of (p.1 _ _ gL)) ?_ ?_
    · rintro i x H' hi ⟨e, hD'⟩
      rw [List.getElem?_map] at hi
      obtain ⟨t, ht, rfl⟩ := Option.map_eq_some_iff.mp hi
      obtain ⟨q, hq, hG'⟩ := LiI.paired_get rr ht
      obtain ⟨kk, vv⟩ := q
      obtain ⟨p, hp, rfl, rfl⟩ := dI_at hq
      have hok := okp p (List.mem_of_getElem? hp)
      refine ⟨t, _, rfl, SqT.of (e _ _ hG'), rfl, _, _, rfl, _, _, rfl, rfl, rfl, ?_⟩
      refine ⟨_, rfl, _, rfl, p.1, p.2, rfl, rfl, cmulL (by omega), _, hD', ?_, Same.mu e hD, ?_⟩
      · rw [List.length_map, List.length_take, List.length_map, List.length_append]
        exact Nat.lt_of_le_of_lt (show _ ≤ 100 by omega) (by decide)
      · have hx : ((s.cyc ++ s.chn).map fun p => p.1 * p.2)[i]? = some (p.1 * p.2) := by rw [List.getElem?_map, hp]; rfl
        rw [upd_same, map_take_turn V.int hx]
    · rintro H' ⟨e, hD'⟩
      have hlen : ((t1 ++ t2).map V.ref).length = ((s.cyc ++ s.chn).map fun p => p.1 * p.2).length := by rw [List.length_map, List.length_map, List.length_append, List.length_append]; omega
      rw [hlen, List.take_length] at hD'
      exact ⟨D, _, rfl, SqL.of hD', k _ (Same.trans e1 (Same.trans e2 (eG.trans e)))⟩
abbrev R_sh (K : PySem.W.Frag) (a b : Addr) (H : Hp) : Prop := ∃ s : Sh, ShAt K H a s ∧ ShAt K H b s ∧ okC s.cyc = true ∧ okC s.chn = true
theorem ok_Shape_eq : Ok P w K mg base 1 d_Shape_eq ["self", "other"] (spEq (R_sh K)) := by
  refine mk_ok T.f_Shape_eq sc_Shape_eq (fun vs H Q E h => ?_) (fun cdv A outer s H vs Q E hr h => ?_)
  · obtain ⟨a, b, rfl, _⟩ := h; rfl
  · obtain ⟨a, b, rfl, ⟨s, ⟨dx, c, d, h1, h2, h3⟩, ⟨dy, c', d', g1, g2, g3⟩, o1, o2⟩, k⟩ := h
    have hu := hu_of hr
    refine ⟨_, pss_cons (ps_if (pt_not (pt_val (pe_callB call_isi (by rfl) T.z_isinstance (by decide +kernel) (pa_cons (pv 1) (pa_cons (pe_glob (v := .ref (He.ga K "Shape")) (by rfl) T.m_Shape rfl) pa_nil))))) pss_never pss_nil)
      (pss_one (ps_ret (pe_and (pe_cmpR (op_eq_dictA (Nat.lt_of_succ_lt hu)) (pe_fld (pv 0) rfl) (pe_fld (pv 1) rfl) (nomark _)) (pe_one (pe_cmpR (op_eq_dictA (Nat.lt_of_succ_lt hu)) (pe_fld (pv 0) rfl) (pe_fld (pv 1) rfl) (nomark _)))))), ?_⟩
    refine ⟨_, rfl, _, _, _, _, true, rfl, .own _, T.is_Shape g1, by unfold PySem.W.kitOne; rw [if_pos (beq_self_eq_true _)], _, rfl, ?_⟩
    refine ⟨_, rfl, a, _, dx, _, _, rfl, h1, T.cl_Shape, T.n_Shape_own_cycles, sF_cyc, _, rfl, b, _, dy, _, _, rfl, g1, T.cl_Shape, T.n_Shape_own_cycles, sF_cyc, c, c', _, _, rfl, rfl, h2, g2, rfl, dI_find o1, _, rfl, ?_⟩
    exact ⟨_, rfl, a, _, dx, _, _, rfl, h1, T.cl_Shape, T.n_Shape_own_chains, sF_chn, _, rfl, b, _, dy, _, _, rfl, g1, T.cl_Shape, T.n_Shape_own_chains, sF_chn, d, d', _, _, rfl, rfl, h3, g3, rfl, dI_find o2, k _ fun _ _ z => z⟩
abbrev sp_counts_of : Sp := fun vs H Q _ => ∃ (a : Addr) (rs : List (List Int)), vs = [.ref a] ∧ LRows H a rs ∧ rs.length ≤ 300 ∧ ∀ p H', Same H H' → H p = none → H' p = some (.dK (dI (cnt rs))) → Q (.ref p) H'
theorem ok_counts_of : Ok P w K mg base 1 d_counts_of ["parts"] sp_counts_of := by
  refine mk_ok T.f_counts_of sc_counts_of (fun vs H Q E h => ?_) (fun cdv A outer s H vs Q E hr h => ?_)
  · obtain ⟨a, rs, rfl, _⟩ := h; rfl
  · obtain ⟨a, rs, rfl, ⟨as, h1, h2⟩, hz, k⟩ := h
    have hu := hu_of hr
    have nd := sc_counts_of.nd
    have hl := Paired.length h2
    refine ⟨_, pss_cons (ps_set (i := 1) nd rfl (Or.inl rfl) pe_dnewK)
      (pss_cons (ps_for PassesOwn.never (by rfl) (pi_list (pv 0)) (pg_name (i := 2) nd rfl (Or.inl rfl))
        (pss_one (ps_dput hu (pv 1) (pe_callB call_len_seq (by rfl) T.z_len PySem.boot_len (pa_cons (pv 2) pa_nil))
          (pe_op op_add (pe_dget2 hu (pv 1) (pe_callB call_len_seq (by rfl) T.z_len PySem.boot_len (pa_cons (pv 2) pa_nil)) pe_int ⟨rfl, rfl, rfl, rfl⟩) pe_int) rfl)))
      (pss_one (ps_ret (pv 1)))), ?_⟩
    intro F nF
    have hF : ∀ o, (upd H F o) a = some (.lst (as.map V.ref)) := fun o => upd_at h1 (ne_of_none h1 nF)
    refine ⟨_, rfl, a, rfl, ⟨_, SqL.of (hF _)⟩, ?_⟩
    refine for_list (xs := as.map V.ref) (fun i σ H' => ∃ x, σ = [some (.ref a), some (.ref F), x] ∧ Same H H' ∧ H' F = some (.dK (dI (cntF rs i)))) ⟨_, rfl, Same.nw nF, upd_same⟩ (fun i σ H' _ p => by
      obtain ⟨x, rfl, e, _⟩ := p
      exact SqL.of (e _ _ h1)) ?_ ?_
    · rintro i x σ H' hi ⟨y, rfl, e, hF'⟩
      rw [List.getElem?_map] at hi
      obtain ⟨t, ht, rfl⟩ := Option.map_eq_some_iff.mp hi
      obtain ⟨r, hr', hrow⟩ := Rows.at_ h2 ht
      have hlt := (List.getElem?_eq_some_iff.mp hr').1
      have hlen := cntF_len rs i
      have g := DGet.r (k := (r.length : Int)) (.inl hF')
      refine ⟨_, rfl, F, rfl, .inl ⟨_, .inl hF'⟩, _, rfl, t, _, rfl, .inl (SqL.of (e _ _ hrow)), _, by rw [List.length_map]; exact g, ?_⟩
      rw [getD_int]
      refine ⟨_, _, rfl, rfl, _, rfl, _, rfl, t, _, rfl, .inl (SqL.of (e _ _ hrow)), F, upd H' F (.dK (dI (cntF rs (i + 1)))), rfl, ?_, ?_⟩
      · rw [List.length_map, cntF_turn hr']
        exact DPut.r hF' (by omega)
      · exact ⟨_, rfl, Same.mu e nF, upd_same⟩
    · rintro σ H' ⟨x, rfl, e, hF'⟩
      rw [List.length_map, hl] at hF'
      exact ⟨_, rfl, k F H' e nF hF'⟩
abbrev sp_shape_of (K : PySem.W.Frag) : Sp := fun vs H Q _ => ∃ (a : Addr) (m : Mp) (s : Sh), vs = [.ref a] ∧ MapAt K H a m ∧ shapeOf m = some s ∧ NewShape K H s Q
omit T in
theorem shapeOf_ok {m : Mp} {s : Sh} (h : shapeOf m = some s) : okC s.cyc = true ∧ okC s.chn = true := by
  unfold shapeOf at h
  split at h
  · obtain ⟨p, _, h2⟩ := Option.bind_eq_some_iff.mp h
    split at h2
    · rename_i hc
      cases h2
      exact two (two (two hc).2).2
    · cases h2
  · cases h
theorem ok_shape_of : Ok P w K mg base 6 d_shape_of ["given"] (sp_shape_of K) := by
  refine mk_ok T.f_shape_of sc_shape_of (fun vs H Q E h => ?_) (fun cdv A outer s H vs Q E hr h => ?_)
  · obtain ⟨a, m, s, rfl, _⟩ := h; rfl
  · obtain ⟨a, m, s, rfl, hm, hs, k⟩ := h
    have nd := sc_shape_of.nd
    have oo := shapeOf_ok hs
    unfold shapeOf at hs
    split at hs
    · rename_i hmo
      obtain ⟨p, hp, hs2⟩ := Option.bind_eq_some_iff.mp hs
      obtain ⟨cy, ch⟩ := p
      split at hs2
      · rename_i hc
        cases hs2
        obtain ⟨z1, hc⟩ := two hc
        obtain ⟨z2, _⟩ := two hc
        obtain ⟨m1, m2⟩ := two hmo
        obtain ⟨m3, m4⟩ := two m1
        refine ⟨_, pss_cons (ps_expr (pe_f (ok_check_map T) hr (by decide) (by rfl) T.m_check_map (pa_cons (pv 0) pa_nil)))
          (pss_cons (ps_asg (pe_f (ok_parts_of T) hr (by decide) (by rfl) T.m_parts_of (pa_cons (pv 0) pa_nil)) (pg_tup (by rfl) (pgs_cons (pg_name (i := 1) nd rfl (Or.inl rfl)) (pgs_cons (pg_name (i := 2) nd rfl (Or.inl rfl)) pgs_nil))))
          (pss_one (ps_ret (pe_m (ok_Shape_init T) hr (by decide) T.mk_Shape rfl (by rfl) T.m_Shape (pa_cons (pe_f (ok_counts_of T) hr (by decide) (by rfl) T.m_counts_of (pa_cons (pv 1) pa_nil)) (pa_cons (pe_f (ok_counts_of T) hr (by decide) (by rfl) T.m_counts_of (pa_cons (pv 2) pa_nil)) pa_nil)))))), ?_⟩
        refine ⟨_, rfl, a, m, rfl, hm, ?_⟩
        refine ⟨_, rfl, a, m, cy, ch, rfl, hm, ⟨hp, ⟨of_decide_eq_true m3, of_decide_eq_true m4⟩, of_decide_eq_true m2⟩, fun t c d H1 e1 nt ht hcy hch => ?_⟩
        refine ⟨t, _, rfl, SqT.of ht, rfl, _, _, rfl, _, _, rfl, rfl, ?_⟩
        refine ⟨_, rfl, c, cy, rfl, hcy, of_decide_eq_true z1, fun c' H2 e2 nc hc' => ?_⟩
        refine ⟨_, rfl, d, ch, rfl, ?_, of_decide_eq_true z2, fun d' H3 e3 nd' hd' => ?_⟩
        · obtain ⟨as, q1, q2⟩ := hch
          exact ⟨as, e2 _ _ q1, q2.mono e2⟩
        · exact shape_made (e3 _ _ hc') hd' oo fun p H' e n S => k p H' (e1.trans (e2.trans (e3.trans e))) ((e1.trans (e2.trans e3)).free n) S
      · cases hs2
    · cases hs
end
end Ck
set_option maxHeartbeats 4000000
/-! map_of -/
namespace Ck
open PySem PySem.Spec PyProof.Rows L2
abbrev rPlus : R2 := rI0 fun i j => .int (i + j)
abbrev rMinus : R2 := rI0 fun i j => .int (i - j)
def chainD (st : Int) : Nat → Z2
  | 0 => []
  | i + 1 => put (st + (i : Int)) (st + (i : Int) + 1) (chainD st i)
theorem chainD_len (st : Int) : ∀ i, (chainD st i).length ≤ i
  | 0 => Nat.le_refl _
  | i + 1 => by
    have h := chainD_len st i
    have := put_len (st + (i : Int)) (st + (i : Int) + 1) (chainD st i)
    show (put _ _ _).length ≤ i + 1
    omega
def mergeZ (a b : Z2) : Z2 := b.foldl (fun acc p => put p.1 p.2 acc) a
theorem merge_dI : ∀ (b a : Z2), mergeK (dI a) (dI b) = dI (mergeZ a b)
  | [], a => rfl
  | p :: r, a => by
    show mergeK (putK (dI a) (Sum.inl p.1) (.int p.2)) (dI r) = dI (mergeZ (put p.1 p.2 a) r)
    rw [dI_put, merge_dI r]
theorem mergeZ_len : ∀ (b a : Z2), (mergeZ a b).length ≤ a.length + b.length
  | [], a => Nat.le_refl _
  | p :: r, a => by
    have h1 := mergeZ_len r (put p.1 p.2 a)
    have h2 := put_len p.1 p.2 a
    show (mergeZ (put p.1 p.2 a) r).length ≤ a.length + (r.length + 1)
    omega
structure Mst where
  ar : Z2
  st : Int
def mturn (closed : Bool) (len : Int) (s : Mst) : Option Mst := if decide (s.ar.length ≤ 1000) = true then
  some ⟨if closed = true then put (s.st + len - 1) s.st (mergeZ s.ar (chainD s.st (len - 1).toNat)) else mergeZ s.ar (chainD s.st (len - 1).toNat), s.st + len⟩ else none
def mitem (closed : Bool) (s : Mst) (p : Int × Int) : Option Mst := itN (fun _ => mturn closed p.1) s p.2.toNat
def mcounts (closed : Bool) (l : Z2) (s : Mst) : Option Mst := itL (mitem closed) l s l.length
def mapOf (s : Sh) : Option Mp := if (okC s.cyc && (okC s.chn && inR (shSize s) 1 300)) = true then (mcounts true s.cyc ⟨[], 0⟩).bind fun a => (mcounts false s.chn a).bind fun b =>
  if (arrowsOk (shSize s) b.ar && decide (b.ar.length ≤ 1000)) = true then some (mkMp (shSize s) b.ar) else none else none
abbrev tT (K : PySem.W.Frag) : TS := tSeq (tDrop (tBM K "dict" rUpd (tVar 1) (tCons (tDc (iRng1 (tCons (tOp rMinus (tVar 5) (tC (.int 1))) tNil)) (gName 8) tYes (tOp rPlus (tVar 2) (tVar 8)) (tOp rPlus (tOp rPlus (tVar 2) (tVar 8)) (tC (.int 1))) [8]) tNil)))
  (tSeq (tIfS (tB (tVar 3)) (sDPut (tVar 1) (tOp rMinus (tOp rPlus (tVar 2) (tVar 5)) (tC (.int 1))) (tVar 2)) tNext) (tAug 2 (tVar 5) (ipI fun i j => i + j)))
section
variable {K : PySem.W.Frag} {A : Addr} {sh cd : V} {x7 x8 : Option V} {cl : Bool} {len num : Int} {H : Hp} {D : Ends}
theorem read_turn {s s' : Mst} (ht : mturn cl len s = some s') (hA : H A = some (.dK (dI s.ar))) (hlen : 1 ≤ len ∧ len ≤ 300)
    (k : ∀ H', (∀ x o, H x = some o → x ≠ A → H' x = some o) → H' A = some (.dK (dI s'.ar)) → D.nx [some sh, some (.ref A), some (.int s'.st), some (.bl cl), some cd, some (.int len), some (.int num), x7, x8] H') :
    tT K D [some sh, some (.ref A), some (.int s.st), some (.bl cl), some cd, some (.int len), some (.int num), x7, x8] H := by
  unfold mturn at ht
  split at ht
  · rename_i hz
    have hz := of_decide_eq_true hz
    refine ⟨_, rfl, .inr (.inr (.inl ⟨rfl, .inl ⟨_, hA⟩⟩)), _, rfl, _, _, rfl, rfl, len - 1, rfl, by omega, by omega, fun Dd hD => ?_⟩
    have nAD : A ≠ Dd := ne_of_none hA hD
    have cz := chainD_len s.st (len - 1).toNat
    refine comp_rng (n := (len - 1).toNat) (fun i H' => Same H H' ∧ H' Dd = some (.dK (dI (chainD s.st i)))) ⟨Same.nw hD, upd_same⟩ ?_ ?_
    · rintro i H' hi ⟨e, hD'⟩
      have hl := chainD_len s.st i
      refine ⟨rfl, _, rfl, _, rfl, _, _, rfl, rfl, _, rfl, _, rfl, _, _, rfl, rfl, _, _, rfl, rfl, dI (chainD s.st i), Sum.inl (s.st + (i : Int)), rfl, hD', ?_, Same.mu e hD, ?_⟩
      · rw [dI_len]
        exact Nat.lt_of_le_of_lt (show _ ≤ 300 by omega) (by decide)
      · rw [dI_put]
        exact upd_same
    · rintro H' ⟨e, hD'⟩
      refine ⟨A, Dd, _, _, rfl, rfl, e _ _ hA, hD', nAD, ?_, ?_⟩
      · rw [dI_len, dI_len]
        exact Nat.le_trans (show _ ≤ 1300 by omega) (by decide)
      rw [merge_dI]
      generalize hG : upd H' A (.dK (dI (mergeZ s.ar (chainD s.st (len - 1).toNat)))) = G
      have gA : G A = some (.dK (dI (mergeZ s.ar (chainD s.st (len - 1).toNat)))) := by rw [← hG]; exact upd_same
      have gf : ∀ x o, H x = some o → x ≠ A → G x = some o := fun x o hx n => by rw [← hG, upd_ne n]; exact e _ _ hx
      have ml := mergeZ_len (chainD s.st (len - 1).toNat) s.ar
      refine ⟨_, rfl, cl, rfl, ?_⟩
      cases cl with
      | true =>
        cases ht
        refine ⟨_, rfl, _, rfl, _, rfl, _, rfl, _, _, rfl, rfl, _, _, rfl, rfl, A, _, rfl, DPut.r gA (by omega), ?_⟩
        refine ⟨_, rfl, _, rfl, _, _, rfl, rfl, k _ (fun x o hx n => ?_) upd_same⟩
        rw [upd_ne n]
        exact gf x o hx n
      | false =>
        cases ht
        exact ⟨_, rfl, _, rfl, _, _, rfl, rfl, k _ gf gA⟩
  · cases ht
/-- for turn in range(number) -/
abbrev tI (K : PySem.W.Frag) : TS := tFor (iRng1 (tCons (tVar 6) tNil)) (gName 7) (tT K)
theorem read_item {s s' : Mst} (ht : mitem cl s (len, num) = some s') (hA : H A = some (.dK (dI s.ar))) (hlen : (1 ≤ len ∧ len ≤ 300) ∧ (1 ≤ num ∧ num ≤ 300))
    (k : ∀ x7' x8' H', (∀ x o, H x = some o → x ≠ A → H' x = some o) → H' A = some (.dK (dI s'.ar)) → D.nx [some sh, some (.ref A), some (.int s'.st), some (.bl cl), some cd, some (.int len), some (.int num), x7', x8'] H') :
    tI K D [some sh, some (.ref A), some (.int s.st), some (.bl cl), some cd, some (.int len), some (.int num), x7, x8] H := by
  refine ⟨_, rfl, num, rfl, by omega, by omega, ?_⟩
  refine for_rng (n := num.toNat) (fun i σ H' => ∃ x7 x8 t, σ = [some sh, some (.ref A), some (.int t.st), some (.bl cl), some cd, some (.int len), some (.int num), x7, x8] ∧ itN (fun _ => mturn cl len) s i = some t ∧ (∀ x o, H x = some o → x ≠ A → H' x = some o) ∧ H' A = some (.dK (dI t.ar))) ?_ ?_ ?_
  · exact ⟨_, _, s, rfl, rfl, fun _ _ h _ => h, hA⟩
  · rintro i σ H' hi ⟨x7, x8, t, rfl, it, f, hA'⟩
    obtain ⟨t', u1, u2⟩ := itN_turn ht hi it
    exact read_turn u1 hA' hlen.1 fun H2 f2 hA2 => ⟨_, _, t', rfl, u2, fun x o hx n => f2 x o (f x o hx n) n, hA2⟩
  · rintro σ H' ⟨x7, x8, t, rfl, it, f, hA'⟩
    have e : t = s' := Option.some.inj (it.symm.trans ht)
    subst e
    exact k _ _ H' f hA'
/-- for length, number in counts.items() -/
abbrev tC2 (K : PySem.W.Frag) : TS := tLock (tFor (iItems (tVar 4)) (gTup K 2 (gCons (gName 5) (gCons (gName 6) gNil))) (tI K))
theorem read_counts {s s' : Mst} {cd : Addr} {l : Z2} {x5 x6 : Option V} (ht : mcounts cl l s = some s') (hA : H A = some (.dK (dI s.ar))) (hc : H cd = some (.dK (dI l))) (hne : cd ≠ A) (hok : okC l = true)
    (k : ∀ x5' x6' x7' x8' H', (∀ x o, H x = some o → x ≠ A → H' x = some o) → H' A = some (.dK (dI s'.ar)) → D.nx [some sh, some (.ref A), some (.int s'.st), some (.bl cl), some (.ref cd), x5', x6', x7', x8'] H') :
    tC2 K D [some sh, some (.ref A), some (.int s.st), some (.bl cl), some (.ref cd), x5, x6, x7, x8] H := by
  refine ⟨cd, _, hc, True.intro, fun od => ?_⟩
  refine ⟨_, rfl, cd, od, _, rfl, upd_same, ?_⟩
  generalize hG : upd H cd (.frz od (.dK (dI l))) = G
  have gc : G cd = some (.frz od (.dK (dI l))) := by rw [← hG]; exact upd_same
  have gA : G A = some (.dK (dI s.ar)) := by rw [← hG]; exact upd_at hA (Ne.symm hne)
  refine for_its (fun i σ H' => ∃ x5 x6 x7 x8 t, σ = [some sh, some (.ref A), some (.int t.st), some (.bl cl), some (.ref cd), x5, x6, x7, x8] ∧ itL (mitem cl) l s i = some t ∧ (∀ x o, G x = some o → x ≠ A → H' x = some o) ∧ H' A = some (.dK (dI t.ar))) ?_ ?_ ?_ ?_
  · exact ⟨_, _, _, _, s, rfl, rfl, fun _ _ h _ => h, gA⟩
  · rintro i σ H' _ ⟨x5, x6, x7, x8, t, rfl, it, f, hA'⟩
    exact f _ _ gc hne
  · rintro i kk v σ H' H2 hi ⟨x5, x6, x7, x8, t, rfl, it, f, hA'⟩ e2
    obtain ⟨p, hp, rfl, rfl⟩ := dI_at hi
    have hlt := (List.getElem?_eq_some_iff.mp hp).1
    obtain ⟨t', u1, u2⟩ := itL_turn ht hlt it hp
    exact read_item (num := p.2) u1 (e2 _ _ hA') (okC_pos hok (List.mem_of_getElem? hp)) fun y7 y8 H3 f3 hA3 => ⟨_, _, _, _, t', rfl, u2, fun x o hx n => f3 x o (e2 _ _ (f x o hx n)) n, hA3⟩
  · rintro σ H' ⟨x5, x6, x7, x8, t, rfl, it, f, hA'⟩
    rw [dI_len] at it
    have e : t = s' := Option.some.inj (it.symm.trans ht)
    subst e
    refine ⟨f _ _ gc hne, k _ _ _ _ _ (fun x o hx n => ?_) (upd_at hA' (Ne.symm hne))⟩
    by_cases hxc : x = cd
    · subst hxc
      rw [upd_same, ← hc, hx]
    · rw [upd_ne hxc]
      exact f _ _ (by rw [← hG]; exact upd_at hx hxc) n
end
section
variable {P : Program} {w : World} {K : PySem.W.Frag} {mg : Str → Option Value} {base : Heap} (T : Tx K mg)
include T
abbrev sp_map_of (K : PySem.W.Frag) : Sp := fun vs H Q _ => ∃ (a : Addr) (s : Sh) (m : Mp), vs = [.ref a] ∧ ShAt K H a s ∧ mapOf s = some m ∧ NewMap K H m Q
theorem ok_map_of : Ok P w K mg base 6 d_map_of ["shape"] (sp_map_of K) := by
  obtain ⟨tk, hc⟩ := T.c_MAX_SIZE
  refine mk_ok T.f_map_of sc_map_of (fun vs H Q E h => ?_) (fun cdv A outer s H vs Q E hr h => ?_)
  · obtain ⟨a, s, m, rfl, _⟩ := h; rfl
  · obtain ⟨a, s, m, rfl, hS, hm, k⟩ := h
    have hu := hu_of hr
    have nd := sc_map_of.nd
    unfold mapOf at hm
    split at hm
    · rename_i hg
      obtain ⟨o1, hg⟩ := two hg
      obtain ⟨o2, hg⟩ := two hg
      obtain ⟨z1, z2⟩ := two hg
      have z1 := of_decide_eq_true z1
      have z2 := of_decide_eq_true z2
      obtain ⟨sa, ha, hm⟩ := Option.bind_eq_some_iff.mp hm
      obtain ⟨sb, hb, hm⟩ := Option.bind_eq_some_iff.mp hm
      split at hm
      · rename_i hq
        cases hm
        obtain ⟨q1, q2⟩ := two hq
        have q2 := of_decide_eq_true q2
        refine ⟨_, pss_cons (ps_expr (pe_f (ok_check_shape T) hr (by decide) (by rfl) T.m_check_shape (pa_cons (pv 0) pa_nil)))
          (pss_cons (ps_if (pt_cmpR op_eq (pe_p (ok_Shape_size T) hr (by decide) T.cl_Shape T.p_Shape_size (pv 0)) pe_int (nomark _)) pss_never pss_nil)
          (pss_cons (ps_if (pt_cmpR op_gt (pe_p (ok_Shape_size T) hr (by decide) T.cl_Shape T.p_Shape_size (pv 0)) (pe_glob (v := .int 300) (by rfl) hc ⟨_, rfl⟩) (nomark _)) pss_never pss_nil)
          (pss_cons (ps_asg (pe_tup (pa_cons pe_dnewK (pa_cons pe_int pa_nil))) (pg_tup (by rfl) (pgs_cons (pg_name (i := 1) nd rfl (Or.inl rfl)) (pgs_cons (pg_name (i := 2) nd rfl (Or.inr rfl)) pgs_nil))))
          (pss_cons (ps_for PassesOwn.never (by rfl) (pi_tup (pe_tup (pa_cons (pe_tup (pa_cons pe_bl (pa_cons (pe_p (ok_Shape_cycles T) hr (by decide) T.cl_Shape T.p_Shape_cycles (pv 0)) pa_nil)))
              (pa_cons (pe_tup (pa_cons pe_bl (pa_cons (pe_p (ok_Shape_chains T) hr (by decide) T.cl_Shape T.p_Shape_chains (pv 0)) pa_nil))) pa_nil)))) (pg_tup (by rfl) (pgs_cons (pg_name (i := 3) nd rfl (Or.inl rfl)) (pgs_cons (pg_name (i := 4) nd rfl (Or.inl rfl)) pgs_nil)))
            (pss_one (ps_lock (ps_for PassesOwn.never (by rfl) (pi_items (pv 4)) (pg_tup (by rfl) (pgs_cons (pg_name (i := 5) nd rfl (Or.inl rfl)) (pgs_cons (pg_name (i := 6) nd rfl (Or.inl rfl)) pgs_nil)))
              (pss_one (ps_for PassesOwn.never (by rfl) (pi_range1 (by rfl) T.z_range (pa_cons (pv 6) pa_nil)) (pg_name (i := 7) nd rfl (Or.inl rfl))
                (pss_cons (ps_expr (pe_bm PySem.F.plainAttrs_dict PySem.F.slot_dict_update PySem.F.type_dict_update mt_upd (pv 1) (pa_cons
                    (pe_dc (own := [("place", 8)]) (by rfl) nd (pi_range1 (by rfl) T.z_range (pa_cons (pe_op op_sub (pv 5) pe_int) pa_nil)) (blkOk_by (N := N_map_of) (sc := defScope s_map_of) (by decide +kernel)) (fun _ _ _ _ _ => pg_name (i := 8) nd rfl (Or.inl rfl))
                      (fun _ _ _ _ _ => pts_nil) (fun _ _ _ _ _ => pe_op op_add (pv 2) (pv 8)) (fun _ _ _ _ _ => pe_op op_add (pe_op op_add (pv 2) (pv 8)) pe_int)) pa_nil)))
                (pss_cons (ps_if (pt_val (pv 3)) (pss_one (ps_dput hu (pv 1) (pe_op op_sub (pe_op op_add (pv 2) (pv 5)) pe_int) (pv 2) rfl)) pss_nil)
                (pss_one (ps_aug (i := 2) nd rfl (Or.inr rfl) (pv 5) ip_add))))))))))
          (pss_one (ps_ret (pe_m (ok_Map_init T) hr (by decide) T.mk_Map rfl (by rfl) T.m_Map (pa_cons (pe_p (ok_Shape_size T) hr (by decide) T.cl_Shape T.p_Shape_size (pv 0)) (pa_cons (pv 1) pa_nil))))))))), ?_⟩
        obtain ⟨dx, c, d, h1, h2, h3⟩ := id hS
        refine ⟨_, rfl, a, s, rfl, hS, ?_⟩
        refine ⟨_, rfl, a, dx, _, rfl, h1, a, s, rfl, hS, ⟨o1, o2⟩, fun H1 e1 => ⟨rfl, _, rfl, ifF (decide_eq_false (fun z => by have := V.int.inj z; omega)) ?_⟩⟩
        refine ⟨_, rfl, a, dx, _, rfl, e1 _ _ h1, a, s, rfl, hS.mono e1, ⟨o1, o2⟩, fun H2 e2 => ⟨_, _, rfl, rfl, _, rfl, ifF (decide_eq_false (by omega)) ?_⟩⟩
        have e2 := e1.trans e2
        intro A nA
        refine ⟨by show 2 ≤ sizeLine; decide, fun t1 n1 => ⟨t1, _, rfl, SqT.of upd_same, rfl, _, _, rfl, _, _, rfl, rfl, ?_⟩⟩
        have nAt : A ≠ t1 := by intro z; subst z; rw [upd_same] at n1; cases n1
        have n1' : H2 t1 = none := by rw [upd_ne (Ne.symm nAt)] at n1; exact n1
        generalize hG : upd (upd H2 A (.dK [])) t1 (.tup [.ref A, .int 0]) = G
        have eG : Same H2 G := by rw [← hG]; exact Same.mu (Same.nw nA) n1'
        have gA : G A = some (.dK (dI [])) := by rw [← hG]; exact upd_at upd_same nAt
        have hA0 : H A = none := e2.free nA
        have eG2 := e2.trans eG
        -- ((True, shape.cycles), (False, shape.chains))
        refine ⟨_, rfl, a, dx, _, rfl, eG2 _ _ h1, a, s, rfl, hS.mono eG2, fun c1 nc1 => ⟨by show 2 ≤ sizeLine; decide, fun u1 nu1 => ?_⟩⟩
        generalize hG1 : upd (upd G c1 (.dK (dI s.cyc))) u1 (.tup [.bl true, .ref c1]) = G1
        have nc1u : c1 ≠ u1 := by intro z; subst z; rw [upd_same] at nu1; cases nu1
        have nu1' : G u1 = none := by rw [upd_ne (Ne.symm nc1u)] at nu1; exact nu1
        have eG1 : Same G G1 := by rw [← hG1]; exact Same.mu (Same.nw nc1) nu1'
        have g1c : G1 c1 = some (.dK (dI s.cyc)) := by rw [← hG1]; exact upd_at upd_same nc1u
        have g1u : G1 u1 = some (.tup [.bl true, .ref c1]) := by rw [← hG1]; exact upd_same
        have eG3 := eG2.trans eG1
        refine ⟨_, rfl, a, dx, _, rfl, eG3 _ _ h1, a, s, rfl, hS.mono eG3, fun c2 nc2 => ⟨by show 2 ≤ sizeLine; decide, fun u2 nu2 => ?_⟩⟩
        generalize hG2 : upd (upd G1 c2 (.dK (dI s.chn))) u2 (.tup [.bl false, .ref c2]) = G2
        have nc2u : c2 ≠ u2 := by intro z; subst z; rw [upd_same] at nu2; cases nu2
        have nu2' : G1 u2 = none := by rw [upd_ne (Ne.symm nc2u)] at nu2; exact nu2
        have eG2' : Same G1 G2 := by rw [← hG2]; exact Same.mu (Same.nw nc2) nu2'
        have g2c : G2 c2 = some (.dK (dI s.chn)) := by rw [← hG2]; exact upd_at upd_same nc2u
        have g2u : G2 u2 = some (.tup [.bl false, .ref c2]) := by rw [← hG2]; exact upd_same
        refine ⟨by show 2 ≤ sizeLine; decide, fun tt ntt => ?_⟩
        generalize hG5 : upd G2 tt (.tup [.ref u1, .ref u2]) = G5
        have eG5 : Same G2 G5 := by rw [← hG5]; exact Same.nw ntt
        have g5t : G5 tt = some (.tup [.ref u1, .ref u2]) := by rw [← hG5]; exact upd_same
        have f5 : Same G G5 := eG1.trans (eG2'.trans eG5)
        have f6 : Same H G5 := eG2.trans f5
        have g5A : G5 A = some (.dK (dI [])) := f5 _ _ gA
        have k1 : G5 u1 = some (.tup [.bl true, .ref c1]) := eG5 _ _ (eG2' _ _ g1u)
        have k2 : G5 u2 = some (.tup [.bl false, .ref c2]) := eG5 _ _ g2u
        have k3 : G5 c1 = some (.dK (dI s.cyc)) := eG5 _ _ (eG2' _ _ g1c)
        have k4 : G5 c2 = some (.dK (dI s.chn)) := eG5 _ _ g2c
        have ntA : tt ≠ A := ne_of g5t g5A (by intro z; cases z)
        have nu1A : u1 ≠ A := ne_of k1 g5A (by intro z; cases z)
        have nu2A : u2 ≠ A := ne_of k2 g5A (by intro z; cases z)
        have nc1A : c1 ≠ A := Ne.symm (ne_of_none gA nc1)
        have nc2A : c2 ≠ A := Ne.symm (ne_of_none (eG1 _ _ gA) nc2)
        refine ⟨tt, rfl, ⟨_, SqT.of g5t⟩, ?_⟩
        refine for_tup (xs := [.ref u1, .ref u2]) (fun i σ H' => ∃ x3 x4 x5 x6 x7 x8 t, σ = [some (.ref a), some (.ref A), some (.int t.st), x3, x4, x5, x6, x7, x8] ∧ (match i with
            | 0 => some (⟨[], 0⟩ : Mst)
            | 1 => some sa
            | _ => some sb) = some t ∧ (∀ x o, G5 x = some o → x ≠ A → H' x = some o) ∧ H' A = some (.dK (dI t.ar))) ?_ ?_ ?_ ?_
        · exact ⟨_, _, _, _, _, _, ⟨[], 0⟩, rfl, rfl, fun _ _ h _ => h, g5A⟩
        · rintro i σ H' _ ⟨x3, x4, x5, x6, x7, x8, t, rfl, _, f, _⟩
          exact SqT.of (f _ _ g5t ntA)
        · rintro i x σ H' hi ⟨x3, x4, x5, x6, x7, x8, t, rfl, ht, f, hA'⟩
          match i, hi, ht with
          | 0, hi, ht =>
            cases (show V.ref u1 = x from Option.some.inj hi)
            cases ht
            refine ⟨u1, _, rfl, SqT.of (f _ _ k1 nu1A), rfl, _, _, rfl, _, _, rfl, rfl, ?_⟩
            exact read_counts ha hA' (f _ _ k3 nc1A) nc1A o1 fun y5 y6 y7 y8 H3 f3 hA3 => ⟨_, _, _, _, _, _, sa, rfl, rfl, fun x o hx n => f3 x o (f x o hx n) n, hA3⟩
          | 1, hi, ht =>
            cases (show V.ref u2 = x from Option.some.inj hi)
            cases ht
            refine ⟨u2, _, rfl, SqT.of (f _ _ k2 nu2A), rfl, _, _, rfl, _, _, rfl, rfl, ?_⟩
            exact read_counts hb hA' (f _ _ k4 nc2A) nc2A o2 fun y5 y6 y7 y8 H3 f3 hA3 => ⟨_, _, _, _, _, _, sb, rfl, rfl, fun x o hx n => f3 x o (f x o hx n) n, hA3⟩
          | i + 2, hi, ht => simp at hi
        · rintro σ H' ⟨x3, x4, x5, x6, x7, x8, t, rfl, ht, f, hA'⟩
          cases ht
          have fH : Same H H' := fun x o hx => f _ _ (f6 _ _ hx) (ne_of_none hx hA0)
          refine ⟨_, rfl, a, dx, _, rfl, fH _ _ h1, a, s, rfl, hS.mono fH, ⟨o1, o2⟩, fun H3 e3 => ?_⟩
          refine ⟨_, rfl, ?_⟩
          exact map_made (e3 _ _ hA') ⟨⟨z1, z2⟩, q1, q2⟩ fun p H4 e4 n M => k p H4 (fH.trans (e3.trans e4)) ((fH.trans e3).free n) M
      · cases hm
    · cases hm
end
end Ck
set_option maxHeartbeats 4000000
/-! renamings counted -/
namespace Ck
open PySem PySem.Spec PyProof.Rows L2
def mul? (a b : Int) : Option Int := if a.natAbs.log2 + b.natAbs.log2 < 1000000 then some (a * b) else none
theorem mul?_ok {a b r : Int} (h : mul? a b = some r) : CMulW a b ∧ r = a * b := by
  unfold mul? at h
  split at h
  · rename_i hc
    cases h
    exact ⟨hc, rfl⟩
  · cases h
def symC (l : Z2) (f : Int) : Option Int := itL (fun f p => (mul? (powr p.1 p.2.toNat) (fact p.2.toNat)).bind (mul? f)) l f l.length
def symD (l : Z2) (f : Int) : Option Int := itL (fun f p => mul? f (fact p.2.toNat)) l f l.length
def sym (s : Sh) : Option Int := (symC s.cyc 1).bind (symD s.chn)
theorem rc_of {X : Cx} {k : Nat} {d : Df} {ps : List Str} {C fi : Addr} {R : Addr → Addr → Hp → Prop} (G : Ok X.prog X.w X.K X.mg X.base k d ps (spEq R)) (hm : Meth X.K C "__eq__" fi) (hf : fi = d.pth.ad X.K) : RcG X k (DIns C R) := by
  obtain ⟨⟨fd, F, B⟩, kp⟩ := G
  subst hf
  exact rcG_ins F hm.at_ hm.fn B (E := E0) pass0
section
variable {P : Program} {w : World} {K : PySem.W.Frag} {mg : Str → Option Value} {base : Heap} (T : Tx K mg)
include T
abbrev sp_sym (K : PySem.W.Frag) : Sp := fun vs H Q _ => ∃ (a : Addr) (s : Sh) (n : Int), vs = [.ref a] ∧ ShAt K H a s ∧ ((okC s.cyc = true ∧ okC s.chn = true) ∧ sym s = some n) ∧ ∀ H', Same H H' → Q (.int n) H'
theorem ok_count_symmetries : Ok P w K mg base 3 d_count_symmetries ["shape"] (sp_sym K) := by
  refine mk_ok T.f_count_symmetries sc_count_symmetries (fun vs H Q E h => ?_) (fun cdv A outer s H vs Q E hr h => ?_)
  · obtain ⟨a, m, n, rfl, _⟩ := h; rfl
  · obtain ⟨a, s, n, rfl, hS, ⟨⟨o1, o2⟩, hn⟩, k⟩ := h
    have nd := sc_count_symmetries.nd
    obtain ⟨f1, hf1, hf2⟩ := Option.bind_eq_some_iff.mp hn
    obtain ⟨dx, c, d, h1, h2, h3⟩ := id hS
    refine ⟨_, pss_cons (ps_set (i := 1) nd rfl (Or.inl rfl) pe_int)
      (pss_cons (ps_for PassesOwn.never (by rfl) (pi_items (pe_fz (pe_p (ok_Shape_cycles T) hr (by decide) T.cl_Shape T.p_Shape_cycles (pv 0)))) (pg_tup (by rfl) (pgs_cons (pg_name (i := 2) nd rfl (Or.inl rfl)) (pgs_cons (pg_name (i := 3) nd rfl (Or.inl rfl)) pgs_nil)))
        (pss_one (ps_aug (i := 1) nd rfl (Or.inl rfl) (pe_op op_mulW (pe_f (ok_power_of T) hr (by decide) (by rfl) T.m_power_of (pa_cons (pv 2) (pa_cons (pv 3) pa_nil))) (pe_f (ok_factorial T) hr (by decide) (by rfl) T.m_factorial (pa_cons (pv 3) pa_nil))) iop_mulW)))
      (pss_cons (ps_for PassesOwn.never (by rfl) (pi_values (pe_fz (pe_p (ok_Shape_chains T) hr (by decide) T.cl_Shape T.p_Shape_chains (pv 0)))) (pg_name (i := 3) nd rfl (Or.inl rfl))
        (pss_one (ps_aug (i := 1) nd rfl (Or.inl rfl) (pe_f (ok_factorial T) hr (by decide) (by rfl) T.m_factorial (pa_cons (pv 3) pa_nil)) iop_mulW)))
      (pss_one (ps_ret (pv 1))))), ?_⟩
    refine ⟨_, rfl, a, dx, _, rfl, h1, a, s, rfl, hS, fun t nt => ⟨t, _, rfl, upd_same, True.intro, fun od => ⟨t, od, _, rfl, upd_same, ?_⟩⟩⟩
    generalize hG : upd (upd H t (.dK (dI s.cyc))) t (.frz od (.dK (dI s.cyc))) = G
    have eG : Same H G := by rw [← hG, upd_upd]; exact Same.nw nt
    have gt : G t = some (.frz od (.dK (dI s.cyc))) := by rw [← hG]; exact upd_same
    refine for_its (fun i σ H' => ∃ x y f, σ = [some (.ref a), some (.int f), x, y] ∧ itL (fun f p => (mul? (powr p.1 p.2.toNat) (fact p.2.toNat)).bind (mul? f)) s.cyc 1 i = some f ∧ Same G H') ?_ ?_ ?_ ?_
    · exact ⟨_, _, 1, rfl, rfl, fun _ _ z => z⟩
    · rintro i σ H' _ ⟨x, y, f, rfl, it, e⟩
      exact e _ _ gt
    · rintro i kk v σ H' H2 hi ⟨x, y, f, rfl, it, e⟩ e2
      obtain ⟨p, hp, rfl, rfl⟩ := dI_at hi
      obtain ⟨f', u1, u2⟩ := itL_turn hf1 (List.getElem?_eq_some_iff.mp hp).1 it hp
      obtain ⟨m, v1, v2⟩ := Option.bind_eq_some_iff.mp u1
      obtain ⟨w1, rfl⟩ := mul?_ok v1
      obtain ⟨w2, rfl⟩ := mul?_ok v2
      have hk := okC_pos o1 (List.mem_of_getElem? hp)
      exact ⟨_, rfl, _, rfl, _, rfl, p.1, p.2, rfl, ⟨by omega, by omega, by omega⟩, _, rfl, p.2, rfl, ⟨by omega, by omega⟩, _, _, rfl, rfl, w1, _, _, rfl, rfl, w2, _, _, _, rfl, u2, e.trans e2⟩
    · rintro σ H' ⟨x, y, f, rfl, it, e⟩
      rw [dI_len] at it
      have ef : f = f1 := Option.some.inj (it.symm.trans hf1)
      subst ef
      have eH : Same H H' := eG.trans e
      refine ⟨_, rfl, a, dx, _, rfl, eH _ _ h1, a, s, rfl, hS.mono eH, fun t2 nt2 => ⟨t2, _, rfl, upd_same, True.intro, fun od2 => ⟨t2, od2, _, rfl, upd_same, ?_⟩⟩⟩
      generalize hG2 : upd (upd H' t2 (.dK (dI s.chn))) t2 (.frz od2 (.dK (dI s.chn))) = G2
      have eG2 : Same H' G2 := by rw [← hG2, upd_upd]; exact Same.nw nt2
      have gt2 : G2 t2 = some (.frz od2 (.dK (dI s.chn))) := by rw [← hG2]; exact upd_same
      refine for_vals (fun i σ H3 => ∃ x y g, σ = [some (.ref a), some (.int g), x, y] ∧ itL (fun f p => mul? f (fact p.2.toNat)) s.chn f i = some g ∧ Same G2 H3) ?_ ?_ ?_ ?_
      · exact ⟨_, _, f, rfl, rfl, fun _ _ z => z⟩
      · rintro i σ H3 _ ⟨x, y, g, rfl, it2, e3⟩
        exact e3 _ _ gt2
      · rintro i kk v σ H3 hi ⟨x, y, g, rfl, it2, e3⟩
        obtain ⟨p, hp, rfl, rfl⟩ := dI_at hi
        obtain ⟨g', u1, u2⟩ := itL_turn hf2 (List.getElem?_eq_some_iff.mp hp).1 it2 hp
        obtain ⟨w1, rfl⟩ := mul?_ok u1
        have hk := okC_pos o2 (List.mem_of_getElem? hp)
        exact ⟨_, rfl, _, rfl, p.2, rfl, ⟨by omega, by omega⟩, _, _, rfl, rfl, w1, _, _, _, rfl, u2, e3⟩
      · rintro σ H3 ⟨x, y, g, rfl, it2, e3⟩
        rw [dI_len] at it2
        have eg : g = n := Option.some.inj (it2.symm.trans hf2)
        subst eg
        exact ⟨_, rfl, k _ (eH.trans (eG2.trans e3))⟩
abbrev sp_are_alike (K : PySem.W.Frag) : Sp := fun vs H Q _ => ∃ (a b : Addr) (m : Mp) (s : Sh), vs = [.ref a, .ref b] ∧ MapAt K H a m ∧ MapAt K H b m ∧ shapeOf m = some s ∧ ∀ H', Same H H' → Q (.bl true) H'
theorem ok_are_alike : Ok P w K mg base 7 d_are_alike ["one", "other"] (sp_are_alike K) := by
  refine mk_ok T.f_are_alike sc_are_alike (fun vs H Q E h => ?_) (fun cdv A outer s H vs Q E hr h => ?_)
  · obtain ⟨a, b, m, s, rfl, _⟩ := h; rfl
  · obtain ⟨a, b, m, s, rfl, ha, hb, hs, k⟩ := h
    obtain ⟨o1, o2⟩ := shapeOf_ok hs
    obtain ⟨dx, c, h1, _⟩ := id ha
    obtain ⟨dy, d, g1, _⟩ := id hb
    refine ⟨_, pss_cons (ps_expr (pe_f (ok_check_map T) hr (by decide) (by rfl) T.m_check_map (pa_cons (pv 0) pa_nil)))
      (pss_cons (ps_expr (pe_f (ok_check_map T) hr (by decide) (by rfl) T.m_check_map (pa_cons (pv 1) pa_nil)))
      (pss_one (ps_ret (pe_and (pe_cmpR op_eq (pe_p (ok_Map_size T) hr (by decide) T.cl_Map T.p_Map_size (pv 0)) (pe_p (ok_Map_size T) hr (by decide) T.cl_Map T.p_Map_size (pv 1)) (nomark _))
        (pe_one (pe_cmpR (op_eqG (rc_of (ok_Shape_eq T) T.me_Shape_eq rfl) (hr.mono (by decide))) (pe_f (ok_shape_of T) hr (by decide) (by rfl) T.m_shape_of (pa_cons (pv 0) pa_nil)) (pe_f (ok_shape_of T) hr (by decide) (by rfl) T.m_shape_of (pa_cons (pv 1) pa_nil)) (nomark _))))))), ?_⟩
    refine ⟨_, rfl, a, m, rfl, ha, ?_⟩
    refine ⟨_, rfl, b, m, rfl, hb, ?_⟩
    refine ⟨_, rfl, a, dx, _, rfl, h1, a, m, rfl, ha, _, rfl, b, dy, _, rfl, g1, b, m, rfl, hb, rfl, _, rfl, ifT (decide_eq_true rfl) ?_⟩
    refine ⟨_, rfl, a, m, s, rfl, ha, hs, fun p H1 e1 n1 S1 => ?_⟩
    refine ⟨_, rfl, b, m, s, rfl, hb.mono e1, hs, fun q H2 e2 n2 S2 => ?_⟩
    obtain ⟨ex, ec, ed, t1, t2, t3⟩ := S1.mono e2
    obtain ⟨fx, fc, fd, u1, u2, u3⟩ := id S2
    exact ⟨⟨p, q, ex, fx, _, _, rfl, rfl, t1, u1, s, S1.mono e2, S2, o1, o2⟩, fun H' e => k H' (e1.trans (e2.trans e))⟩
abbrev sp_count_renamings (K : PySem.W.Frag) : Sp := fun vs H Q _ => ∃ (a b : Addr) (m : Mp) (s : Sh) (n : Int), vs = [.ref a, .ref b] ∧ MapAt K H a m ∧ MapAt K H b m ∧ (shapeOf m = some s ∧ sym s = some n) ∧ ∀ H', Same H H' → Q (.int n) H'
theorem ok_count_renamings : Ok P w K mg base 8 d_count_renamings ["one", "other"] (sp_count_renamings K) := by
  refine mk_ok T.f_count_renamings sc_count_renamings (fun vs H Q E h => ?_) (fun cdv A outer s H vs Q E hr h => ?_)
  · obtain ⟨a, b, m, s, n, rfl, _⟩ := h; rfl
  · obtain ⟨a, b, m, s, n, rfl, ha, hb, ⟨hs, hn⟩, k⟩ := h
    refine ⟨_, pss_one (ps_ret (pe_ifExp (pt_val (pe_f (ok_are_alike T) hr (by decide) (by rfl) T.m_are_alike (pa_cons (pv 0) (pa_cons (pv 1) pa_nil)))) (pe_f (ok_count_symmetries T) hr (by decide) (by rfl) T.m_count_symmetries (pa_cons (pe_f (ok_shape_of T) hr (by decide) (by rfl) T.m_shape_of (pa_cons (pv 0) pa_nil)) pa_nil)) pe_int)), ?_⟩
    refine ⟨_, rfl, _, rfl, a, b, m, s, rfl, ha, hb, hs, fun H1 e1 => ⟨_, rfl, ?_⟩⟩
    refine ⟨_, rfl, a, m, s, rfl, ha.mono e1, hs, fun p H2 e2 n2 S => ?_⟩
    exact ⟨p, s, n, rfl, S, ⟨shapeOf_ok hs, hn⟩, fun H3 e3 => k _ (e1.trans (e2.trans e3))⟩
end
end Ck
set_option maxHeartbeats 4000000
/-! roots: whether there is one -/
namespace Ck
open PySem PySem.Spec PyProof.Rows L2
abbrev gcdI (a b : Int) : Int := ((Int.gcd a b : Nat) : Int)
def gsGo (len : Int) : Nat → Int → Option Int
  | 0, _ => none
  | n + 1, rest => if (decide (0 ≤ rest) && decide ((gcdI rest len).natAbs.log2 < 9000)) = true then (if decide (1 < gcdI rest len) = true then gsGo len n (rest / gcdI rest len) else some rest) else none
def groupSize (len deg : Int) : Option Int := if (decide (0 ≤ len) && decide (0 ≤ deg)) = true then (gsGo len 120 deg).bind fun r => if (decide (0 < r) && decide (r.natAbs.log2 < 9000)) = true then some (deg / r) else none else none
def fcGo (ch : Z2) (deg : Int) : Z2 → Z2 → Option Int
  | [], _ => none
  | p :: r, used => if (decide (0 < (p.2 - (look p.1 used).getD 0) % deg) && decide (1 < p.1)) = true then
      (if decide ((look (p.1 - 1) ch).getD 0 < deg - (p.2 - (look p.1 used).getD 0) % deg) = true then some p.1 else fcGo ch deg r (put (p.1 - 1) (deg - (p.2 - (look p.1 used).getD 0) % deg) used))
    else fcGo ch deg r used
def failing (ch : Z2) (deg : Int) : Option Int := fcGo ch deg ch.reverse []
def ocGo (deg : Int) : Z2 → Option Bool
  | [] => some true
  | p :: r => (groupSize p.1 deg).bind fun g => if decide (0 < g) = true then (if decide (p.2 % g = 0) = true then ocGo deg r else some false) else none
def hasRoot (s : Sh) (deg : Int) : Option Bool := (ocGo deg s.cyc).bind fun b => if b = true then some (failing s.chn deg).isNone else some false
def vOpt : Option Int → V
  | none => .non
  | some n => .int n
section
variable {P : Program} {w : World} {K : PySem.W.Frag} {mg : Str → Option Value} {base : Heap} (T : Tx K mg)
include T
abbrev sp_group : Sp := fun vs H Q _ => ∃ len deg g : Int, vs = [.int len, .int deg] ∧ groupSize len deg = some g ∧ Q (.int g) H
theorem ok_group_size : Ok P w K mg base 2 d_group_size ["length", "degree"] sp_group := by
  refine mk_ok T.f_group_size sc_group_size (fun vs H Q E h => ?_) (fun cdv A outer s H vs Q E hr h => ?_)
  · obtain ⟨a, b, g, rfl, _⟩ := h; rfl
  · obtain ⟨len, deg, g, rfl, hg, k⟩ := h
    have nd := sc_group_size.nd
    unfold groupSize at hg
    split at hg
    · rename_i hc
      obtain ⟨c1, c2⟩ := two hc
      have c1 := of_decide_eq_true c1
      have c2 := of_decide_eq_true c2
      obtain ⟨r, hr1, hr2⟩ := Option.bind_eq_some_iff.mp hg
      split at hr2
      · rename_i hd
        cases hr2
        obtain ⟨d1, d2⟩ := two hd
        have d1 := of_decide_eq_true d1
        have d2 := of_decide_eq_true d2
        refine ⟨_, pss_cons (ps_set (i := 2) nd rfl (Or.inl rfl) (pv 1))
          (pss_cons (ps_set (i := 3) nd rfl (Or.inl rfl) (pe_f (ok_gcd T) hr (by decide) (by rfl) T.m_greatest_divisor (pa_cons (pv 2) (pa_cons (pv 0) pa_nil))))
          (pss_cons (ps_while PassesOwn.never (pt_cmpR op_gt (pv 3) pe_int (nomark _))
            (pss_cons (ps_aug (i := 2) nd rfl (Or.inl rfl) (pv 3) iop_fdivW)
            (pss_one (ps_set (i := 3) nd rfl (Or.inl rfl) (pe_f (ok_gcd T) hr (by decide) (by rfl) T.m_greatest_divisor (pa_cons (pv 2) (pa_cons (pv 0) pa_nil)))))))
          (pss_one (ps_ret (pe_op op_fdivW (pv 1) (pv 2)))))), ?_⟩
        refine ⟨_, rfl, _, rfl, _, rfl, deg, len, rfl, ⟨c2, c1⟩, ?_⟩
        refine ⟨fun m σ H' => ∃ rest, σ = [some (.int len), some (.int deg), some (.int rest), some (.int (gcdI rest len))] ∧ H' = H ∧ gsGo len m rest = some r, ⟨120, deg, rfl, rfl, hr1⟩, ?_⟩
        rintro m σ H' ⟨rest, rfl, rfl, hg2⟩
        cases m with
        | zero => cases hg2
        | succ m =>
          unfold gsGo at hg2
          split at hg2
          · rename_i hc2
            obtain ⟨x1, x2⟩ := two hc2
            have x1 := of_decide_eq_true x1
            have x2 := of_decide_eq_true x2
            refine ⟨_, rfl, _, _, rfl, rfl, _, rfl, ?_⟩
            split at hg2
            · rename_i hlt
              have hlt2 := of_decide_eq_true hlt
              refine ifT hlt ⟨fun σ2 H2 => σ2 = [some (.int len), some (.int deg), some (.int (rest / gcdI rest len)), some (.int (gcdI (rest / gcdI rest len) len))] ∧ H2 = H', ?_, ?_⟩
              · rintro σ2 H2 ⟨rfl, rfl⟩
                exact ⟨m, Nat.lt_succ_self _, _, rfl, rfl, hg2⟩
              · exact ⟨_, rfl, _, rfl, _, _, rfl, rfl, ⟨by omega, x2⟩, _, rfl, _, rfl, _, _, rfl, ⟨Int.ediv_nonneg x1 (by omega), c1⟩, rfl, rfl⟩
            · rename_i hlt
              cases hg2
              exact ifF (eq_false_of_ne_true hlt) ⟨_, rfl, _, rfl, _, _, rfl, rfl, ⟨d1, d2⟩, k⟩
          · cases hg2
      · cases hr2
    · cases hg
abbrev sp_failing : Sp := fun vs H Q _ => ∃ (d : Addr) (l : Z2) (deg : Int), vs = [.ref d, .int deg] ∧ H d = some (.dK (dI l)) ∧ (okC l = true ∧ 0 < deg) ∧ ∀ H', Same H H' → Q (vOpt (failing l deg)) H'
theorem ok_failing_chains : Ok P w K mg base 1 d_failing_chains ["chains", "degree"] sp_failing := by
  refine mk_ok T.f_failing_chains sc_failing_chains (fun vs H Q E h => ?_) (fun cdv A outer s H vs Q E hr h => ?_)
  · obtain ⟨a, b, g, rfl, _⟩ := h; rfl
  · obtain ⟨d, l, deg, rfl, hd, ⟨ho, hdeg⟩, k⟩ := h
    have hu := hu_of hr
    have nd := sc_failing_chains.nd
    have hasc := okC_asc ho
    have hlen := okC_len ho
    refine ⟨_, pss_cons (ps_set (i := 2) nd rfl (Or.inl rfl) pe_dnewK)
      (pss_cons (ps_for PassesOwn.never (by rfl) (pi_list (pe_revL (pe_callTy (call_list_dK (by rfl)) (by rfl) T.z_list (by decide +kernel) (pa_cons (pv 0) pa_nil)))) (pg_name (i := 3) nd rfl (Or.inl rfl))
        (pss_cons (ps_set (i := 4) nd rfl (Or.inl rfl) (pe_op op_mod (pe_op op_sub (pe_dget hu (pv 0) (pv 3) (fun _ _ => rfl)) (pe_dget2 hu (pv 2) (pv 3) pe_int ⟨rfl, rfl, rfl, rfl⟩)) (pv 1)))
        (pss_one (ps_if (PW.pt (pw_and (pt_cmpR op_gt (pv 4) pe_int (nomark _)) (pw_and1 (pt_cmpR op_gt (pv 3) pe_int (nomark _)))))
          (pss_cons (ps_if (pt_cmpR op_lt (pe_dget2 hu (pv 0) (pe_op op_sub (pv 3) pe_int) pe_int ⟨rfl, rfl, rfl, rfl⟩) (pe_op op_sub (pv 1) (pv 4)) (nomark _)) (pss_one (ps_ret (pv 3))) pss_nil)
            (pss_one (ps_dput hu (pv 2) (pe_op op_sub (pv 3) pe_int) (pe_op op_sub (pv 1) (pv 4)) rfl))) pss_nil))))
      (pss_one (ps_ret pe_non))), ?_⟩
    intro U nU
    have ndU : d ≠ U := ne_of_none hd nU
    have hd1 : (upd H U (.dK [])) d = some (.dK (dI l)) := upd_at hd ndU
    refine ⟨_, rfl, d, _, rfl, hd1, fun q nq => ⟨q, _, rfl, SqL.of upd_same, fun R nR => ?_⟩⟩
    generalize hG : upd (upd (upd H U (.dK [])) q (.lst ((dI l).map fun kv => kV kv.1))) R (.lst ((dI l).map fun kv => kV kv.1).reverse) = G at *
    have e0 : Same (upd H U (.dK [])) G := by rw [← hG]; exact (Same.nw nq).trans (Same.nw nR)
    have gR : G R = some (.lst (l.reverse.map fun p => V.int p.1)) := by
      rw [← hG, upd_same, ← List.map_reverse]
      unfold dI
      rw [← List.map_reverse, List.map_map]
      rfl
    have gU : G U = some (.dK (dI [])) := e0 _ _ upd_same
    have gd : G d = some (.dK (dI l)) := e0 _ _ hd1
    have nRU : R ≠ U := ne_of gR gU (by intro z; cases z)
    have eH : Same H G := (Same.nw nU).trans e0
    refine ⟨R, rfl, ⟨_, SqL.of gR⟩, ?_⟩
    refine for_list (xs := l.reverse.map fun p => V.int p.1) (fun i σ H' => ∃ x y used, σ = [some (.ref d), some (.int deg), some (.ref U), x, y] ∧ fcGo l deg (l.reverse.drop i) used = failing l deg ∧ (∀ x o, G x = some o → x ≠ U → H' x = some o) ∧ H' U = some (.dK (dI used)) ∧ used.length ≤ i) ?_ ?_ ?_ ?_
    · exact ⟨_, _, [], rfl, rfl, fun _ _ z _ => z, gU, Nat.le_refl _⟩
    · rintro i σ H' _ ⟨x, y, used, rfl, _, f, _⟩
      exact SqL.of (f _ _ gR nRU)
    · rintro i x σ H' hi ⟨x0, y0, used, rfl, hf, f, hU, hz⟩
      rw [List.getElem?_map] at hi
      obtain ⟨p, hp, rfl⟩ := Option.map_eq_some_iff.mp hi
      have hlt := (List.getElem?_eq_some_iff.mp hp).1
      rw [List.length_reverse] at hlt
      have hmem : p ∈ l := List.mem_reverse.mp (List.mem_of_getElem? hp)
      obtain ⟨j, hj, hje⟩ := List.mem_iff_getElem.mp hmem
      have hlook : look p.1 l = some p.2 := look_asc hasc (by rw [List.getElem?_eq_getElem hj, hje])
      rw [List.drop_eq_getElem_cons (by rw [List.length_reverse]; exact hlt)] at hf
      have hpe : l.reverse[i]'(by rw [List.length_reverse]; exact hlt) = p := by
        rw [List.getElem?_eq_getElem (by rw [List.length_reverse]; exact hlt)] at hp
        exact Option.some.inj hp
      rw [hpe] at hf
      have hd' := f _ _ gd ndU
      have g1 := DGet.r (k := p.1) (.inl hd')
      rw [hlook] at g1
      have g2 := DGet.r (k := p.1) (.inl hU)
      refine ⟨_, rfl, _, rfl, d, .int p.2, rfl, g1, _, rfl, U, rfl, .inl ⟨_, .inl hU⟩, _, rfl, _, g2, ?_⟩
      rw [getD_int]
      refine ⟨_, _, rfl, rfl, _, rfl, _, _, rfl, rfl, hdeg, ?_⟩
      refine ⟨_, rfl, _, _, rfl, rfl, _, rfl, ?_⟩
      unfold fcGo at hf
      by_cases hl : (0 : Int) < (p.2 - (look p.1 used).getD 0) % deg
      · refine ifT (decide_eq_true hl) ⟨_, rfl, _, _, rfl, rfl, _, rfl, ?_⟩
        by_cases hl2 : (1 : Int) < p.1
        · rw [if_pos (by rw [decide_eq_true hl, decide_eq_true hl2]; rfl)] at hf
          have g3 := DGet.r (k := p.1 - 1) (.inl hd')
          refine ifT (decide_eq_true hl2) ⟨_, rfl, d, rfl, .inl ⟨_, .inl hd'⟩, _, rfl, _, _, rfl, rfl, _, g3, ?_⟩
          rw [getD_int]
          refine ⟨_, rfl, _, rfl, _, _, rfl, rfl, _, _, rfl, rfl, _, rfl, ?_⟩
          by_cases hl3 : (look (p.1 - 1) l).getD 0 < deg - (p.2 - (look p.1 used).getD 0) % deg
          · rw [if_pos (decide_eq_true hl3)] at hf
            refine ifT (decide_eq_true hl3) ⟨_, rfl, ?_⟩
            have k2 := k H' fun x o hx => f x o (eH _ _ hx) (ne_of_none hx nU)
            rw [← hf] at k2
            exact k2
          · rw [if_neg (by rw [decide_eq_false hl3]; exact Bool.false_ne_true)] at hf
            refine ifF (decide_eq_false hl3) ⟨_, rfl, _, rfl, _, _, rfl, rfl, _, rfl, _, rfl, _, _, rfl, rfl, U, _, rfl, DPut.r hU (by omega), ?_⟩
            refine ⟨_, _, _, rfl, hf, fun x o hx n => by rw [upd_ne n]; exact f x o hx n, upd_same, ?_⟩
            have := put_len (p.1 - 1) (deg - (p.2 - (look p.1 used).getD 0) % deg) used
            omega
        · rw [if_neg (by rw [decide_eq_false hl2, Bool.and_false]; exact Bool.false_ne_true)] at hf
          exact ifF (decide_eq_false hl2) ⟨_, _, used, rfl, hf, f, hU, by omega⟩
      · rw [if_neg (by rw [decide_eq_false hl, Bool.false_and]; exact Bool.false_ne_true)] at hf
        exact ifF (decide_eq_false hl) ⟨_, _, used, rfl, hf, f, hU, by omega⟩
    · rintro σ H' ⟨x, y, used, rfl, hf, f, hU, _⟩
      have k2 := k H' fun x o hx => f x o (eH _ _ hx) (ne_of_none hx nU)
      rw [List.length_map, List.drop_length] at hf
      rw [← hf] at k2
      exact k2
/-- None, or a new tuple -/
abbrev sp_obst (K : PySem.W.Frag) : Sp := fun vs H Q _ => ∃ (a : Addr) (s : Sh) (deg : Int) (b : Bool), vs = [.ref a, .int deg] ∧ ShAt K H a s ∧ ((okC s.cyc = true ∧ okC s.chn = true) ∧ 0 < deg ∧ hasRoot s deg = some b) ∧
  ∀ v H', Same H H' → (v = .non ∧ b = true) ∨ (∃ p, v = .ref p ∧ b = false) → Q v H'
theorem ok_obstacle_of : Ok P w K mg base 3 d_obstacle_of ["shape", "degree"] (sp_obst K) := by
  refine mk_ok T.f_obstacle_of sc_obstacle_of (fun vs H Q E h => ?_) (fun cdv A outer s H vs Q E hr h => ?_)
  · obtain ⟨a, b, g, z, rfl, _⟩ := h; rfl
  · obtain ⟨a, s, deg, b, rfl, hS, ⟨⟨o1, o2⟩, hdeg, hb⟩, k⟩ := h
    have nd := sc_obstacle_of.nd
    obtain ⟨b1, hb1, hb2⟩ := Option.bind_eq_some_iff.mp hb
    obtain ⟨dx, c, d, h1, h2, h3⟩ := id hS
    refine ⟨_, pss_cons (ps_for PassesOwn.never (by rfl) (pi_items (pe_fz (pe_p (ok_Shape_cycles T) hr (by decide) T.cl_Shape T.p_Shape_cycles (pv 0)))) (pg_tup (by rfl) (pgs_cons (pg_name (i := 2) nd rfl (Or.inl rfl)) (pgs_cons (pg_name (i := 3) nd rfl (Or.inl rfl)) pgs_nil)))
        (pss_one (ps_if (pt_cmpR op_ne (pe_op op_mod (pv 3) (pe_f (ok_group_size T) hr (by decide) (by rfl) T.m_group_size (pa_cons (pv 2) (pa_cons (pv 1) pa_nil)))) pe_int (nomark _)) (pss_one (ps_ret (pe_tup (pa_cons pe_str (pa_cons (pv 2) pa_nil))))) pss_nil)))
      (pss_cons (ps_set (i := 4) nd rfl (Or.inl rfl) (pe_f (ok_failing_chains T) hr (by decide) (by rfl) T.m_failing_chains (pa_cons (pe_p (ok_Shape_chains T) hr (by decide) T.cl_Shape T.p_Shape_chains (pv 0)) (pa_cons (pv 1) pa_nil))))
      (pss_one (ps_ret (pe_ifExp (pt_cmp (pc_isN (pv 4))) pe_non (pe_tup (pa_cons pe_str (pa_cons (pv 4) pa_nil))))))), ?_⟩
    refine ⟨_, rfl, a, dx, _, rfl, h1, a, s, rfl, hS, fun t nt => ⟨t, _, rfl, upd_same, True.intro, fun od => ⟨t, od, _, rfl, upd_same, ?_⟩⟩⟩
    generalize hG : upd (upd H t (.dK (dI s.cyc))) t (.frz od (.dK (dI s.cyc))) = G
    have eG : Same H G := by rw [← hG, upd_upd]; exact Same.nw nt
    have gt : G t = some (.frz od (.dK (dI s.cyc))) := by rw [← hG]; exact upd_same
    refine for_its (fun i σ H' => ∃ x y z, σ = [some (.ref a), some (.int deg), x, y, z] ∧ ocGo deg (s.cyc.drop i) = some b1 ∧ Same G H') ?_ ?_ ?_ ?_
    · exact ⟨_, _, _, rfl, hb1, fun _ _ z => z⟩
    · rintro i σ H' _ ⟨x, y, z, rfl, _, e⟩
      exact e _ _ gt
    · rintro i kk v σ H' H2 hi ⟨x, y, z, rfl, ho, e⟩ e2
      obtain ⟨p, hp, rfl, rfl⟩ := dI_at hi
      obtain ⟨hlt, hpe⟩ := List.getElem?_eq_some_iff.mp hp
      rw [List.drop_eq_getElem_cons hlt, hpe] at ho
      obtain ⟨g, hg, ho2⟩ := Option.bind_eq_some_iff.mp (show ((groupSize p.1 deg).bind fun g => if decide (0 < g) = true then (if decide (p.2 % g = 0) = true then ocGo deg (s.cyc.drop (i + 1)) else some false) else none) = some b1 from ho)
      by_cases hg0 : (0 : Int) < g
      · rw [if_pos (decide_eq_true hg0)] at ho2
        refine ⟨_, rfl, _, rfl, _, rfl, p.1, deg, g, rfl, hg, _, _, rfl, rfl, hg0, rfl, _, rfl, ?_⟩
        by_cases hm : p.2 % g = 0
        · rw [if_pos (decide_eq_true hm)] at ho2
          exact ifF (not_t (decide_eq_true (congrArg V.int hm))) ⟨_, _, _, rfl, ho2, e.trans e2⟩
        · rw [if_neg (by rw [decide_eq_false hm]; exact Bool.false_ne_true)] at ho2
          cases ho2
          cases hb2
          refine ifT (not_f (decide_eq_false fun z => hm (V.int.inj z))) ⟨_, rfl, by show 2 ≤ sizeLine; decide, fun q nq => k _ _ (eG.trans (e.trans (e2.trans (Same.nw nq)))) (.inr ⟨q, rfl, rfl⟩)⟩
      · rw [if_neg (by rw [decide_eq_false hg0]; exact Bool.false_ne_true)] at ho2
        cases ho2
    · rintro σ H' ⟨x, y, z, rfl, ho, e⟩
      rw [dI_len, List.drop_length] at ho
      cases ho
      cases hb2
      have eH : Same H H' := eG.trans e
      refine ⟨_, rfl, a, dx, _, rfl, eH _ _ h1, a, s, rfl, hS.mono eH, fun t2 nt2 => ⟨_, rfl, t2, s.chn, deg, rfl, upd_same, ⟨o2, hdeg⟩, fun H3 e3 => ?_⟩⟩
      have eH3 : Same H H3 := eH.trans ((Same.nw nt2).trans e3)
      refine ⟨_, rfl, _, rfl, ?_⟩
      cases hf : failing s.chn deg with
      | none =>
        refine ifT (decide_eq_true rfl) (k _ _ eH3 (.inl ⟨rfl, ?_⟩))
        rw [hf]
        rfl
      | some n =>
        refine ifF (decide_eq_false (fun z => nomatch z)) ⟨_, rfl, by show 2 ≤ sizeLine; decide, fun q nq => k _ _ (eH3.trans (Same.nw nq)) (.inr ⟨q, rfl, ?_⟩)⟩
        rw [hf]
        rfl
abbrev sp_has_root (K : PySem.W.Frag) : Sp := fun vs H Q _ => ∃ (a : Addr) (s : Sh) (deg : Int) (b : Bool), vs = [.ref a, .int deg] ∧ ShAt K H a s ∧ ((okC s.cyc = true ∧ okC s.chn = true) ∧ (1 ≤ deg ∧ deg ≤ 10 ^ 30) ∧ hasRoot s deg = some b) ∧
  ∀ H', Same H H' → Q (.bl b) H'
theorem ok_has_root : Ok P w K mg base 4 d_has_root ["shape", "degree"] (sp_has_root K) := by
  refine mk_ok T.f_has_root sc_has_root (fun vs H Q E h => ?_) (fun cdv A outer s H vs Q E hr h => ?_)
  · obtain ⟨a, b, g, z, rfl, _⟩ := h; rfl
  · obtain ⟨a, s, deg, b, rfl, hS, ⟨oo, hdeg, hb⟩, k⟩ := h
    refine ⟨_, pss_cons (ps_expr (pe_f (ok_check_shape T) hr (by decide) (by rfl) T.m_check_shape (pa_cons (pv 0) pa_nil)))
      (pss_cons (ps_expr (pe_f (ok_check_degree T) hr (by decide) (by rfl) T.m_check_degree (pa_cons (pv 1) pa_nil)))
      (pss_one (ps_ret (pe_cmp (pc_isN (pe_f (ok_obstacle_of T) hr (by decide) (by rfl) T.m_obstacle_of (pa_cons (pv 0) (pa_cons (pv 1) pa_nil)))))))), ?_⟩
    refine ⟨_, rfl, a, s, rfl, hS, ?_⟩
    refine ⟨_, rfl, deg, rfl, hdeg, ?_⟩
    refine ⟨_, rfl, _, rfl, a, s, deg, b, rfl, hS, ⟨oo, by omega, hb⟩, fun v H' e hv => ?_⟩
    rcases hv with ⟨rfl, rfl⟩ | ⟨p, rfl, rfl⟩
    · exact k H' e
    · exact k H' e
end
end Ck
set_option maxHeartbeats 4000000
/-! cycles' roots counted; extensions counted; largest -/
namespace Ck
open PySem PySem.Spec PyProof.Rows L2
/-- one size of a group: some is told -/
def ccIn (len deg some_ : Int) (ws : List Int) (i : Nat) (total : Int) : Option Int := if (decide (deg % (1 + (i : Int)) = 0) && decide (gcdI (len * (1 + (i : Int))) deg = 1 + (i : Int))) = true then
  (mul? (fact (1 + (i : Int) - 1).toNat) (powr len (1 + (i : Int) - 1).toNat)).bind fun m => (mul? (choices (some_ - 1) (1 + (i : Int) - 1)) m).bind fun x => (atI ws (some_ - (1 + (i : Int)))).bind fun wv => (mul? x wv).bind fun y => some (total + y)
  else some total
def ccOut (len deg : Int) (i : Nat) (ws : List Int) : Option (List Int) := (itN (ccIn len deg (1 + (i : Int)) ws) 0 (1 + (i : Int) + 1 - 1).toNat).bind fun t => some (ws ++ [t])
def ccr (len num deg : Int) : Option Int := if (inR len 1 300 && (inR num 1 300 && decide (0 < deg))) = true then (itN (ccOut len deg) [1] (num + 1 - 1).toNat).bind fun ws => atI ws num else none
theorem ccOut_len {len deg : Int} : ∀ {n : Nat} {ws : List Int}, itN (ccOut len deg) [1] n = some ws → ws.length = n + 1
  | 0, ws, h => by cases h; rfl
  | n + 1, ws, h => by
    obtain ⟨x, h1, h2⟩ := Option.bind_eq_some_iff.mp (show (itN (ccOut len deg) [1] n).bind (ccOut len deg n) = some ws from h)
    obtain ⟨t, _, h3⟩ := Option.bind_eq_some_iff.mp h2
    cases h3
    rw [List.length_append, ccOut_len h1]
    rfl
def ext (m : Mp) (arrows : Int) : Option Int := if (mOk m && inR arrows 0 300) = true then
  (if (decide (arrows - m.arr.length < 0) || decide (m.size - m.arr.length < arrows - m.arr.length)) = true then some 0 else
    (mul? (choices (m.size - m.arr.length) (arrows - m.arr.length)) (choices (m.size - m.arr.length) (arrows - m.arr.length))).bind fun x => mul? x (fact (arrows - m.arr.length).toNat)) else none
def lgst (l : List Int) (least : Int) : Nat → Int
  | 0 => least
  | i + 1 => match l[i]? with
    | some n => if lgst l least i < n then n else lgst l least i
    | none => lgst l least i
theorem lgst_turn {l : List Int} {least n : Int} {i : Nat} (h : l[i]? = some n) : lgst l least (i + 1) = if lgst l least i < n then n else lgst l least i := by
  show (match l[i]? with | some n => if lgst l least i < n then n else lgst l least i | none => lgst l least i) = _
  rw [h]
section
variable {P : Program} {w : World} {K : PySem.W.Frag} {mg : Str → Option Value} {base : Heap} (T : Tx K mg)
include T
abbrev sp_ccr : Sp := fun vs H Q _ => ∃ len num deg r : Int, vs = [.int len, .int num, .int deg] ∧ ccr len num deg = some r ∧ ∀ H', Same H H' → Q (.int r) H'
theorem ok_count_cycle_roots : Ok P w K mg base 2 d_count_cycle_roots ["length", "number", "degree"] sp_ccr := by
  refine mk_ok T.f_count_cycle_roots sc_count_cycle_roots (fun vs H Q E h => ?_) (fun cdv A outer s H vs Q E hr h => ?_)
  · obtain ⟨a, b, c, g, rfl, _⟩ := h; rfl
  · obtain ⟨len, num, deg, r, rfl, hc, k⟩ := h
    have nd := sc_count_cycle_roots.nd
    unfold ccr at hc
    split at hc
    · rename_i hg
      obtain ⟨g1, hg⟩ := two hg
      obtain ⟨g2, g3⟩ := two hg
      obtain ⟨g1, g1'⟩ := two g1
      obtain ⟨g2, g2'⟩ := two g2
      have g1 := of_decide_eq_true g1
      have g1' := of_decide_eq_true g1'
      have g2 := of_decide_eq_true g2
      have g2' := of_decide_eq_true g2'
      have g3 := of_decide_eq_true g3
      obtain ⟨wsF, hF, hr2⟩ := Option.bind_eq_some_iff.mp hc
      refine ⟨_, pss_cons (ps_set (i := 3) nd rfl (Or.inl rfl) (pe_lst (pa_cons pe_int pa_nil)))
        (pss_cons (ps_for PassesOwn.never (by rfl) (pi_range2 (by rfl) T.z_range (pa_cons pe_int (pa_cons (pe_op op_add (pv 1) pe_int) pa_nil))) (pg_name (i := 4) nd rfl (Or.inl rfl))
          (pss_cons (ps_set (i := 5) nd rfl (Or.inl rfl) pe_int)
          (pss_cons (ps_for PassesOwn.never (by rfl) (pi_range2 (by rfl) T.z_range (pa_cons pe_int (pa_cons (pe_op op_add (pv 4) pe_int) pa_nil))) (pg_name (i := 6) nd rfl (Or.inl rfl))
            (pss_one (ps_if (PW.pt (pw_and (pt_cmpR op_eq (pe_op op_mod (pv 2) (pv 6)) pe_int (nomark _)) (pw_and1 (pt_cmpR op_eq (pe_f (ok_gcd T) hr (by decide) (by rfl) T.m_greatest_divisor (pa_cons (pe_op op_mul (pv 0) (pv 6)) (pa_cons (pv 2) pa_nil))) (pv 6) (nomark _)))))
              (pss_cons (ps_set (i := 7) nd rfl (Or.inl rfl) (pe_op op_mulW (pe_f (ok_factorial T) hr (by decide) (by rfl) T.m_factorial (pa_cons (pe_op op_sub (pv 6) pe_int) pa_nil)) (pe_f (ok_power_of T) hr (by decide) (by rfl) T.m_power_of (pa_cons (pv 0) (pa_cons (pe_op op_sub (pv 6) pe_int) pa_nil)))))
              (pss_one (ps_aug (i := 5) nd rfl (Or.inl rfl) (pe_op op_mulW (pe_op op_mulW (pe_f (ok_choices T) hr (by decide) (by rfl) T.m_choices (pa_cons (pe_op op_sub (pv 4) pe_int) (pa_cons (pe_op op_sub (pv 6) pe_int) pa_nil))) (pv 7)) (pe_ix ix_list (pv 3) (pe_op op_sub (pv 4) (pv 6)) (fun _ _ => rfl))) ip_add))) pss_nil)))
          (pss_one (ps_expr (pe_bm PySem.F.plainAttrs_list PySem.F.slot_list_append PySem.F.type_list_append mt_append (pv 3) (pa_cons (pv 5) pa_nil)))))))
        (pss_one (ps_ret (pe_ix ix_list (pv 3) (pv 1) (fun _ _ => rfl))))), ?_⟩
      refine ⟨by show 1 ≤ sizeLine; decide, fun L nL => ?_⟩
      refine ⟨_, rfl, _, _, rfl, rfl, 1, num + 1, rfl, ⟨by decide, by decide, by omega, by omega⟩, ?_⟩
      refine for_range (lo := 1) (n := (num + 1 - 1).toNat) (fun i σ H' => ∃ x y z u ws, σ = [some (.int len), some (.int num), some (.int deg), some (.ref L), x, y, z, u] ∧ itN (ccOut len deg) [1] i = some ws ∧ Same H H' ∧ H' L = some (.lst (ws.map V.int))) ⟨_, _, _, _, [1], rfl, rfl, Same.nw nL, upd_same⟩ ?_ ?_
      · rintro i σ H' hi ⟨x, y, z, u, ws, rfl, it, e, hL⟩
        obtain ⟨ws', u1, u2⟩ := itN_turn hF hi it
        obtain ⟨tt, t1, t2⟩ := Option.bind_eq_some_iff.mp u1
        cases t2
        have hwl := ccOut_len it
        refine ⟨_, rfl, _, _, rfl, rfl, 1, 1 + (i : Int) + 1, rfl, ⟨by decide, by decide, by omega, by omega⟩, ?_⟩
        refine for_range (lo := 1) (n := (1 + (i : Int) + 1 - 1).toNat) (fun j σ H2 => ∃ z u t, σ = [some (.int len), some (.int num), some (.int deg), some (.ref L), some (.int (1 + (i : Int))), some (.int t), z, u] ∧ itN (ccIn len deg (1 + (i : Int)) ws) 0 j = some t ∧ H2 = H') ⟨_, _, 0, rfl, rfl, rfl⟩ ?_ ?_
        · rintro j σ H2 hj ⟨z, u, t, rfl, it2, rfl⟩
          obtain ⟨t', v1, v2⟩ := itN_turn t1 hj it2
          refine ⟨_, rfl, _, rfl, _, _, rfl, rfl, by omega, rfl, _, rfl, ?_⟩
          unfold ccIn at v1
          by_cases c1 : deg % (1 + (j : Int)) = 0
          · refine ifT (decide_eq_true (congrArg V.int c1)) ⟨_, rfl, _, rfl, _, _, rfl, rfl, cmulR (by omega), _, rfl, _, deg, rfl, ⟨Int.mul_nonneg (by omega) (by omega), by omega⟩, _, rfl, rfl, _, rfl, ?_⟩
            by_cases c2 : gcdI (len * (1 + (j : Int))) deg = 1 + (j : Int)
            · rw [if_pos (by rw [decide_eq_true c1, decide_eq_true c2]; rfl)] at v1
              obtain ⟨m, a1, v1⟩ := Option.bind_eq_some_iff.mp v1
              obtain ⟨xx, a2, v1⟩ := Option.bind_eq_some_iff.mp v1
              obtain ⟨wv, a3, v1⟩ := Option.bind_eq_some_iff.mp v1
              obtain ⟨yy, a4, v1⟩ := Option.bind_eq_some_iff.mp v1
              cases v1
              obtain ⟨b1, rfl⟩ := mul?_ok a1
              obtain ⟨b2, rfl⟩ := mul?_ok a2
              obtain ⟨b4, rfl⟩ := mul?_ok a4
              have ix : atI (ws.map V.int) (1 + (i : Int) - (1 + (j : Int))) = some (V.int wv) := by
                unfold atI at a3 ⊢
                rw [List.length_map]
                obtain ⟨q, q1, q2⟩ := Option.bind_eq_some_iff.mp a3
                rw [q1]
                show (ws.map V.int)[q]? = _
                rw [List.getElem?_map, q2]
                rfl
              refine ifT (decide_eq_true (congrArg V.int c2)) ⟨_, rfl, _, _, rfl, rfl, _, rfl, ⟨by omega, by omega⟩, _, rfl, _, rfl, _, _, rfl, rfl, _, _, rfl, ⟨by omega, by omega, by omega⟩, _, _, rfl, rfl, b1, ?_⟩
              refine ⟨_, rfl, _, rfl, _, _, rfl, rfl, _, rfl, _, _, rfl, rfl, _, _, rfl, ⟨by omega, by omega, by omega⟩, _, rfl, _, _, rfl, rfl, b2, ?_⟩
              refine ⟨_, rfl, _, rfl, _, rfl, _, _, rfl, rfl, L, _, _, _, rfl, rfl, SqL.of hL, ix, _, _, rfl, rfl, b4, _, _, rfl, rfl, ?_⟩
              exact ⟨_, _, _, rfl, v2, rfl⟩
            · rw [if_neg (by rw [decide_eq_false c2, Bool.and_false]; exact Bool.false_ne_true)] at v1
              cases v1
              exact ifF (decide_eq_false fun z => c2 (V.int.inj z)) ⟨_, _, _, rfl, v2, rfl⟩
          · rw [if_neg (by rw [decide_eq_false c1, Bool.false_and]; exact Bool.false_ne_true)] at v1
            cases v1
            exact ifF (decide_eq_false fun z => c1 (V.int.inj z)) ⟨_, _, _, rfl, v2, rfl⟩
        · rintro σ H2 ⟨z, u, t, rfl, it2, rfl⟩
          have et : t = tt := Option.some.inj (it2.symm.trans t1)
          subst et
          refine ⟨_, rfl, .inl ⟨rfl, _, SqL.of hL⟩, _, rfl, L, _, _, rfl, rfl, hL, ?_, ?_⟩
          · rw [List.length_map]
            exact Nat.lt_of_le_of_lt (show _ ≤ 400 by omega) (by decide)
          · refine ⟨_, _, _, _, _, rfl, u2, Same.mu e nL, ?_⟩
            rw [List.map_append]
            exact upd_same
      · rintro σ H' ⟨x, y, z, u, ws, rfl, it, e, hL⟩
        have ew : ws = wsF := Option.some.inj (it.symm.trans hF)
        subst ew
        have ix : atI (ws.map V.int) num = some (V.int r) := by
          unfold atI at hr2 ⊢
          rw [List.length_map]
          obtain ⟨q, q1, q2⟩ := Option.bind_eq_some_iff.mp hr2
          rw [q1]
          show (ws.map V.int)[q]? = _
          rw [List.getElem?_map, q2]
          rfl
        exact ⟨_, rfl, _, rfl, L, _, _, _, rfl, rfl, SqL.of hL, ix, k H' e⟩
    · cases hc
abbrev sp_ext (K : PySem.W.Frag) : Sp := fun vs H Q _ => ∃ (a : Addr) (m : Mp) (n r : Int), vs = [.ref a, .int n] ∧ MapAt K H a m ∧ ext m n = some r ∧ Q (.int r) H
theorem ok_count_extensions : Ok P w K mg base 3 d_count_extensions ["given", "arrows"] (sp_ext K) := by
  obtain ⟨tk, hc⟩ := T.c_MAX_SIZE
  refine mk_ok T.f_count_extensions sc_count_extensions (fun vs H Q E h => ?_) (fun cdv A outer s H vs Q E hr h => ?_)
  · obtain ⟨a, b, c, g, rfl, _⟩ := h; rfl
  · obtain ⟨a, m, n, r, rfl, hm, hx, k⟩ := h
    have nd := sc_count_extensions.nd
    unfold ext at hx
    split at hx
    · rename_i hg
      obtain ⟨g1, g2⟩ := two hg
      obtain ⟨g1, g1'⟩ := two g1
      obtain ⟨g3, g4⟩ := two g1
      have g1' := of_decide_eq_true g1'
      have g3 := of_decide_eq_true g3
      have g4 := of_decide_eq_true g4
      obtain ⟨dx, d, h1, h2⟩ := id hm
      have z3 := of_decide_eq_true (two g2).1
      have z4 := of_decide_eq_true (two g2).2
      refine ⟨_, pss_cons (ps_expr (pe_f (ok_check_map T) hr (by decide) (by rfl) T.m_check_map (pa_cons (pv 0) pa_nil)))
        (pss_cons (ps_if (pt_not (pt_val (pe_f (ok_in_range T) hr (by decide) (by rfl) T.m_in_range (pa_cons (pv 1) (pa_cons pe_int (pa_cons (pe_glob (v := .int 300) (by rfl) hc ⟨_, rfl⟩) pa_nil)))))) pss_never pss_nil)
        (pss_cons (ps_par (i := 2) (j := 3) (by rfl) nd rfl rfl (by decide) rfl rfl (pa_cons (pe_op op_sub (pv 1) (pe_callB (call_lenO (ok_Map_len T) hr (by decide) T.me_Map_len rfl) (by rfl) T.z_len PySem.boot_len (pa_cons (pv 0) pa_nil)))
          (pa_cons (pe_op op_sub (pe_p (ok_Map_size T) hr (by decide) T.cl_Map T.p_Map_size (pv 0)) (pe_callB (call_lenO (ok_Map_len T) hr (by decide) T.me_Map_len rfl) (by rfl) T.z_len PySem.boot_len (pa_cons (pv 0) pa_nil))) pa_nil)) (by rfl))
        (pss_cons (ps_if (PW.pt (pw_or (pt_cmpR op_lt (pv 2) pe_int (nomark _)) (pw_or1 (pt_cmpR op_gt (pv 2) (pv 3) (nomark _))))) (pss_one (ps_ret pe_int)) pss_nil)
        (pss_one (ps_ret (pe_op op_mulW (pe_op op_mulW (pe_f (ok_choices T) hr (by decide) (by rfl) T.m_choices (pa_cons (pv 3) (pa_cons (pv 2) pa_nil))) (pe_f (ok_choices T) hr (by decide) (by rfl) T.m_choices (pa_cons (pv 3) (pa_cons (pv 2) pa_nil))))
          (pe_f (ok_factorial T) hr (by decide) (by rfl) T.m_factorial (pa_cons (pv 2) pa_nil)))))))), ?_⟩
      refine ⟨_, rfl, a, m, rfl, hm, ?_⟩
      refine ⟨_, rfl, n, 0, 300, rfl, _, rfl, ifF (not_t g2) ?_⟩
      refine ⟨_, rfl, _, rfl, a, dx, _, rfl, h1, ⟨a, m, rfl, hm, _, rfl, by omega, by omega, ?_⟩⟩
      refine ⟨_, _, rfl, rfl, _, rfl, a, dx, _, rfl, h1, a, m, rfl, hm, _, rfl, a, dx, _, rfl, h1, ⟨a, m, rfl, hm, _, rfl, by omega, by omega, ?_⟩⟩
      refine ⟨_, _, rfl, rfl, _, _, rfl, ?_⟩
      refine ⟨_, rfl, _, _, rfl, rfl, _, rfl, ?_⟩
      by_cases c1 : n - (m.arr.length : Int) < 0
      · rw [if_pos (by rw [decide_eq_true c1]; rfl)] at hx
        cases hx
        exact ifT (decide_eq_true c1) k
      · refine ifF (decide_eq_false c1) ⟨_, rfl, _, rfl, _, _, rfl, rfl, _, rfl, ?_⟩
        by_cases c2 : m.size - (m.arr.length : Int) < n - (m.arr.length : Int)
        · rw [if_pos (by rw [decide_eq_true c2, Bool.or_true])] at hx
          cases hx
          exact ifT (decide_eq_true c2) k
        · rw [if_neg (by rw [decide_eq_false c1, decide_eq_false c2]; exact Bool.false_ne_true)] at hx
          obtain ⟨x, x1, x2⟩ := Option.bind_eq_some_iff.mp hx
          obtain ⟨b1, rfl⟩ := mul?_ok x1
          obtain ⟨b2, rfl⟩ := mul?_ok x2
          refine ifF (decide_eq_false c2) ⟨_, rfl, _, rfl, _, _, rfl, ⟨by omega, by omega, by omega⟩, _, rfl, _, rfl, _, _, rfl, ⟨by omega, by omega, by omega⟩, _, _, rfl, rfl, b1, ?_⟩
          exact ⟨_, rfl, _, rfl, ⟨by omega, by omega⟩, _, _, rfl, rfl, b2, k⟩
    · cases hx
abbrev sp_largest : Sp := fun vs H Q _ => ∃ (a : Addr) (l : List Int) (n : Int), vs = [.ref a, .int n] ∧ H a = some (.lst (l.map V.int)) ∧ Q (.int (lgst l n l.length)) H
theorem ok_largest : Ok P w K mg base 1 d_largest ["numbers", "least"] sp_largest := by
  refine mk_ok T.f_largest sc_largest (fun vs H Q E h => ?_) (fun cdv A outer s H vs Q E hr h => ?_)
  · obtain ⟨a, b, c, rfl, _⟩ := h; rfl
  · obtain ⟨a, l, n, rfl, ha, k⟩ := h
    have nd := sc_largest.nd
    refine ⟨_, pss_cons (ps_set (i := 2) nd rfl (Or.inl rfl) (pv 1))
      (pss_cons (ps_for PassesOwn.never (by rfl) (pi_list (pv 0)) (pg_name (i := 3) nd rfl (Or.inl rfl)) (pss_one (ps_if (pt_cmpR op_gt (pv 3) (pv 2) (nomark _)) (pss_one (ps_set (i := 2) nd rfl (Or.inl rfl) (pv 3))) pss_nil)))
      (pss_one (ps_ret (pv 2)))), ?_⟩
    refine ⟨_, rfl, _, rfl, a, rfl, ⟨_, SqL.of ha⟩, ?_⟩
    refine for_list (xs := l.map V.int) (fun i σ H' => ∃ x, σ = [some (.ref a), some (.int n), some (.int (lgst l n i)), x] ∧ H' = H) ⟨_, rfl, rfl⟩ (fun i σ H' _ p => by
      obtain ⟨x, _, rfl⟩ := p
      exact SqL.of ha) ?_ ?_
    · rintro i x σ H' hi ⟨y, rfl, rfl⟩
      rw [List.getElem?_map] at hi
      obtain ⟨v, hv, rfl⟩ := Option.map_eq_some_iff.mp hi
      refine ⟨_, rfl, _, rfl, _, _, rfl, rfl, _, rfl, ?_⟩
      by_cases hc : lgst l n i < v
      · refine ifT (decide_eq_true hc) ⟨_, rfl, some (.int v), ?_, rfl⟩
        rw [lgst_turn hv, if_pos hc]
        rfl
      · refine ifF (decide_eq_false hc) ⟨some (.int v), ?_, rfl⟩
        rw [lgst_turn hv, if_neg hc]
        rfl
    · rintro σ H' ⟨x, rfl, rfl⟩
      rw [List.length_map]
      exact ⟨_, rfl, k⟩
end
end Ck
set_option maxHeartbeats 4000000
/-! the counter of chains' roots, with its memory -/
namespace Ck
open PySem PySem.Spec PyProof.Rows L2
abbrev K3 := Int × Int × Int
abbrev M3 := List (K3 × Int)
def eq3 (a b : K3) : Bool := decide (a.1 = b.1) && (decide (a.2.1 = b.2.1) && decide (a.2.2 = b.2.2))
def k3 (k : K3) : List Key := [.inl k.1, .inl k.2.1, .inl k.2.2]
theorem k3_iff {a b : K3} : k3 a = k3 b ↔ eq3 a b = true := by
  obtain ⟨a1, a2, a3⟩ := a
  obtain ⟨b1, b2, b3⟩ := b
  constructor
  · intro e
    unfold k3 at e
    injection e with e1 e
    injection e with e2 e
    injection e with e3 e
    cases e1; cases e2; cases e3
    unfold eq3
    rw [decide_eq_true rfl, decide_eq_true rfl, decide_eq_true rfl]
    rfl
  · intro h
    obtain rfl : a1 = b1 := of_decide_eq_true (two h).1
    obtain rfl : a2 = b2 := of_decide_eq_true (two (two h).2).1
    obtain rfl : a3 = b3 := of_decide_eq_true (two (two h).2).2
    rfl
def lookM (k : K3) (m : M3) : Option Int := (m.find? fun p => eq3 p.1 k).map (·.2)
def putM (k : K3) (v : Int) (m : M3) : M3 := if (m.any fun p => eq3 p.1 k) = true then m.map (fun p => if eq3 p.1 k = true then (p.1, v) else p) else m ++ [(k, v)]
def dM (m : M3) : List (List Key × V) := m.map fun p => (k3 p.1, V.int p.2)
theorem dec3 (a b : K3) : decide (k3 a = k3 b) = eq3 a b := by
  by_cases h : eq3 a b = true
  · rw [h]; exact decide_eq_true (k3_iff.mpr h)
  · rw [eq_false_of_ne_true h]; exact decide_eq_false fun z => h (k3_iff.mp z)
theorem dM_any (k : K3) (m : M3) : ((dM m).any fun kv => decide (kv.1 = k3 k)) = m.any fun p => eq3 p.1 k := by
  induction m with
  | nil => rfl
  | cons p r ih =>
    show (decide (k3 p.1 = k3 k) || (dM r).any _) = (eq3 p.1 k || r.any _)
    rw [ih, dec3]
theorem dM_val (k : K3) (m : M3) : valV (dM m) (k3 k) = (lookM k m).map V.int := by
  induction m with
  | nil => rfl
  | cons p r ih =>
    by_cases e : eq3 p.1 k = true
    · rw [show dM (p :: r) = (k3 p.1, V.int p.2) :: dM r from rfl, valV_pos (k3_iff.mpr e)]
      unfold lookM
      rw [List.find?_cons, e]
      rfl
    · rw [show dM (p :: r) = (k3 p.1, V.int p.2) :: dM r from rfl, valV_neg (fun z => e (k3_iff.mp z)), ih]
      unfold lookM
      rw [List.find?_cons, eq_false_of_ne_true e]
theorem dM_put (k : K3) (v : Int) (m : M3) : putK (dM m) (k3 k) (.int v) = dM (putM k v m) := by
  unfold putK putM
  rw [dM_any]
  split
  · unfold dM
    rw [List.map_map, List.map_map]
    refine List.map_congr_left fun p _ => ?_
    show (if k3 p.1 = k3 k then (k3 p.1, V.int v) else (k3 p.1, V.int p.2)) = (k3 (if eq3 p.1 k = true then (p.1, v) else p).1, V.int (if eq3 p.1 k = true then (p.1, v) else p).2)
    by_cases e : eq3 p.1 k = true
    · rw [if_pos (k3_iff.mpr e), if_pos e]
    · rw [if_neg (fun z => e (k3_iff.mp z)), if_neg e]
  · unfold dM
    rw [List.map_append]
    rfl
theorem dM_len (m : M3) : (dM m).length = m.length := List.length_map ..
theorem lookM_put (k : K3) (v : Int) (m : M3) : lookM k (putM k v m) = some v := by
  have h := valV_put (dM m) (k3 k) (k3 k) (.int v)
  rw [dM_put, dM_val, if_pos rfl] at h
  cases e : lookM k (putM k v m) with
  | none => rw [e] at h; cases h
  | some x => rw [e] at h; cases h; rfl
theorem DGet.m {H : Hp} {a b : Addr} {m : M3} {k : K3} (e : H a = some (.dT (dM m))) (eb : H b = some (.tup [.int k.1, .int k.2.1, .int k.2.2])) : DGet H a (.ref b) ((lookM k m).map V.int) := by
  rw [← dM_val]
  exact DGet.t (k := k3 k) e eb
theorem DPut.m {H : Hp} {a b : Addr} {m : M3} {k : K3} {v : Int} (e : H a = some (.dT (dM m))) (eb : H b = some (.tup [.int k.1, .int k.2.1, .int k.2.2])) (h : m.length ≤ 10000) : DPut H a (.ref b) (.int v) (upd H a (.dT (dM (putM k v m)))) := by
  rw [← dM_put]
  exact DPut.t (k := k3 k) e eb (by rw [dM_len]; exact Nat.lt_of_le_of_lt h (by decide))
/-! ### the mirror -/
def wfTurn (W : Int → Int → Int → M3 → Option (Int × M3)) (deg len here below : Int) (i : Nat) (s : Int × M3) : Option (Int × M3) :=
  (mul? (choices (here - 1) (1 + (i : Int) - 1)) (fact (1 + (i : Int)).toNat)).bind fun wy =>
  if decide ((if decide (1 < len) = true then deg - (1 + (i : Int)) else 0) ≤ below) = true then
    (mul? (choices below (if decide (1 < len) = true then deg - (1 + (i : Int)) else 0)) (fact (if decide (1 < len) = true then deg - (1 + (i : Int)) else 0).toNat)).bind fun fl =>
    (mul? wy fl).bind fun x => (W len (here - (1 + (i : Int))) (below - (if decide (1 < len) = true then deg - (1 + (i : Int)) else 0)) s.2).bind fun r => (mul? x r.1).bind fun y => some (s.1 + y, r.2)
  else some s
def withFirst (W : Int → Int → Int → M3 → Option (Int × M3)) (deg len here below : Int) (m : M3) : Option (Int × M3) :=
  if (inR here 0 300 && (inR below 0 300 && decide (0 < deg))) = true then itN (wfTurn W deg len here below) (0, m) ((if deg < here then deg else here) + 1 - 1).toNat else none
def waysM (l : Z2) (deg : Int) : Nat → Int → Int → Int → M3 → Option (Int × M3)
  | 0, _, _, _, _ => none
  | n + 1, len, here, below, m => if len = 0 then some (1, m) else match lookM (len, here, below) m with
    | some v => some (v, m)
    | none => (if here = 0 then waysM l deg n (len - 1) below ((look (len - 2) l).getD 0) m else withFirst (waysM l deg n) deg len here below m).bind fun r =>
      if decide (r.2.length ≤ 10000) = true then some (r.1, putM (len, here, below) r.1 r.2) else none
/-! ### the instance -/
def cFs (ch : Addr) (deg : Int) (kn : Addr) : List (Str × V) := putF "own_known" (.ref kn) (putF "own_degree" (.int deg) (putF "own_chains" (.ref ch) []))
theorem cF_ch {ch kn : Addr} {deg : Int} : (cFs ch deg kn).lookup ("own_chains" : Str) = some (V.ref ch) := by
  unfold cFs
  rw [lookup_putF, if_neg (by decide +kernel), lookup_putF, if_neg (by decide +kernel), lookup_putF, if_pos rfl]
theorem cF_deg {ch kn : Addr} {deg : Int} : (cFs ch deg kn).lookup ("own_degree" : Str) = some (V.int deg) := by
  unfold cFs
  rw [lookup_putF, if_neg (by decide +kernel), lookup_putF, if_pos rfl]
theorem cF_kn {ch kn : Addr} {deg : Int} : (cFs ch deg kn).lookup ("own_known" : Str) = some (V.ref kn) := by
  unfold cFs
  rw [lookup_putF, if_pos rfl]
theorem cF_no {ch kn : Addr} {deg : Int} {m : Str} (h1 : ¬ m = "own_known") (h2 : ¬ m = "own_degree") (h3 : ¬ m = "own_chains") : (cFs ch deg kn).lookup m = none := by
  unfold cFs
  rw [lookup_putF, if_neg h1, lookup_putF, if_neg h2, lookup_putF, if_neg h3]
  rfl
structure CtAt (K : PySem.W.Frag) (H : Hp) (a kn : Addr) (l : Z2) (deg : Int) (m : M3) : Prop where
  ex : ∃ dx ch, H a = some (.ins (He.ga K "ChainCounter") dx (cFs ch deg kn)) ∧ H ch = some (.dK (dI l))
  me : H kn = some (.dT (dM m))
/-- all but kn stands -/
abbrev But (kn : Addr) (H H' : Hp) : Prop := ∀ x o, H x = some o → x ≠ kn → H' x = some o
theorem CtAt.but {K : PySem.W.Frag} {H H' : Hp} {a kn : Addr} {l : Z2} {deg : Int} {m m' : M3} (c : CtAt K H a kn l deg m) (e : But kn H H') (h : H' kn = some (.dT (dM m'))) : CtAt K H' a kn l deg m' := by
  obtain ⟨⟨dx, ch, h1, h2⟩, h3⟩ := c
  exact ⟨⟨dx, ch, e _ _ h1 (ne_of h1 h3 (by intro z; cases z)), e _ _ h2 (ne_of h2 h3 (by intro z; cases z))⟩, h⟩
section
variable {P : Program} {w : World} {K : PySem.W.Frag} {mg : Str → Option Value} {base : Heap} (T : Tx K mg)
include T
abbrev sp_Ct_init (K : PySem.W.Frag) : Sp := fun vs H Q _ => ∃ (p dx ch : Addr) (l : Z2) (deg : Int), vs = [.ref p, .ref ch, .int deg] ∧ H p = some (.ins (He.ga K "ChainCounter") dx []) ∧ H ch = some (.dK (dI l)) ∧
  ∀ H' kn, (∀ b o, H b = some o → b ≠ p → H' b = some o) → H kn = none → CtAt K H' p kn l deg [] → Q .non H'
theorem ok_Ct_init : Ok P w K mg base 1 d_ChainCounter_init ["self", "chains", "degree"] (sp_Ct_init K) := by
  refine mk_ok T.f_ChainCounter_init sc_ChainCounter_init (fun vs H Q E h => ?_) (fun cdv A outer s H vs Q E hr h => ?_)
  · obtain ⟨a, b, c, d, e, rfl, _⟩ := h; rfl
  · obtain ⟨p, dx, ch, l, deg, rfl, hp, hch, k⟩ := h
    have ncp : ch ≠ p := ne_of hch hp (by intro z; cases z)
    refine ⟨_, pss_cons (ps_fld (pv 0) (pv 1) rfl) (pss_cons (ps_fld (pv 0) (pv 2) rfl) (pss_one (ps_fld (pv 0) pe_dnewT rfl))), ?_⟩
    refine ⟨_, rfl, _, rfl, p, _, dx, _, rfl, hp, T.cl_ChainCounter, T.n_ChainCounter_own_chains, (by show 0 < 1000; decide), ?_⟩
    refine ⟨_, rfl, _, rfl, p, _, dx, _, rfl, upd_same, T.cl_ChainCounter, T.n_ChainCounter_own_degree, Nat.lt_of_le_of_lt (length_putF _ _ _) (by show 0 + 1 < 1000; decide), ?_⟩
    intro kn nk
    have nkp : kn ≠ p := by intro z; subst z; rw [upd_same] at nk; cases nk
    have nk' : H kn = none := by rw [upd_ne nkp, upd_ne nkp] at nk; exact nk
    refine ⟨_, rfl, p, _, dx, _, rfl, upd_at upd_same (Ne.symm nkp), T.cl_ChainCounter, T.n_ChainCounter_own_known, Nat.lt_of_le_of_lt (Nat.le_trans (length_putF _ _ _) (Nat.succ_le_succ (length_putF _ _ _))) (by show 0 + 1 + 1 < 1000; decide), ?_⟩
    refine k _ kn (fun b o hb nb => ?_) nk' ⟨⟨dx, ch, upd_same, ?_⟩, ?_⟩
    · rw [upd_ne nb, upd_ne (ne_of_none hb nk'), upd_ne nb, upd_ne nb]
      exact hb
    · rw [upd_ne ncp, upd_ne (ne_of_none hch nk'), upd_ne ncp, upd_ne ncp]
      exact hch
    · rw [upd_ne nkp]
      exact upd_same
abbrev sp_ways (K : PySem.W.Frag) (W : Z2 → Int → Int → Int → Int → M3 → Option (Int × M3)) : Sp := fun vs H Q _ => ∃ (a kn : Addr) (l : Z2) (deg len here below : Int) (m m' : M3) (v : Int), vs = [.ref a, .int len, .int here, .int below] ∧ CtAt K H a kn l deg m ∧
  W l deg len here below m = some (v, m') ∧ ∀ H', But kn H H' → H' kn = some (.dT (dM m')) → Q (.int v) H'
theorem ok_with_first {k : Nat} {W : Z2 → Int → Int → Int → Int → M3 → Option (Int × M3)} (G : Ok P w K mg base (k + 1) d_ChainCounter_ways ["self", "length", "here", "below"] (sp_ways K W)) :
    Ok P w K mg base (k + 2) d_ChainCounter_with_first ["self", "length", "here", "below"] (sp_ways K fun l deg => withFirst (W l deg) deg) := by
  refine mk_ok T.f_ChainCounter_with_first sc_ChainCounter_with_first (fun vs H Q E h => ?_) (fun cdv A outer s H vs Q E hr h => ?_)
  · obtain ⟨a, b, c, d, e, f, g, i, j, v, rfl, _⟩ := h; rfl
  · obtain ⟨a, kn, l, deg, len, here, below, m, m', v, rfl, hC, hw, k⟩ := h
    have nd := sc_ChainCounter_with_first.nd
    have hw : withFirst (W l deg) deg len here below m = some (v, m') := hw
    unfold withFirst at hw
    split at hw
    · rename_i hg
      obtain ⟨g1, hg⟩ := two hg
      obtain ⟨g2, g3⟩ := two hg
      have a1 := of_decide_eq_true (two g1).1
      have a2 := of_decide_eq_true (two g1).2
      have a3 := of_decide_eq_true (two g2).1
      have a4 := of_decide_eq_true (two g2).2
      have a5 := of_decide_eq_true g3
      refine ⟨_, pss_cons (ps_par (i := 4) (j := 5) (by rfl) nd rfl rfl (by decide) rfl rfl (pa_cons (pe_fld (pv 0) rfl) (pa_cons pe_int pa_nil)) (by rfl))
        (pss_cons (ps_for PassesOwn.never (by rfl) (pi_range2 (by rfl) T.z_range (pa_cons pe_int (pa_cons (pe_op op_add (pe_callB (call_min2 (by rfl)) (by rfl) T.z_min (by decide +kernel) (pa_cons (pe_callTy call_int1 (by rfl) T.z_int (by decide +kernel) (pa_cons (pv 2) pa_nil)) (pa_cons (pv 4) pa_nil))) pe_int) pa_nil))) (pg_name (i := 6) nd rfl (Or.inl rfl))
          (pss_cons (ps_set (i := 7) nd rfl (Or.inl rfl) (pe_op op_mulW (pe_f (ok_choices T) hr (by omega) (by rfl) T.m_choices (pa_cons (pe_op op_sub (pv 2) pe_int) (pa_cons (pe_op op_sub (pv 6) pe_int) pa_nil))) (pe_f (ok_factorial T) hr (by omega) (by rfl) T.m_factorial (pa_cons (pv 6) pa_nil))))
          (pss_cons (ps_set (i := 8) nd rfl (Or.inl rfl) (pe_ifExp (pt_cmpR op_gt (pv 1) pe_int (nomark _)) (pe_op op_sub (pv 4) (pv 6)) pe_int))
          (pss_one (ps_if (pt_cmpR op_le (pv 8) (pv 3) (nomark _))
            (pss_cons (ps_set (i := 9) nd rfl (Or.inl rfl) (pe_op op_mulW (pe_f (ok_choices T) hr (by omega) (by rfl) T.m_choices (pa_cons (pv 3) (pa_cons (pv 8) pa_nil))) (pe_f (ok_factorial T) hr (by omega) (by rfl) T.m_factorial (pa_cons (pv 8) pa_nil))))
            (pss_one (ps_aug (i := 5) nd rfl (Or.inl rfl) (pe_op op_mulW (pe_op op_mulW (pv 7) (pv 9)) (pe_me G hr (by omega) T.cl_ChainCounter T.me_ChainCounter_ways rfl (pv 0) (pa_cons (pv 1) (pa_cons (pe_op op_sub (pv 2) (pv 6)) (pa_cons (pe_op op_sub (pv 3) (pv 8)) pa_nil))))) ip_add))) pss_nil)))))
        (pss_one (ps_ret (pv 5)))), ?_⟩
      obtain ⟨⟨dx, ch, h1, h2⟩, h3⟩ := id hC
      refine ⟨_, rfl, a, _, dx, _, _, rfl, h1, T.cl_ChainCounter, T.n_ChainCounter_own_degree, cF_deg, _, _, rfl, ?_⟩
      refine ⟨_, rfl, .inl ⟨here, rfl, _, rfl, here, deg, rfl, _, _, rfl, rfl, 1, (if deg < here then deg else here) + 1, rfl, ⟨by decide, by decide, by split <;> omega, by split <;> omega⟩, ?_⟩⟩
      refine for_range (lo := 1) (n := ((if deg < here then deg else here) + 1 - 1).toNat) (fun i σ H' => ∃ x6 x7 x8 x9 st, σ = [some (.ref a), some (.int len), some (.int here), some (.int below), some (.int deg), some (.int st.1), x6, x7, x8, x9] ∧ itN (wfTurn (W l deg) deg len here below) (0, m) i = some st ∧
        But kn H H' ∧ CtAt K H' a kn l deg st.2) ⟨_, _, _, _, (0, m), rfl, rfl, fun _ _ z _ => z, hC⟩ ?_ ?_
      · rintro i σ H' hi ⟨x6, x7, x8, x9, st, rfl, it, e, hC'⟩
        obtain ⟨st', u1, u2⟩ := itN_turn hw hi it
        have hi2 : 1 + (i : Int) ≤ deg ∧ 1 + (i : Int) ≤ here := by
          split at hi <;> omega
        obtain ⟨wy, w1, u1⟩ := Option.bind_eq_some_iff.mp u1
        obtain ⟨b1, rfl⟩ := mul?_ok w1
        refine ⟨_, rfl, _, _, rfl, rfl, _, rfl, _, _, rfl, rfl, _, _, rfl, ⟨by omega, by omega, by omega⟩, _, rfl, _, rfl, ⟨by omega, by omega⟩, _, _, rfl, rfl, b1, ?_⟩
        generalize hrest : (if decide (1 < len) = true then deg - (1 + (i : Int)) else 0) = rest at u1
        refine ⟨_, rfl, _, _, rfl, rfl, _, rfl, ?_⟩
        have hrest0 : 0 ≤ rest := by rw [← hrest]; split <;> omega
        have go : ∀ {t : TS} {D : Ends} {x8 : Option V}, True := trivial
        have key : ∀ (Fin : L2.St → Hp → Prop), Fin = (fun σ H' => ∃ x6 x7 x8 x9 st, σ = [some (.ref a), some (.int len), some (.int here), some (.int below), some (.int deg), some (.int st.1), x6, x7, x8, x9] ∧ itN (wfTurn (W l deg) deg len here below) (0, m) (i + 1) = some st ∧ But kn H H' ∧ CtAt K H' a kn l deg st.2) → True := fun _ _ => trivial
        by_cases hl : (1 : Int) < len
        · rw [if_pos (decide_eq_true hl)] at hrest
          subst hrest
          refine ifT (decide_eq_true hl) ⟨_, rfl, _, rfl, _, _, rfl, rfl, ?_⟩
          refine ⟨_, rfl, _, rfl, _, _, rfl, rfl, _, rfl, ?_⟩
          by_cases hb : deg - (1 + (i : Int)) ≤ below
          · rw [if_pos (decide_eq_true hb)] at u1
            obtain ⟨fl, w2, u1⟩ := Option.bind_eq_some_iff.mp u1
            obtain ⟨x, w3, u1⟩ := Option.bind_eq_some_iff.mp u1
            obtain ⟨r, w4, u1⟩ := Option.bind_eq_some_iff.mp u1
            obtain ⟨y, w5, u1⟩ := Option.bind_eq_some_iff.mp u1
            obtain ⟨b2, rfl⟩ := mul?_ok w2
            obtain ⟨b3, rfl⟩ := mul?_ok w3
            obtain ⟨b5, rfl⟩ := mul?_ok w5
            cases u1
            obtain ⟨dx', ch', h1', h2'⟩ := hC'.ex
            refine ifT (decide_eq_true hb) ⟨_, rfl, _, rfl, _, _, rfl, ⟨by omega, by omega, by omega⟩, _, rfl, _, rfl, ⟨by omega, by omega⟩, _, _, rfl, rfl, b2, ?_⟩
            refine ⟨_, rfl, _, rfl, _, rfl, _, _, rfl, rfl, b3, _, rfl, a, dx', _, rfl, h1', cF_no (by decide +kernel) (by decide +kernel) (by decide +kernel), _, rfl, _, rfl, _, rfl, _, _, rfl, rfl, _, rfl, _, rfl, _, _, rfl, rfl, ?_⟩
            refine ⟨a, kn, l, deg, len, _, _, st.2, r.2, r.1, rfl, hC', w4, fun H2 e2 hk2 => ⟨_, _, rfl, rfl, b5, _, _, rfl, rfl, ?_⟩⟩
            exact ⟨_, _, _, _, (st.1 + _, r.2), rfl, u2, fun x o hx n => e2 x o (e x o hx n) n, hC'.but e2 hk2⟩
          · rw [if_neg (by rw [decide_eq_false hb]; exact Bool.false_ne_true)] at u1
            cases u1
            exact ifF (decide_eq_false hb) ⟨_, _, _, _, st, rfl, u2, e, hC'⟩
        · rw [if_neg (by rw [decide_eq_false hl]; exact Bool.false_ne_true)] at hrest
          subst hrest
          refine ifF (decide_eq_false hl) ?_
          refine ⟨_, rfl, _, rfl, _, _, rfl, rfl, _, rfl, ?_⟩
          by_cases hb : (0 : Int) ≤ below
          · rw [if_pos (decide_eq_true hb)] at u1
            obtain ⟨fl, w2, u1⟩ := Option.bind_eq_some_iff.mp u1
            obtain ⟨x, w3, u1⟩ := Option.bind_eq_some_iff.mp u1
            obtain ⟨r, w4, u1⟩ := Option.bind_eq_some_iff.mp u1
            obtain ⟨y, w5, u1⟩ := Option.bind_eq_some_iff.mp u1
            obtain ⟨b2, rfl⟩ := mul?_ok w2
            obtain ⟨b3, rfl⟩ := mul?_ok w3
            obtain ⟨b5, rfl⟩ := mul?_ok w5
            cases u1
            obtain ⟨dx', ch', h1', h2'⟩ := hC'.ex
            refine ifT (decide_eq_true hb) ⟨_, rfl, _, rfl, _, _, rfl, ⟨by omega, by omega, by omega⟩, _, rfl, _, rfl, ⟨by omega, by omega⟩, _, _, rfl, rfl, b2, ?_⟩
            refine ⟨_, rfl, _, rfl, _, rfl, _, _, rfl, rfl, b3, _, rfl, a, dx', _, rfl, h1', cF_no (by decide +kernel) (by decide +kernel) (by decide +kernel), _, rfl, _, rfl, _, rfl, _, _, rfl, rfl, _, rfl, _, rfl, _, _, rfl, rfl, ?_⟩
            refine ⟨a, kn, l, deg, len, _, _, st.2, r.2, r.1, rfl, hC', w4, fun H2 e2 hk2 => ⟨_, _, rfl, rfl, b5, _, _, rfl, rfl, ?_⟩⟩
            exact ⟨_, _, _, _, (st.1 + _, r.2), rfl, u2, fun x o hx n => e2 x o (e x o hx n) n, hC'.but e2 hk2⟩
          · rw [if_neg (by rw [decide_eq_false hb]; exact Bool.false_ne_true)] at u1
            cases u1
            exact ifF (decide_eq_false hb) ⟨_, _, _, _, st, rfl, u2, e, hC'⟩
      · rintro σ H' ⟨x6, x7, x8, x9, st, rfl, it, e, hC'⟩
        have es : st = (v, m') := Option.some.inj (it.symm.trans hw)
        subst es
        exact ⟨_, rfl, k H' e hC'.me⟩
    · cases hw
theorem ok_ways : ∀ n : Nat, Ok P w K mg base (2 * n + 2) d_ChainCounter_ways ["self", "length", "here", "below"] (sp_ways K fun l deg => waysM l deg n)
  | 0 => by
    refine mk_ok T.f_ChainCounter_ways sc_ChainCounter_ways (fun vs H Q E h => ?_) (fun cdv A outer s H vs Q E hr h => ?_)
    · obtain ⟨a, b, c, d, e, f, g, i, j, v, rfl, _⟩ := h; rfl
    · obtain ⟨a, kn, l, deg, len, here, below, m, m', v, rfl, hC, hw, k⟩ := h
      cases hw
  | n + 1 => by
    have G := ok_ways n
    have G2 := ok_with_first T (k := 2 * n + 1) G
    have fin : Ok P w K mg base (2 * n + 1 + 2 + 1) d_ChainCounter_ways ["self", "length", "here", "below"] (sp_ways K fun l deg => waysM l deg (n + 1)) := by
      refine mk_ok T.f_ChainCounter_ways sc_ChainCounter_ways (fun vs H Q E h => ?_) (fun cdv A outer s H vs Q E hr h => ?_)
      · obtain ⟨a, b, c, d, e, f, g, i, j, v, rfl, _⟩ := h; rfl
      · obtain ⟨a, kn, l, deg, len, here, below, m, m', v, rfl, hC, hw, k⟩ := h
        have hu := hu_of hr
        have nd := sc_ChainCounter_ways.nd
        refine ⟨_, pss_cons (ps_if (pt_cmpR op_eq (pv 1) pe_int (nomark _)) (pss_one (ps_ret pe_int)) pss_nil)
          (pss_cons (ps_set (i := 4) nd rfl (Or.inl rfl) (pe_tup (pa_cons (pv 1) (pa_cons (pv 2) (pa_cons (pv 3) pa_nil)))))
          (pss_cons (ps_if (pt_cmp (pc_dnotin hu (pv 4) (pe_fld (pv 0) rfl)))
            (pss_one (ps_if (pt_cmpR op_eq (pv 2) pe_int (nomark _))
              (pss_one (ps_dput hu (pe_fld (pv 0) rfl) (pv 4) (pe_me G hr (by omega) T.cl_ChainCounter T.me_ChainCounter_ways rfl (pv 0) (pa_cons (pe_op op_sub (pv 1) pe_int) (pa_cons (pv 3) (pa_cons (pe_dget2 hu (pe_fld (pv 0) rfl) (pe_op op_sub (pv 1) pe_int) pe_int ⟨rfl, rfl, rfl, rfl⟩) pa_nil)))) rfl))
              (pss_one (ps_dput hu (pe_fld (pv 0) rfl) (pv 4) (pe_me G2 hr (by omega) T.cl_ChainCounter T.me_ChainCounter_with_first rfl (pv 0) (pa_cons (pv 1) (pa_cons (pv 2) (pa_cons (pv 3) pa_nil)))) rfl)))) pss_nil)
          (pss_one (ps_ret (pe_dget hu (pe_fld (pv 0) rfl) (pv 4) (fun _ _ => rfl)))))), ?_⟩
        obtain ⟨⟨dx, ch, h1, h2⟩, h3⟩ := id hC
        refine ⟨_, rfl, rfl, _, rfl, ?_⟩
        have hw : (if len = 0 then some (1, m) else match lookM (len, here, below) m with
          | some v => some (v, m)
          | none => (if here = 0 then waysM l deg n (len - 1) below ((look (len - 2) l).getD 0) m else withFirst (waysM l deg n) deg len here below m).bind fun r =>
            if decide (r.2.length ≤ 10000) = true then some (r.1, putM (len, here, below) r.1 r.2) else none) = some (v, m') := hw
        by_cases hl0 : len = 0
        · rw [if_pos hl0] at hw
          cases hw
          exact ifT (decide_eq_true (congrArg V.int hl0)) (k H (fun _ _ z _ => z) h3)
        · rw [if_neg hl0] at hw
          refine ifF (decide_eq_false fun z => hl0 (V.int.inj z)) ?_
          refine ⟨_, rfl, _, rfl, _, rfl, by show 3 ≤ sizeLine; decide, fun t nt => ?_⟩
          generalize hG : upd H t (.tup [.int len, .int here, .int below]) = G0
          have e0 : Same H G0 := by rw [← hG]; exact Same.nw nt
          have gt : G0 t = some (.tup [.int len, .int here, .int below]) := by rw [← hG]; exact upd_same
          have nkt : t ≠ kn := Ne.symm (ne_of_none h3 nt)
          have hC0 : CtAt K G0 a kn l deg m := hC.but (fun x o hx _ => e0 _ _ hx) (e0 _ _ h3)
          have h1' := e0 _ _ h1
          have h3' := e0 _ _ h3
          have dg : DGet G0 kn (.ref t) ((lookM (len, here, below) m).map V.int) := DGet.m (k := (len, here, below)) h3' gt
          refine ⟨_, rfl, _, rfl, a, _, dx, _, _, rfl, h1', T.cl_ChainCounter, T.n_ChainCounter_own_known, cF_kn, kn, _, rfl, dg, _, rfl, ?_⟩
          -- the store and the end
          have fin : ∀ (r : Int × M3) (H2 : Hp), decide (r.2.length ≤ 10000) = true → v = r.1 → m' = putM (len, here, below) r.1 r.2 → But kn G0 H2 → H2 kn = some (.dT (dM r.2)) →
              (sDPut (tFld K (tVar 0) "own_known") (tVar 4) (fun _ _ Q => Q (.int r.1) H2) { nx := tRet (tDGet (tFld K (tVar 0) "own_known") (tVar 4)) { nx := fun _ H' => Q .non H', rt := Q }, rt := Q } [some (.ref a), some (.int len), some (.int here), some (.int below), some (.ref t)] H2) := by
            rintro r H2 hz rfl rfl e2 hk2
            have a2 := e2 _ _ h1' (ne_of h1' h3' (by intro z; cases z))
            have t2 := e2 _ _ gt nkt
            refine ⟨_, rfl, a, _, dx, _, _, rfl, a2, T.cl_ChainCounter, T.n_ChainCounter_own_known, cF_kn, _, rfl, kn, _, rfl, DPut.m (k := (len, here, below)) hk2 t2 (of_decide_eq_true hz), ?_⟩
            have nak : a ≠ kn := ne_of h1' h3' (by intro z; cases z)
            have g := DGet.m (k := (len, here, below)) (H := upd H2 kn (.dT (dM (putM (len, here, below) r.1 r.2)))) (a := kn) (b := t) upd_same (upd_at t2 nkt)
            rw [lookM_put] at g
            refine ⟨_, rfl, a, _, dx, _, _, rfl, upd_at a2 nak, T.cl_ChainCounter, T.n_ChainCounter_own_known, cF_kn, _, rfl, kn, .int r.1, rfl, g, ?_⟩
            exact k _ (fun x o hx n => by rw [upd_ne n]; exact e2 _ _ (e0 _ _ hx) n) upd_same
          cases hlk : lookM (len, here, below) m with
          | some v2 =>
            rw [hlk] at hw dg
            cases hw
            refine ifF rfl ⟨_, rfl, a, _, dx, _, _, rfl, h1', T.cl_ChainCounter, T.n_ChainCounter_own_known, cF_kn, _, rfl, kn, .int v, rfl, dg, ?_⟩
            exact k _ (fun x o hx _ => e0 _ _ hx) h3'
          | none =>
            rw [hlk] at hw
            obtain ⟨r, w1, w2⟩ := Option.bind_eq_some_iff.mp hw
            split at w2
            · rename_i hz
              cases w2
              refine ifT rfl ⟨_, rfl, rfl, _, rfl, ?_⟩
              by_cases hh : here = 0
              · rw [if_pos hh] at w1
                have g2 := DGet.r (k := len - 2) (.inl (e0 _ _ h2))
                refine ifT (decide_eq_true (congrArg V.int hh)) ⟨_, rfl, a, dx, _, rfl, h1', cF_no (by decide +kernel) (by decide +kernel) (by decide +kernel), _, rfl, _, _, rfl, rfl, _, rfl, _, rfl, a, _, dx, _, _, rfl, h1', T.cl_ChainCounter, T.n_ChainCounter_own_chains, cF_ch, ch, rfl, .inl ⟨_, .inl (e0 _ _ h2)⟩, _, rfl, _, _, rfl, rfl, _, g2, ?_⟩
                rw [getD_int]
                exact ⟨a, kn, l, deg, len - 1, below, _, m, r.2, r.1, rfl, hC0, w1, fun H2 e2 hk2 => fin r H2 hz rfl rfl e2 hk2⟩
              · rw [if_neg hh] at w1
                refine ifF (decide_eq_false fun z => hh (V.int.inj z)) ⟨_, rfl, a, dx, _, rfl, h1', cF_no (by decide +kernel) (by decide +kernel) (by decide +kernel), _, rfl, _, rfl, _, rfl, ?_⟩
                exact ⟨a, kn, l, deg, len, here, below, m, r.2, r.1, rfl, hC0, w1, fun H2 e2 hk2 => fin r H2 hz rfl rfl e2 hk2⟩
            · cases w2
    exact fin
end
end Ck
set_option maxHeartbeats 4000000
/-! count_roots -/
namespace Ck
open PySem PySem.Spec PyProof.Rows L2
def rootsCyc (deg : Int) (l : Z2) : Option Int := itL (fun f p => (ccr p.1 p.2 deg).bind (mul? f)) l 1 l.length
def lgOf (l : Z2) : Int := lgst (l.map (·.1)) 0 (l.map (·.1)).length
def rootsChn (deg : Int) (l : Z2) : Option Int := (waysM l deg 60 (lgOf l) ((look (lgOf l) l).getD 0) ((look (lgOf l - 1) l).getD 0) []).map (·.1)
def rootsSh (s : Sh) (deg : Int) : Option Int := (rootsCyc deg s.cyc).bind fun f => (rootsChn deg s.chn).bind fun v => mul? f v
def countRoots (m : Mp) (deg : Int) : Option Int := if (inR deg 1 (10 ^ 30) && decide (m.size ≤ 40)) = true then (shapeOf m).bind fun s => rootsSh s deg else none
theorem keys_list (l : Z2) : ((dI l).map fun kv => kV kv.1) = (l.map (·.1)).map V.int := by
  unfold dI
  rw [List.map_map, List.map_map]
  rfl
section
variable {P : Program} {w : World} {K : PySem.W.Frag} {mg : Str → Option Value} {base : Heap} (T : Tx K mg)
include T
abbrev sp_count_roots (K : PySem.W.Frag) : Sp := fun vs H Q _ => ∃ (a : Addr) (m : Mp) (deg r : Int), vs = [.ref a, .int deg] ∧ MapAt K H a m ∧ countRoots m deg = some r ∧ ∀ H', Same H H' → Q (.int r) H'
theorem ok_count_roots : Ok P w K mg base 123 d_count_roots ["given", "degree"] (sp_count_roots K) := by
  obtain ⟨tk, hc⟩ := T.c_MAX_COUNTED
  refine mk_ok T.f_count_roots sc_count_roots (fun vs H Q E h => ?_) (fun cdv A outer s H vs Q E hr h => ?_)
  · obtain ⟨a, m, c, d, rfl, _⟩ := h; rfl
  · obtain ⟨a, m, deg, r, rfl, hm, hx, k⟩ := h
    have hu := hu_of hr
    have nd := sc_count_roots.nd
    unfold countRoots at hx
    split at hx
    · rename_i hg
      obtain ⟨g1, g2⟩ := two hg
      have g2 := of_decide_eq_true g2
      have d1 := of_decide_eq_true (two g1).1
      have d2 := of_decide_eq_true (two g1).2
      obtain ⟨s, hs, hx⟩ := Option.bind_eq_some_iff.mp hx
      obtain ⟨f1, hf1, hx⟩ := Option.bind_eq_some_iff.mp hx
      obtain ⟨v1, hv1, hx⟩ := Option.bind_eq_some_iff.mp hx
      obtain ⟨⟨v, mm⟩, hv2, rfl⟩ := Option.map_eq_some_iff.mp hv1
      obtain ⟨bm, rfl⟩ := mul?_ok hx
      obtain ⟨dx, da, h1, h2⟩ := id hm
      obtain ⟨o1, o2⟩ := shapeOf_ok hs
      refine ⟨_, pss_cons (ps_expr (pe_f (ok_check_map T) hr (by decide) (by rfl) T.m_check_map (pa_cons (pv 0) pa_nil)))
        (pss_cons (ps_expr (pe_f (ok_check_degree T) hr (by decide) (by rfl) T.m_check_degree (pa_cons (pv 1) pa_nil)))
        (pss_cons (ps_if (pt_cmpR op_gt (pe_p (ok_Map_size T) hr (by decide) T.cl_Map T.p_Map_size (pv 0)) (pe_glob (v := .int 40) (by rfl) hc ⟨_, rfl⟩) (nomark _)) pss_never pss_nil)
        (pss_cons (ps_set (i := 2) nd rfl (Or.inl rfl) (pe_f (ok_shape_of T) hr (by decide) (by rfl) T.m_shape_of (pa_cons (pv 0) pa_nil)))
        (pss_cons (ps_set (i := 3) nd rfl (Or.inl rfl) pe_int)
        (pss_cons (ps_for PassesOwn.never (by rfl) (pi_items (pe_fz (pe_p (ok_Shape_cycles T) hr (by decide) T.cl_Shape T.p_Shape_cycles (pv 2)))) (pg_tup (by rfl) (pgs_cons (pg_name (i := 4) nd rfl (Or.inl rfl)) (pgs_cons (pg_name (i := 5) nd rfl (Or.inl rfl)) pgs_nil)))
          (pss_one (ps_aug (i := 3) nd rfl (Or.inl rfl) (pe_f (ok_count_cycle_roots T) hr (by decide) (by rfl) T.m_count_cycle_roots (pa_cons (pv 4) (pa_cons (pv 5) (pa_cons (pv 1) pa_nil)))) iop_mulW)))
        (pss_cons (ps_set (i := 6) nd rfl (Or.inl rfl) (pe_f (ok_largest T) hr (by decide) (by rfl) T.m_largest (pa_cons (pe_callTy (call_list_dK (by rfl)) (by rfl) T.z_list (by decide +kernel) (pa_cons (pe_p (ok_Shape_chains T) hr (by decide) T.cl_Shape T.p_Shape_chains (pv 2)) pa_nil)) (pa_cons pe_int pa_nil))))
        (pss_cons (ps_set (i := 7) nd rfl (Or.inl rfl) (pe_m (ok_Ct_init T) hr (by decide) T.mk_ChainCounter rfl (by rfl) T.m_ChainCounter (pa_cons (pe_p (ok_Shape_chains T) hr (by decide) T.cl_Shape T.p_Shape_chains (pv 2)) (pa_cons (pv 1) pa_nil))))
        (pss_one (ps_ret (pe_op op_mulW (pv 3) (pe_me (ok_ways T 60) hr (by decide) T.cl_ChainCounter T.me_ChainCounter_ways rfl (pv 7) (pa_cons (pv 6)
          (pa_cons (pe_dget2 hu (pe_p (ok_Shape_chains T) hr (by decide) T.cl_Shape T.p_Shape_chains (pv 2)) (pv 6) pe_int ⟨rfl, rfl, rfl, rfl⟩)
          (pa_cons (pe_dget2 hu (pe_p (ok_Shape_chains T) hr (by decide) T.cl_Shape T.p_Shape_chains (pv 2)) (pe_op op_sub (pv 6) pe_int) pe_int ⟨rfl, rfl, rfl, rfl⟩) pa_nil)))))))))))))), ?_⟩
      refine ⟨_, rfl, a, m, rfl, hm, ?_⟩
      refine ⟨_, rfl, deg, rfl, ⟨d1, d2⟩, ?_⟩
      refine ⟨_, rfl, a, dx, _, rfl, h1, a, m, rfl, hm, _, _, rfl, rfl, _, rfl, ifF (decide_eq_false (by omega)) ?_⟩
      refine ⟨_, rfl, a, m, s, rfl, hm, hs, fun p H1 e1 n1 S1 => ?_⟩
      obtain ⟨sx, sc, sd, s1, s2, s3⟩ := id S1
      refine ⟨_, rfl, p, sx, _, rfl, s1, p, s, rfl, S1, fun t nt => ⟨t, _, rfl, upd_same, True.intro, fun od => ⟨t, od, _, rfl, upd_same, ?_⟩⟩⟩
      generalize hG : upd (upd H1 t (.dK (dI s.cyc))) t (.frz od (.dK (dI s.cyc))) = G
      have eG : Same H1 G := by rw [← hG, upd_upd]; exact Same.nw nt
      have gt : G t = some (.frz od (.dK (dI s.cyc))) := by rw [← hG]; exact upd_same
      refine for_its (fun i σ H' => ∃ x y z u f, σ = [some (.ref a), some (.int deg), some (.ref p), some (.int f), x, y, z, u] ∧ itL (fun f p => (ccr p.1 p.2 deg).bind (mul? f)) s.cyc 1 i = some f ∧ Same G H') ?_ ?_ ?_ ?_
      · exact ⟨_, _, _, _, 1, rfl, rfl, fun _ _ z => z⟩
      · rintro i σ H' _ ⟨x, y, z, u, f, rfl, it, e⟩
        exact e _ _ gt
      · rintro i kk vv σ H' H2 hi ⟨x, y, z, u, f, rfl, it, e⟩ e2
        obtain ⟨q, hq, rfl, rfl⟩ := dI_at hi
        obtain ⟨f', u1, u2⟩ := itL_turn hf1 (List.getElem?_eq_some_iff.mp hq).1 it hq
        obtain ⟨c, c1, c2⟩ := Option.bind_eq_some_iff.mp u1
        obtain ⟨b1, rfl⟩ := mul?_ok c2
        exact ⟨_, rfl, _, rfl, _, rfl, _, rfl, q.1, q.2, deg, c, rfl, c1, fun H3 e3 => ⟨_, _, rfl, rfl, b1, _, _, _, _, _, rfl, u2, e.trans (e2.trans e3)⟩⟩
      · rintro σ H' ⟨x, y, z, u, f, rfl, it, e⟩
        rw [dI_len] at it
        have ef : f = f1 := Option.some.inj (it.symm.trans hf1)
        subst ef
        have eP : Same H1 H' := eG.trans e
        have S' := S1.mono eP
        refine ⟨_, rfl, p, sx, _, rfl, eP _ _ s1, p, s, rfl, S', fun t2 nt2 => ⟨t2, _, rfl, upd_same, fun q nq => ?_⟩⟩
        generalize hG2 : upd (upd H' t2 (.dK (dI s.chn))) q (.lst ((dI s.chn).map fun kv => kV kv.1)) = G2
        have e2 : Same H' G2 := by rw [← hG2]; exact (Same.nw nt2).trans (Same.nw nq)
        have gq : G2 q = some (.lst ((s.chn.map (·.1)).map V.int)) := by rw [← hG2, upd_same, keys_list]
        refine ⟨q, s.chn.map (·.1), 0, rfl, gq, ?_⟩
        have eP2 := eP.trans e2
        refine ⟨_, rfl, p, sx, _, rfl, eP2 _ _ s1, p, s, rfl, S1.mono eP2, fun t3 nt3 => ⟨_, rfl, fun x dx hx hdx ne => ?_⟩⟩
        have e3 : Same G2 (upd G2 t3 (.dK (dI s.chn))) := Same.nw nt3
        refine ⟨x, dx, t3, s.chn, deg, rfl, upd_same, ?_, fun H4 kn e4 nk C4 => ⟨rfl, ?_⟩⟩
        · rw [upd_ne (ne_of_none upd_same hx), upd_ne (ne_of_none upd_same hdx)]
          exact upd_same
        have eP4 : Same H1 H4 := eP2.trans (e3.trans (Same.made hx hdx e4))
        obtain ⟨⟨cx, cch, c1, c2⟩, c3⟩ := id C4
        refine ⟨_, rfl, _, rfl, x, cx, _, rfl, c1, cF_no (by decide +kernel) (by decide +kernel) (by decide +kernel), _, rfl, ?_⟩
        refine ⟨_, rfl, p, sx, _, rfl, eP4 _ _ s1, p, s, rfl, S1.mono eP4, fun t5 nt5 => ⟨t5, rfl, .inl ⟨_, .inl upd_same⟩, _, rfl, _, DGet.r (.inl upd_same), ?_⟩⟩
        rw [getD_int]
        have e5 : Same H4 (upd H4 t5 (.dK (dI s.chn))) := Same.nw nt5
        have eP5 := eP4.trans e5
        refine ⟨_, rfl, p, sx, _, rfl, eP5 _ _ s1, p, s, rfl, S1.mono eP5, fun t6 nt6 => ⟨t6, rfl, .inl ⟨_, .inl upd_same⟩, _, rfl, _, _, rfl, rfl, _, DGet.r (.inl upd_same), ?_⟩⟩
        rw [getD_int]
        have e6 := e5.trans (Same.nw nt6 (o := .dK (dI s.chn)))
        refine ⟨x, kn, s.chn, deg, _, _, _, [], mm, v, rfl, C4.but (fun y o hy _ => e6 y o hy) (e6 _ _ c3), hv2, fun H7 e7 hk7 => ⟨_, _, rfl, rfl, bm, k H7 fun y o hy => ?_⟩⟩
        have hkn : H kn = none := by
          have z := (eP2.trans e3)
          have z2 : Same H (upd G2 t3 (.dK (dI s.chn))) := e1.trans z
          refine z2.free ?_
          have ndx : kn ≠ dx := by intro w; subst w; rw [upd_ne ne, upd_same] at nk; cases nk
          have nx : kn ≠ x := by intro w; subst w; rw [upd_same] at nk; cases nk
          rw [upd_ne nx, upd_ne ndx] at nk
          exact nk
        exact e7 y o (e6 y o (eP4 y o (e1 y o hy))) (ne_of_none hy hkn)
    · cases hx
end
end Ck
set_option maxHeartbeats 4000000
/-! the law's own mirror -/
namespace Ck
open PySem PySem.Spec PyProof.Rows L2
abbrev minI (a b : Int) : Int := if b < a then b else a
def grow (len : Int) (r : Z2) : Z2 := put len ((look len r).getD 0 + 1) r
def spTurn (S : Int → Int → Option (List Z2)) (size : Int) (i : Nat) (acc : List Z2) : Option (List Z2) := (S (size - (1 + (i : Int))) (1 + (i : Int))).bind fun rs =>
  if (decide (acc.length + rs.length ≤ 10000) && rs.all fun r => decide (r.length ≤ 100)) = true then some (acc ++ rs.map (grow (1 + (i : Int)))) else none
def splitsF : Nat → Int → Int → Option (List Z2)
  | 0, _, _ => none
  | n + 1, size, most => if size = 0 then some [[]] else if (inR size 0 300 && inR most 0 300) = true then itN (spTurn (splitsF n) size) [] (minI size most + 1 - 1).toNat else none
def splits (size most : Int) : Option (List Z2) := splitsF 10 size most
def shIn (size : Int) (part : Int) (acc : List Sh) (c : Z2) : Option (List Sh) := (splits (size - part) (size - part)).bind fun ds =>
  if (okC c && (decide (acc.length + ds.length ≤ 10000) && ds.all okC)) = true then some (acc ++ ds.map fun d => ⟨c, d⟩) else none
def shOut (size : Int) (i : Nat) (acc : List Sh) : Option (List Sh) := (splits (i : Int) (i : Int)).bind fun cs => itL (shIn size (i : Int)) cs acc cs.length
def shapesL (size : Int) : Option (List Sh) := itN (shOut size) [] (size + 1).toNat
def totF (size : Int) (i : Nat) : Option Int := ext (mkMp size []) (i : Int)
def totOf (size : Int) : Option (List Int) := itN (fun i l => (totF size i).bind fun x => some (l ++ [x])) [] (size + 1).toNat
def lawShape (deg size : Int) (st : Int × Int) (s : Sh) : Option (Int × Int) := (mapOf s).bind fun m => (shapeOf m).bind fun s2 => (sym s2).bind fun c =>
  if (decide (0 < c) && decide (c < 1000000000)) = true then (countRoots m deg).bind fun nr => (hasRoot s deg).bind fun b => if (decide (0 < nr) == b) = true then
    (mul? (fact size.toNat / c) nr).bind fun y => some (st.1 + fact size.toNat / c, st.2 + y) else none else none
def lawTurn (size deg : Int) : Option Bool := (shapesL size).bind fun ss => (itL (lawShape deg size) ss (0, 0) ss.length).bind fun r => (totOf size).bind fun t => some (decide (r.1 = t.sum) && decide (r.2 = t.sum))
end Ck
namespace Ck
open PySem PySem.Spec PyProof.Rows L2
/-! rows, pairs -/
def fcOf (size : Int) (i : Nat) (fc : Int) : Int := if decide (1 < 1 + (i : Int)) = true then fc * (1 + (i : Int)) * (size - (1 + (i : Int)) + 1) / (1 + (i : Int) - 1) else fc * (1 + (i : Int))
def rwIn (most size : Int) (fd : List Int) (i : Nat) (s : Int × Int) : Option (Int × Int) :=
  (atI fd (size - (1 + (i : Int)))).bind fun fv => (mul? (fcOf size i s.2) fv).bind fun x => some (s.1 + x * (if decide (1 + (i : Int) ≤ most) = true then 1 else 0), fcOf size i s.2)
def rwOut (most : Int) (i : Nat) (fd : List Int) : Option (List Int) := (itN (rwIn most (1 + (i : Int)) fd) (0, 1) (1 + (i : Int) + 1 - 1).toNat).bind fun r => some (fd ++ [r.1])
def rows (most : Int) : Option (List Int) := itN (rwOut most) [1] ((41 : Int) - 1).toNat
def prTurn (i : Nat) (l : List Int) : Option (List Int) := (atI l (-1)).bind fun a => (atI l (-2)).bind fun b => some (l ++ [a + ((2 + (i : Int)) - 1) * b])
def pairsL : Option (List Int) := itN prTurn [1, 1] ((41 : Int) - 2).toNat
end Ck
set_option maxHeartbeats 4000000
/-! the law's helpers -/
namespace Ck
open PySem PySem.Spec PyProof.Rows L2
theorem atI_map {xs : List Int} {i v : Int} (h : atI xs i = some v) : atI (xs.map V.int) i = some (V.int v) := by
  unfold atI at h ⊢
  rw [List.length_map]
  obtain ⟨q, q1, q2⟩ := Option.bind_eq_some_iff.mp h
  rw [q1]
  show (xs.map V.int)[q]? = _
  rw [List.getElem?_map, q2]
  rfl
theorem lit1 : (0 : Int) < 2147483647 := by decide
theorem lit2 : (0 : Int) < 2147483629 := by decide
/-- the first item of a cut of ints, with a nought behind -/
theorem cut_first (ns : List Int) (lo hi : Option Int) : ∃ n : Int, atI (cutV (ns.map V.int) lo hi ++ [V.int 0]) 0 = some (V.int n) := by
  have hm : ∃ ms : List Int, cutV (ns.map V.int) lo hi = ms.map V.int := by
    unfold cutV
    rw [← List.map_drop, ← List.map_take]
    exact ⟨_, rfl⟩
  obtain ⟨ms, e⟩ := hm
  rw [e]
  cases ms with
  | nil => exact ⟨0, rfl⟩
  | cons m r =>
    refine ⟨m, ?_⟩
    exact atI_nat (j := 0) rfl
/-- the dicts at these addresses -/
abbrev Dcts (H : Hp) : List Addr → List Z2 → Prop := Paired fun a d => H a = some (.dK (dI d))
theorem Dcts.mono {H H' : Hp} {as : List Addr} {rs : List Z2} (h : Dcts H as rs) (e : Same H H') : Dcts H' as rs := Paired.mapP h fun a r z => e _ _ z
theorem Dcts.frame {H H' : Hp} {as : List Addr} {rs : List Z2} {Pn : Addr → Prop} (h : Dcts H as rs) (hn : ∀ x ∈ as, Pn x) (fr : ∀ x o, H x = some o → Pn x → H' x = some o) : Dcts H' as rs := by
  induction h with
  | nil => exact .nil
  | cons r t ih => exact .cons (fr _ _ r (hn _ List.mem_cons_self)) (ih fun a ha => hn a (List.mem_cons_of_mem _ ha))
theorem Dcts.at_ {H : Hp} : ∀ {as : List Addr} {rs : List Z2} {i : Nat} {a : Addr}, Dcts H as rs → as[i]? = some a → ∃ r, rs[i]? = some r ∧ H a = some (.dK (dI r))
  | _, _, i, a, .nil, h => by simp at h
  | _, _, 0, a, .cons z _, h => by cases (show _ = a by simpa using h); exact ⟨_, rfl, z⟩
  | _, _, i + 1, a, .cons _ t, h => by
    obtain ⟨r, h1, h2⟩ := Dcts.at_ (i := i) t (by simpa using h)
    exact ⟨r, by simpa using h1, h2⟩
abbrev LDcts (H : Hp) (p : Addr) (rs : List Z2) : Prop := ∃ as : List Addr, H p = some (.lst (as.map V.ref)) ∧ Dcts H as rs
section
variable {P : Program} {w : World} {K : PySem.W.Frag} {mg : Str → Option Value} {base : Heap} (T : Tx K mg)
include T
theorem ok_law_product : Ok P w K mg base 1 d_law_product ["_law_number"] sp_fact := by
  refine mk_ok T.f_law_product sc_law_product (fun vs H Q E h => ?_) (fun cdv A outer s H vs Q E hr h => ?_)
  · obtain ⟨n, rfl, _⟩ := h; rfl
  · obtain ⟨n, rfl, ⟨h0, h1⟩, k⟩ := h
    have nd := sc_law_product.nd
    refine ⟨_, pss_cons (ps_set (i := 1) nd rfl (Or.inl rfl) pe_int) (pss_cons (ps_for PassesOwn.never (by rfl) (pi_range2 (by rfl) T.z_range (pa_cons pe_int (pa_cons (pe_op op_add (pv 0) pe_int) pa_nil))) (pg_name (i := 2) nd rfl (Or.inl rfl))
      (pss_one (ps_set (i := 1) nd rfl (Or.inl rfl) (pe_op op_mul (pv 1) (pv 2))))) (pss_one (ps_ret (pv 1)))), ?_⟩
    refine ⟨_, rfl, _, _, rfl, rfl, 1, n + 1, rfl, ⟨by decide, by decide, by omega, by omega⟩, ?_⟩
    refine for_range (lo := 1) (n := (n + 1 - 1).toNat) (fun i σ H' => ∃ z, σ = [some (.int n), some (.int (fact i)), z] ∧ H' = H) ⟨_, rfl, rfl⟩ ?_ ?_
    · rintro i σ H' hi ⟨z, rfl, rfl⟩
      exact ⟨_, rfl, _, rfl, _, _, rfl, rfl, cmulR (by omega), _, rfl, rfl⟩
    · rintro σ H' ⟨z, rfl, rfl⟩
      refine ⟨_, rfl, ?_⟩
      rw [show (n + 1 - 1).toNat = n.toNat by omega]
      exact k
abbrev sp_rows : Sp := fun vs H Q _ => ∃ (most : Int) (rs : List Int), vs = [.int most] ∧ rows most = some rs ∧ ∀ p H', Same H H' → H p = none → H' p = some (.lst (rs.map V.int)) → Q (.ref p) H'
theorem ok_law_rows : Ok P w K mg base 1 d_law_rows ["_law_most"] sp_rows := by
  refine mk_ok T.f_law_rows sc_law_rows (fun vs H Q E h => ?_) (fun cdv A outer s H vs Q E hr h => ?_)
  · obtain ⟨n, r, rfl, _⟩ := h; rfl
  · obtain ⟨most, rs, rfl, hrs, k⟩ := h
    have nd := sc_law_rows.nd
    refine ⟨_, pss_cons (ps_set (i := 1) nd rfl (Or.inl rfl) (pe_lst (pa_cons pe_int pa_nil)))
      (pss_cons (ps_for PassesOwn.never (by rfl) (pi_range2 (by rfl) T.z_range (pa_cons pe_int (pa_cons pe_int pa_nil))) (pg_name (i := 2) nd rfl (Or.inl rfl))
        (pss_cons (ps_asg (pe_tup (pa_cons pe_int (pa_cons pe_int pa_nil))) (pg_tup (by rfl) (pgs_cons (pg_name (i := 3) nd rfl (Or.inl rfl)) (pgs_cons (pg_name (i := 4) nd rfl (Or.inl rfl)) pgs_nil))))
        (pss_cons (ps_for PassesOwn.never (by rfl) (pi_range2 (by rfl) T.z_range (pa_cons pe_int (pa_cons (pe_op op_add (pv 2) pe_int) pa_nil))) (pg_name (i := 5) nd rfl (Or.inl rfl))
          (pss_cons (ps_set (i := 4) nd rfl (Or.inl rfl) (pe_op op_mul (pv 4) (pv 5)))
          (pss_cons (ps_if (pt_cmpR op_gt (pv 5) pe_int (nomark _)) (pss_one (ps_set (i := 4) nd rfl (Or.inl rfl) (pe_op op_fdiv (pe_op op_mul (pv 4) (pe_op op_add (pe_op op_sub (pv 2) (pv 5)) pe_int)) (pe_op op_sub (pv 5) pe_int)))) pss_nil)
          (pss_one (ps_set (i := 3) nd rfl (Or.inl rfl) (pe_op op_add (pv 3) (pe_op op_mul (pe_op op_mulW (pv 4) (pe_ix ix_list (pv 1) (pe_op op_sub (pv 2) (pv 5)) (fun _ _ => rfl)))
            (pe_callTy call_int1 (by rfl) T.z_int (by decide +kernel) (pa_cons (pe_cmpR op_le (pv 5) (pv 0) (nomark _)) pa_nil)))))))))
        (pss_one (ps_expr (pe_bm PySem.F.plainAttrs_list PySem.F.slot_list_append PySem.F.type_list_append mt_append (pv 1) (pa_cons (pv 3) pa_nil)))))))
      (pss_one (ps_ret (pv 1)))), ?_⟩
    refine ⟨by show 1 ≤ sizeLine; decide, fun L nL => ?_⟩
    refine ⟨1, 41, rfl, ⟨by decide, by decide, by decide, by decide⟩, ?_⟩
    refine for_range (lo := 1) (n := ((41 : Int) - 1).toNat) (fun i σ H' => ∃ x y z u fd, σ = [some (.int most), some (.ref L), x, y, z, u] ∧ itN (rwOut most) [1] i = some fd ∧ fd.length ≤ i + 1 ∧ Same H H' ∧ H' L = some (.lst (fd.map V.int))) ⟨_, _, _, _, [1], rfl, rfl, Nat.le_refl _, Same.nw nL, upd_same⟩ ?_ ?_
    · rintro i σ H' hi ⟨x, y, z, u, fd, rfl, it, hz, e, hL⟩
      have hi : i < 40 := hi
      obtain ⟨fd', u1, u2⟩ := itN_turn hrs hi it
      obtain ⟨r, t1, t2⟩ := Option.bind_eq_some_iff.mp u1
      cases t2
      refine ⟨by show 2 ≤ sizeLine; decide, fun tp ntp => ⟨tp, _, rfl, SqT.of upd_same, rfl, _, _, rfl, _, _, rfl, rfl, ?_⟩⟩
      generalize hG : upd H' tp (.tup [.int 0, .int 1]) = H1
      have eG : Same H' H1 := by rw [← hG]; exact Same.nw ntp
      replace hL := eG _ _ hL
      replace e := e.trans eG
      refine ⟨_, rfl, _, _, rfl, rfl, 1, 1 + (i : Int) + 1, rfl, ⟨by decide, by decide, by omega, by omega⟩, ?_⟩
      refine for_range (lo := 1) (n := (1 + (i : Int) + 1 - 1).toNat) (fun j σ H2 => ∃ u s, σ = [some (.int most), some (.ref L), some (.int (1 + (i : Int))), some (.int s.1), some (.int s.2), u] ∧ itN (rwIn most (1 + (i : Int)) fd) (0, 1) j = some s ∧ H2 = H1) ⟨_, (0, 1), rfl, rfl, rfl⟩ ?_ ?_
      · rintro j σ H2 hj ⟨u, s, rfl, it2, rfl⟩
        obtain ⟨s', v1, v2⟩ := itN_turn t1 hj it2
        obtain ⟨fv, w1, v1⟩ := Option.bind_eq_some_iff.mp v1
        obtain ⟨xx, w2, v1⟩ := Option.bind_eq_some_iff.mp v1
        cases v1
        obtain ⟨b1, rfl⟩ := mul?_ok w2
        refine ⟨_, rfl, _, rfl, _, _, rfl, rfl, cmulR (by omega), ?_⟩
        refine ⟨_, rfl, _, _, rfl, rfl, _, rfl, ?_⟩
        unfold fcOf at b1 v2
        by_cases c1 : (1 : Int) < 1 + (j : Int)
        · rw [if_pos (decide_eq_true c1)] at b1 v2
          refine ifT (decide_eq_true c1) ⟨_, rfl, _, rfl, _, rfl, _, _, rfl, rfl, _, _, rfl, rfl, _, _, rfl, rfl, cmulR (by omega), _, rfl, _, _, rfl, rfl, _, _, rfl, rfl, ⟨by omega, by omega⟩, ?_⟩
          refine ⟨_, rfl, _, rfl, _, rfl, _, rfl, _, rfl, _, _, rfl, rfl, L, _, _, _, rfl, rfl, SqL.of hL, atI_map w1, _, _, rfl, rfl, b1, _, rfl, _, rfl, _, _, rfl, rfl, .inr ⟨_, rfl, _, _, rfl, rfl, cmulR (by split <;> decide), _, _, rfl, rfl, ?_⟩⟩
          exact ⟨_, (_, _), rfl, v2, rfl⟩
        · rw [if_neg (by rw [decide_eq_false c1]; exact Bool.false_ne_true)] at b1 v2
          refine ifF (decide_eq_false c1) ?_
          refine ⟨_, rfl, _, rfl, _, rfl, _, rfl, _, rfl, _, _, rfl, rfl, L, _, _, _, rfl, rfl, SqL.of hL, atI_map w1, _, _, rfl, rfl, b1, _, rfl, _, rfl, _, _, rfl, rfl, .inr ⟨_, rfl, _, _, rfl, rfl, cmulR (by split <;> decide), _, _, rfl, rfl, ?_⟩⟩
          exact ⟨_, (_, _), rfl, v2, rfl⟩
      · rintro σ H2 ⟨u, s, rfl, it2, rfl⟩
        have es : s = r := Option.some.inj (it2.symm.trans t1)
        subst es
        refine ⟨_, rfl, .inl ⟨rfl, _, SqL.of hL⟩, _, rfl, L, _, _, rfl, rfl, hL, ?_, ?_⟩
        · rw [List.length_map]
          exact Nat.lt_of_le_of_lt (show _ ≤ 41 by omega) (by decide)
        · refine ⟨_, _, _, _, _, rfl, u2, by rw [List.length_append]; show fd.length + 1 ≤ _; omega, Same.mu e nL, ?_⟩
          rw [List.map_append]
          exact upd_same
    · rintro σ H' ⟨x, y, z, u, fd, rfl, it, hz, e, hL⟩
      have ef : fd = rs := Option.some.inj (it.symm.trans hrs)
      subst ef
      exact ⟨_, rfl, k L H' e nL hL⟩
abbrev sp_hand (K : PySem.W.Frag) : Sp := fun vs H Q _ => ∃ (a : Addr) (ns : List Int) (i : Int), vs = [.ref a, .int i] ∧ SqL K H a (ns.map V.int) ∧ ns.length ≤ 63 ∧ ∀ p x y H', Same H H' → H p = none → H' p = some (.lst [.int x, .int y]) → Q (.ref p) H'
theorem ok_law_hand : Ok P w K mg base 1 d_law_hand ["_law_script", "_law_k"] (sp_hand K) := by
  refine mk_ok T.f_law_hand sc_law_hand (fun vs H Q E h => ?_) (fun cdv A outer s H vs Q E hr h => ?_)
  · obtain ⟨n, r, i, rfl, _⟩ := h; rfl
  · obtain ⟨a, ns, i, rfl, ha, hz, k⟩ := h
    have nd := sc_law_hand.nd
    refine ⟨_, pss_cons (ps_set (i := 2) nd rfl (Or.inl rfl) (pe_ix ix_list (pe_op op_cat (pe_slice sl_list (pv 0) (po_some (pv 1)) (po_some (pe_op op_add (pv 1) pe_int))) (pe_lst (pa_cons pe_int pa_nil))) pe_int (fun _ _ => rfl)))
      (pss_cons (ps_set (i := 3) nd rfl (Or.inl rfl) (pe_op op_mod (pe_op op_mul (pe_op op_add (pe_op op_add (pe_op op_mod (pv 2) pe_int) (pe_op op_mul pe_int (pv 1))) pe_int) pe_int) pe_int))
      (pss_one (ps_ret (pe_lst (pa_cons (pe_op op_mul (pe_callTy call_int1 (by rfl) T.z_int (by decide +kernel) (pa_cons (pe_cmpR op_ge (pv 2) (pe_op op_pow pe_int pe_int) (nomark _)) pa_nil)) (pv 2)) (pa_cons (pv 3) pa_nil)))))), ?_⟩
    refine ⟨_, rfl, _, rfl, i, rfl, _, rfl, _, _, rfl, rfl, i + 1, rfl, a, _, rfl, ha, fun p np => ?_⟩
    refine ⟨by show 1 ≤ sizeLine; decide, fun q nq => ?_⟩
    have npq : p ≠ q := by intro z; subst z; rw [upd_same] at nq; cases nq
    have nq' : H q = none := by rw [upd_ne (Ne.symm npq)] at nq; exact nq
    refine ⟨p, q, _, _, rfl, rfl, upd_at upd_same npq, upd_same, ?_, fun r nr => ?_⟩
    · have := cutV_length (ns.map V.int) (some i) (some (i + 1))
      rw [List.length_map] at this
      exact Nat.le_trans (show _ ≤ 64 by show _ + 1 ≤ 64; omega) (by decide)
    obtain ⟨n, hn⟩ := cut_first ns (some i) (some (i + 1))
    generalize hG : upd (upd (upd H p (.lst (cutV (ns.map V.int) (some i) (some (i + 1))))) q (.lst [.int 0])) r (.lst (cutV (ns.map V.int) (some i) (some (i + 1)) ++ [.int 0])) = G
    have eG : Same H G := by rw [← hG]; exact (Same.mu (Same.nw np) nq').trans (Same.nw nr)
    refine ⟨r, _, 0, _, rfl, rfl, SqL.of (by rw [← hG]; exact upd_same), hn, ?_⟩
    refine ⟨_, rfl, _, _, rfl, rfl, lit1, _, rfl, _, _, rfl, rfl, .inl (by decide), _, _, rfl, rfl, _, _, rfl, rfl, _, _, rfl, rfl, .inr (by decide), _, _, rfl, rfl, lit2, ?_⟩
    refine ⟨_, rfl, _, _, rfl, rfl, ⟨by decide, by decide, by decide⟩, _, _, rfl, rfl, .inr ⟨_, rfl, _, rfl, _, _, rfl, rfl, .inl (by split <;> decide), _, rfl, by show 2 ≤ sizeLine; decide, fun t nt => ?_⟩⟩
    exact k t _ _ _ (eG.trans (Same.nw nt)) (eG.free nt) upd_same
abbrev sp_draw : Sp := fun vs H Q _ => ∃ (p : Addr) (x y sz : Int), vs = [.ref p, .int sz] ∧ H p = some (.lst [.int x, .int y]) ∧ (0 < sz ∧ sz ≤ 1000) ∧
  ∀ d x' y' H', (0 ≤ d ∧ d < sz) → But p H H' → H' p = some (.lst [.int x', .int y']) → Q (.int d) H'
theorem ok_law_draw : Ok P w K mg base 1 d_law_draw ["_law_pool", "_law_size"] sp_draw := by
  refine mk_ok T.f_law_draw sc_law_draw (fun vs H Q E h => ?_) (fun cdv A outer s H vs Q E hr h => ?_)
  · obtain ⟨n, r, i, j, rfl, _⟩ := h; rfl
  · obtain ⟨p, x, y, sz, rfl, hp, ⟨h0, h1⟩, k⟩ := h
    have nd := sc_law_draw.nd
    refine ⟨_, pss_cons (ps_if (pt_cmpR op_gt (pe_ix ix_list (pv 0) pe_int (fun _ _ => rfl)) pe_int (nomark _))
        (pss_cons (ps_set (i := 2) nd rfl (Or.inl rfl) (pe_op op_mod (pe_ix ix_list (pv 0) pe_int (fun _ _ => rfl)) (pv 1)))
        (pss_cons (ps_asg (pe_op op_fdiv (pe_ix ix_list (pv 0) pe_int (fun _ _ => rfl)) (pv 1)) (pg_sub (pv 0) pe_int set_list))
        (pss_one (ps_ret (pv 2))))) pss_nil)
      (pss_cons (ps_asg (pe_op op_mod (pe_op op_add (pe_op op_mul (pe_ix ix_list (pv 0) pe_int (fun _ _ => rfl)) pe_int) pe_int) pe_int) (pg_sub (pv 0) pe_int set_list))
      (pss_one (ps_ret (pe_op op_mod (pe_op op_fdiv (pe_op op_mod (pe_op op_mul (pe_ix ix_list (pv 0) pe_int (fun _ _ => rfl)) (pe_ix ix_list (pv 0) pe_int (fun _ _ => rfl))) pe_int) pe_int) (pv 1))))), ?_⟩
    refine ⟨_, rfl, p, _, 0, _, rfl, rfl, SqL.of hp, rfl, _, _, rfl, rfl, _, rfl, ?_⟩
    by_cases c1 : 0 < x
    · refine ifT (decide_eq_true c1) ⟨_, rfl, p, _, 0, _, rfl, rfl, SqL.of hp, rfl, _, rfl, _, _, rfl, rfl, h0, ?_⟩
      refine ⟨_, rfl, p, _, 0, _, rfl, rfl, SqL.of hp, rfl, _, rfl, _, _, rfl, rfl, ⟨h0, by omega⟩, ?_⟩
      refine ⟨_, rfl, p, _, 0, 0, rfl, rfl, hp, rfl, ?_⟩
      exact ⟨_, rfl, k _ _ _ _ ⟨Int.emod_nonneg _ (by omega), Int.emod_lt_of_pos _ h0⟩ (fun q o hq n => by rw [upd_ne n]; exact hq) upd_same⟩
    · refine ifF (decide_eq_false c1) ?_
      refine ⟨_, rfl, p, _, 1, _, rfl, rfl, SqL.of hp, rfl, _, _, rfl, rfl, .inr (by decide), _, _, rfl, rfl, _, _, rfl, rfl, lit1, ?_⟩
      refine ⟨_, rfl, p, _, 1, 1, rfl, rfl, hp, rfl, ?_⟩
      have b1 := Int.emod_nonneg (y * 48271 + 11) (show (2147483647 : Int) ≠ 0 by decide)
      have b2 := Int.emod_lt_of_pos (y * 48271 + 11) (show (0 : Int) < 2147483647 by decide)
      refine ⟨_, rfl, p, _, 1, _, rfl, rfl, SqL.of upd_same, rfl, _, rfl, p, _, 1, _, rfl, rfl, SqL.of upd_same, rfl, _, _, rfl, rfl, .inr (by omega), _, _, rfl, rfl, lit2, _, _, rfl, rfl, ⟨by decide, by decide⟩, _, rfl, _, _, rfl, rfl, h0, ?_⟩
      exact k _ _ _ _ ⟨Int.emod_nonneg _ (by omega), Int.emod_lt_of_pos _ h0⟩ (fun q o hq n => by rw [upd_ne n]; exact hq) upd_same
end
end Ck
set_option maxHeartbeats 4000000
/-! splits, shapes -/
namespace Ck
open PySem PySem.Spec PyProof.Rows L2
abbrev Shps (K : PySem.W.Frag) (H : Hp) : List Addr → List Sh → Prop := Paired fun a s => ShAt K H a s
theorem Shps.mono {K : PySem.W.Frag} {H H' : Hp} {as : List Addr} {rs : List Sh} (h : Shps K H as rs) (e : Same H H') : Shps K H' as rs := Paired.mapP h fun a r z => ShAt.mono z e
theorem Paired.app {α β : Type} {F : α → β → Prop} {xs zs : List α} {ys ws : List β} (h1 : Paired F xs ys) (h2 : Paired F zs ws) : Paired F (xs ++ zs) (ys ++ ws) := by
  induction h1 with
  | nil => exact h2
  | cons r t ih => exact .cons r ih
theorem ShAt.upd {K : PySem.W.Frag} {H : Hp} {a D : Addr} {s : Sh} {xs : List V} {o : HO} (h : ShAt K H a s) (hD : H D = some (.lst xs)) : ShAt K (upd H D o) a s := by
  obtain ⟨dx, c, d, h1, h2, h3⟩ := h
  exact ⟨dx, c, d, upd_at h1 (ne_of h1 hD (by intro z; cases z)), upd_at h2 (ne_of h2 hD (by intro z; cases z)), upd_at h3 (ne_of h3 hD (by intro z; cases z))⟩
abbrev LShps (K : PySem.W.Frag) (H : Hp) (p : Addr) (rs : List Sh) : Prop := ∃ as : List Addr, H p = some (.lst (as.map V.ref)) ∧ Shps K H as rs
section
variable {P : Program} {w : World} {K : PySem.W.Frag} {mg : Str → Option Value} {base : Heap} (T : Tx K mg)
include T
abbrev sp_splits (n : Nat) : Sp := fun vs H Q _ => ∃ (size most : Int) (ds : List Z2), vs = [.int size, .int most] ∧ splitsF n size most = some ds ∧ ∀ p H', Same H H' → H p = none → LDcts H' p ds → Q (.ref p) H'
theorem ok_splits : ∀ n : Nat, Ok P w K mg base (n + 1) d_law_splits ["_law_size", "_law_most"] (sp_splits n)
  | 0 => by
    refine mk_ok T.f_law_splits sc_law_splits (fun vs H Q E h => ?_) (fun cdv A outer s H vs Q E hr h => ?_)
    · obtain ⟨a, b, c, rfl, _⟩ := h; rfl
    · obtain ⟨size, most, ds, rfl, hd, k⟩ := h
      cases hd
  | n + 1 => by
    have G := ok_splits n
    refine mk_ok T.f_law_splits sc_law_splits (fun vs H Q E h => ?_) (fun cdv A outer s H vs Q E hr h => ?_)
    · obtain ⟨a, b, c, rfl, _⟩ := h; rfl
    · obtain ⟨size, most, ds, rfl, hd, k⟩ := h
      have hu := hu_of hr
      have nd := sc_law_splits.nd
      refine ⟨_, pss_cons (ps_if (pt_cmpR op_eq (pv 0) pe_int (nomark _)) (pss_one (ps_ret (pe_lst (pa_cons pe_dnewK pa_nil)))) pss_nil)
        (pss_cons (ps_set (i := 2) nd rfl (Or.inl rfl) (pe_lst pa_nil))
        (pss_cons (ps_for PassesOwn.never (by rfl) (pi_range2 (by rfl) T.z_range (pa_cons pe_int (pa_cons (pe_op op_add (pe_callB (call_min2 (by rfl)) (by rfl) T.z_min (by decide +kernel) (pa_cons (pv 0) (pa_cons (pe_callTy call_int1 (by rfl) T.z_int (by decide +kernel) (pa_cons (pv 1) pa_nil)) pa_nil))) pe_int) pa_nil))) (pg_name (i := 3) nd rfl (Or.inl rfl))
          (pss_one (ps_for PassesOwn.never (by rfl) (pi_list (pe_f G hr (by omega) (by rfl) T.m_law_splits (pa_cons (pe_op op_sub (pv 0) (pv 3)) (pa_cons (pv 3) pa_nil)))) (pg_name (i := 4) nd rfl (Or.inl rfl))
            (pss_cons (ps_set (i := 5) nd rfl (Or.inl rfl) (pe_callTy call_dictD (by rfl) T.z_dict (by decide +kernel) (pa_cons (pv 4) pa_nil)))
            (pss_cons (ps_dput hu (pv 5) (pv 3) (pe_op op_add (pe_dget2 hu (pv 5) (pv 3) pe_int ⟨rfl, rfl, rfl, rfl⟩) pe_int) rfl)
            (pss_one (ps_expr (pe_bm PySem.F.plainAttrs_list PySem.F.slot_list_append PySem.F.type_list_append mt_append (pv 2) (pa_cons (pv 5) pa_nil)))))))))
        (pss_one (ps_ret (pv 2))))), ?_⟩
      have hd : (if size = 0 then some [[]] else if (inR size 0 300 && inR most 0 300) = true then itN (spTurn (splitsF n) size) [] (minI size most + 1 - 1).toNat else none) = some ds := hd
      refine ⟨_, rfl, rfl, _, rfl, ?_⟩
      by_cases h0 : size = 0
      · rw [if_pos h0] at hd
        cases hd
        refine ifT (decide_eq_true (congrArg V.int h0)) ?_
        intro q nq
        refine ⟨by show 1 ≤ sizeLine; decide, fun p np => ?_⟩
        have nqp : q ≠ p := by intro z; subst z; rw [upd_same] at np; cases np
        have np' : H p = none := by rw [upd_ne (Ne.symm nqp)] at np; exact np
        exact k p _ ((Same.nw nq).trans (Same.nw np)) np' ⟨[q], upd_same, .cons (upd_at upd_same nqp) .nil⟩
      · rw [if_neg h0] at hd
        split at hd
        · rename_i hg
          obtain ⟨g1, g2⟩ := two hg
          have a1 := of_decide_eq_true (two g1).1
          have a2 := of_decide_eq_true (two g1).2
          have a3 := of_decide_eq_true (two g2).1
          have a4 := of_decide_eq_true (two g2).2
          refine ifF (decide_eq_false fun z => h0 (V.int.inj z)) ?_
          refine ⟨by show 0 ≤ sizeLine; decide, fun F nF => ?_⟩
          refine ⟨_, rfl, _, rfl, .inl ⟨most, rfl, size, most, rfl, _, _, rfl, rfl, 1, minI size most + 1, rfl, ⟨by decide, by decide, by unfold minI; split <;> omega, by unfold minI; split <;> omega⟩, ?_⟩⟩
          refine for_range (lo := 1) (n := (minI size most + 1 - 1).toNat) (fun i σ H' => ∃ x3 x4 x5 acc as, σ = [some (.int size), some (.int most), some (.ref F), x3, x4, x5] ∧ itN (spTurn (splitsF n) size) [] i = some acc ∧ Same H H' ∧ H' F = some (.lst (as.map V.ref)) ∧ Dcts H' as acc ∧ ∀ x ∈ as, x ≠ F) ?_ ?_ ?_
          · exact ⟨_, _, _, [], [], rfl, rfl, Same.nw nF, upd_same, .nil, fun x hx => nomatch hx⟩
          · rintro i σ H' hi ⟨x3, x4, x5, acc, as, rfl, it, e, hF, hda, hne⟩
            obtain ⟨acc', u1, u2⟩ := itN_turn hd hi it
            obtain ⟨rs, w1, u1⟩ := Option.bind_eq_some_iff.mp u1
            split at u1
            · rename_i hc
              cases u1
              obtain ⟨c1, c2⟩ := two hc
              have c1 := of_decide_eq_true c1
              have ll := Paired.length hda
              refine ⟨_, rfl, _, rfl, _, _, rfl, rfl, _, rfl, size - (1 + (i : Int)), 1 + (i : Int), rs, rfl, w1, fun q H1 e1 nq hq => ?_⟩
              obtain ⟨qs, q1, q2⟩ := hq
              have nqF : q ≠ F := Ne.symm (ne_of_none hF nq)
              have lq := Paired.length q2
              refine ⟨q, rfl, ⟨_, SqL.of q1⟩, ?_⟩
              refine for_list (xs := qs.map V.ref) (fun j σ H2 => ∃ x4 x5 bs, σ = [some (.int size), some (.int most), some (.ref F), some (.int (1 + (i : Int))), x4, x5] ∧ But F H1 H2 ∧ H2 F = some (.lst (bs.map V.ref)) ∧ Dcts H2 bs (acc ++ (rs.take j).map (grow (1 + (i : Int)))) ∧ ∀ x ∈ bs, x ≠ F) ?_ ?_ ?_ ?_
              · refine ⟨_, _, as, rfl, fun _ _ z _ => z, e1 _ _ hF, ?_, hne⟩
                rw [List.take_zero, List.map_nil, List.append_nil]
                exact Dcts.mono hda e1
              · rintro j σ H2 _ ⟨x4, x5, bs, rfl, f, _⟩
                exact SqL.of (f _ _ q1 nqF)
              · rintro j x σ H2 hj ⟨x4, x5, bs, rfl, f, hF2, hdb, hnb⟩
                rw [List.getElem?_map] at hj
                obtain ⟨t, ht, rfl⟩ := Option.map_eq_some_iff.mp hj
                obtain ⟨r, hr', hrd⟩ := Dcts.at_ q2 ht
                have hjl := (List.getElem?_eq_some_iff.mp hr').1
                have lb := Paired.length hdb
                have ntF : t ≠ F := ne_of hrd (e1 _ _ hF) (by intro z; cases z)
                have rl := of_decide_eq_true (List.all_eq_true.mp c2 r (List.mem_of_getElem? hr'))
                refine ⟨_, rfl, t, _, rfl, .inl (f _ _ hrd ntF), fun d5 nd5 => ?_⟩
                have n5F : d5 ≠ F := Ne.symm (ne_of_none hF2 nd5)
                have g5 := DGet.r (k := 1 + (i : Int)) (.inl (upd_same (H := H2) (a := d5) (o := .dK (dI r))))
                refine ⟨_, rfl, d5, rfl, .inl ⟨_, .inl upd_same⟩, _, rfl, _, g5, ?_⟩
                rw [getD_int]
                refine ⟨_, _, rfl, rfl, _, rfl, _, rfl, d5, _, rfl, DPut.r upd_same (by omega), ?_⟩
                rw [upd_upd]
                have eN : Same H2 (upd H2 d5 (.dK (dI (grow (1 + (i : Int)) r)))) := Same.nw nd5
                refine ⟨_, rfl, .inl ⟨rfl, _, SqL.of (eN _ _ hF2)⟩, _, rfl, F, _, _, rfl, rfl, eN _ _ hF2, ?_, ?_⟩
                · rw [List.length_map, lb, List.length_append, List.length_map, List.length_take]
                  exact Nat.lt_of_le_of_lt (show _ ≤ 10000 by omega) (by decide)
                · refine ⟨_, _, bs ++ [d5], rfl, fun x o hx nx => ?_, ?_, ?_, all_snoc hnb n5F⟩
                  · rw [upd_ne nx]
                    exact eN _ _ (f _ _ hx nx)
                  · rw [List.map_append]
                    exact upd_same
                  · rw [map_take_turn (grow (1 + (i : Int))) hr', ← List.append_assoc]
                    refine Paired.snoc ?_ (upd_at upd_same n5F)
                    exact Dcts.frame hdb hnb fun x o hx nx => by rw [upd_ne nx]; exact eN _ _ hx
              · rintro σ H2 ⟨x4, x5, bs, rfl, f, hF2, hdb, hnb⟩
                rw [List.length_map, lq, List.take_length] at hdb
                exact ⟨_, _, _, _, bs, rfl, u2, fun x o hx => f _ _ (e1 _ _ (e _ _ hx)) (ne_of_none hx nF), hF2, hdb, hnb⟩
            · cases u1
          · rintro σ H' ⟨x3, x4, x5, acc, as, rfl, it, e, hF, hda, hne⟩
            have ea : acc = ds := Option.some.inj (it.symm.trans hd)
            subst ea
            exact ⟨_, rfl, k F H' e nF ⟨as, hF, hda⟩⟩
        · cases hd
abbrev sp_shapes (K : PySem.W.Frag) : Sp := fun vs H Q _ => ∃ (size : Int) (ss : List Sh), vs = [.int size] ∧ (0 ≤ size ∧ size ≤ 300) ∧ shapesL size = some ss ∧ ∀ p H', Same H H' → H p = none → LShps K H' p ss → Q (.ref p) H'
theorem ok_law_shapes : Ok P w K mg base 12 d_law_shapes ["_law_size"] (sp_shapes K) := by
  refine mk_ok T.f_law_shapes sc_law_shapes (fun vs H Q E h => ?_) (fun cdv A outer s H vs Q E hr h => ?_)
  · obtain ⟨a, b, rfl, _⟩ := h; rfl
  · obtain ⟨size, ss, rfl, ⟨z0, z1⟩, hss, k⟩ := h
    have nd := sc_law_shapes.nd
    refine ⟨_, pss_cons (ps_set (i := 1) nd rfl (Or.inl rfl) (pe_lst pa_nil))
      (pss_cons (ps_for PassesOwn.never (by rfl) (pi_range1 (by rfl) T.z_range (pa_cons (pe_op op_add (pv 0) pe_int) pa_nil)) (pg_name (i := 2) nd rfl (Or.inl rfl))
        (pss_one (ps_for PassesOwn.never (by rfl) (pi_list (pe_f (ok_splits T 10) hr (by decide) (by rfl) T.m_law_splits (pa_cons (pv 2) (pa_cons (pv 2) pa_nil)))) (pg_name (i := 3) nd rfl (Or.inr rfl))
          (pss_one (ps_set (i := 1) nd rfl (Or.inl rfl) (pe_op op_cat (pv 1) (pe_lc (own := [("_law_chains", 4)]) (by rfl) nd (pi_list (pe_f (ok_splits T 10) hr (by decide) (by rfl) T.m_law_splits (pa_cons (pe_op op_sub (pv 0) (pv 2)) (pa_cons (pe_op op_sub (pv 0) (pv 2)) pa_nil))))
            (blkOk_by (N := N_law_shapes) (sc := defScope s_law_shapes) (by decide +kernel)) (fun _ _ _ _ _ => pg_name (i := 4) nd rfl (Or.inl rfl)) (fun _ _ _ _ _ => pts_nil)
            (fun _ _ _ _ _ => pe_m (ok_Shape_init T) hr (by decide) T.mk_Shape rfl (by rfl) T.m_Shape (pa_cons (pv 3) (pa_cons (pv 4) pa_nil))))))))))
      (pss_one (ps_ret (pv 1)))), ?_⟩
    refine ⟨by show 0 ≤ sizeLine; decide, fun F0 nF0 => ?_⟩
    refine ⟨_, rfl, _, _, rfl, rfl, size + 1, rfl, by omega, by omega, ?_⟩
    refine for_rng (n := (size + 1).toNat) (fun i σ H' => ∃ F x2 x3 x4 acc, σ = [some (.int size), some (.ref F), x2, x3, x4] ∧ itN (shOut size) [] i = some acc ∧ Same H H' ∧ H F = none ∧ LShps K H' F acc) ?_ ?_ ?_
    · exact ⟨F0, _, _, _, [], rfl, rfl, Same.nw nF0, nF0, [], upd_same, .nil⟩
    · rintro i σ H' hi ⟨F, x2, x3, x4, acc, rfl, it, e, nF, hL⟩
      obtain ⟨acc', u1, u2⟩ := itN_turn hss hi it
      obtain ⟨cs, w1, w2⟩ := Option.bind_eq_some_iff.mp u1
      refine ⟨_, rfl, _, rfl, (i : Int), (i : Int), cs, rfl, w1, fun q H1 e1 nq hq => ?_⟩
      obtain ⟨qs, q1, q2⟩ := hq
      have lq := Paired.length q2
      refine ⟨q, rfl, ⟨_, SqL.of q1⟩, ?_⟩
      refine for_list (xs := qs.map V.ref) (fun j σ H2 => ∃ F x3 x4 acc2, σ = [some (.int size), some (.ref F), some (.int (i : Int)), x3, x4] ∧ itL (shIn size (i : Int)) cs acc j = some acc2 ∧ Same H1 H2 ∧ H F = none ∧ LShps K H2 F acc2) ?_ ?_ ?_ ?_
      · obtain ⟨as, l1, l2⟩ := hL
        exact ⟨F, _, _, acc, rfl, rfl, fun _ _ z => z, nF, as, e1 _ _ l1, Shps.mono l2 e1⟩
      · rintro j σ H2 _ ⟨F, x3, x4, acc2, rfl, _, e2, _⟩
        exact SqL.of (e2 _ _ q1)
      · rintro j x σ H2 hj ⟨F, x3, x4, acc2, rfl, it2, e2, nF2, as, l1, l2⟩
        rw [List.getElem?_map] at hj
        obtain ⟨t, ht, rfl⟩ := Option.map_eq_some_iff.mp hj
        obtain ⟨c, hc, hcd⟩ := Dcts.at_ q2 ht
        obtain ⟨acc3, v1, v2⟩ := itL_turn w2 (List.getElem?_eq_some_iff.mp hc).1 it2 hc
        obtain ⟨ds, y1, y2⟩ := Option.bind_eq_some_iff.mp v1
        split at y2
        · rename_i hg
          cases y2
          obtain ⟨g1, g2⟩ := two hg
          obtain ⟨g2, g3⟩ := two g2
          have g2 := of_decide_eq_true g2
          have la := Paired.length l2
          refine ⟨_, rfl, _, rfl, _, rfl, _, _, rfl, rfl, _, rfl, _, rfl, _, _, rfl, rfl, size - (i : Int), size - (i : Int), ds, rfl, y1, fun u H3 e3 nu hu => ?_⟩
          obtain ⟨us, p1, p2⟩ := hu
          have lu := Paired.length p2
          refine ⟨u, rfl, ⟨_, SqL.of p1⟩, fun D hD => ?_⟩
          refine comp_lst (xs := us.map V.ref) (fun m H4 => Same H3 H4 ∧ ∃ bs : List Addr, H4 D = some (.lst (bs.map V.ref)) ∧ Shps K H4 bs ((ds.take m).map fun d => ⟨c, d⟩)) ⟨Same.nw hD, [], upd_same, .nil⟩ (fun m H4 _ p => SqL.of (p.1 _ _ p1)) ?_ ?_
          · rintro m x H4 hm ⟨e4, bs, b1, b2⟩
            rw [List.getElem?_map] at hm
            obtain ⟨v, hv, rfl⟩ := Option.map_eq_some_iff.mp hm
            obtain ⟨d, hd, hdd⟩ := Dcts.at_ p2 hv
            have lb := Paired.length b2
            have okd := List.all_eq_true.mp g3 d (List.mem_of_getElem? hd)
            refine ⟨rfl, _, rfl, _, rfl, ?_⟩
            refine shape_made (K := K) (s := ⟨c, d⟩) (Q := fun y H5 => ∃ acc, H5 D = some (.lst acc) ∧ acc.length < sizeLine ∧ (Same H3 (upd H5 D (.lst (acc ++ [y]))) ∧ ∃ bs : List Addr, (upd H5 D (.lst (acc ++ [y]))) D = some (.lst (bs.map V.ref)) ∧ Shps K (upd H5 D (.lst (acc ++ [y]))) bs ((ds.take (m + 1)).map fun d => ⟨c, d⟩))) (e4 _ _ (e3 _ _ (e2 _ _ hcd))) (e4 _ _ hdd) ⟨g1, okd⟩ fun p H5 e5 np S => ?_
            refine ⟨_, e5 _ _ b1, ?_, Same.mu (e4.trans e5) hD, bs ++ [p], ?_, ?_⟩
            · rw [List.length_map, lb, List.length_map, List.length_take]
              exact Nat.lt_of_le_of_lt (show _ ≤ 10000 by omega) (by decide)
            · rw [List.map_append]
              exact upd_same
            · rw [map_take_turn (fun d => (⟨c, d⟩ : Sh)) hd]
              exact Paired.snoc (Paired.mapP (Shps.mono b2 e5) fun a s z => ShAt.upd z (e5 _ _ b1)) (ShAt.upd S (e5 _ _ b1))
          · rintro H4 ⟨e4, bs, b1, b2⟩
            rw [List.length_map, lu, List.take_length] at b2
            have lb := Paired.length b2
            rw [List.length_map] at lb
            refine ⟨F, D, _, _, rfl, rfl, e4 _ _ (e3 _ _ l1), b1, ?_, fun F2 nF3 => ?_⟩
            · rw [List.length_map, List.length_map, la, lb]
              exact Nat.le_trans g2 (by decide)
            · have eN := Same.nw nF3 (o := .lst (as.map V.ref ++ bs.map V.ref))
              have eT := (e2.trans (e3.trans e4))
              refine ⟨F2, _, _, _, rfl, v2, eT.trans eN, e.free (e1.free (eT.free nF3)), as ++ bs, ?_, ?_⟩
              · rw [List.map_append]
                exact upd_same
              · exact Paired.app (Shps.mono l2 (e3.trans (e4.trans eN))) (Shps.mono b2 eN)
        · cases y2
      · rintro σ H2 ⟨F, x3, x4, acc2, rfl, it2, e2, nF2, hL2⟩
        rw [List.length_map, lq] at it2
        have ea : acc2 = acc' := Option.some.inj (it2.symm.trans w2)
        subst ea
        exact ⟨F, _, _, _, acc2, rfl, u2, e.trans (e1.trans e2), nF2, hL2⟩
    · rintro σ H' ⟨F, x2, x3, x4, acc, rfl, it, e, nF, hL⟩
      have ea : acc = ss := Option.some.inj (it.symm.trans hss)
      subst ea
      exact ⟨_, rfl, k F H' e nF hL⟩
end
end Ck
set_option maxHeartbeats 4000000
/-! _law_known -/
namespace Ck
open PySem PySem.Spec PyProof.Rows L2
def oddF : Nat → Int
  | 0 => 1
  | i + 1 => oddF i * (1 + (i : Int) * 2)
/-- the closed facts that _law_known asks -/
structure Known : Prop where
  prs : ∃ pl, pairsL = some pl ∧ ∀ n : Int, n ∈ [2, 9, 17, 40] → ∃ v, atI pl n = some v ∧ countRoots (mkMp n (idG n.toNat)) 2 = some v ∧ arrowsOk n (idG n.toNat) = true
  rws : ∀ d : Int, d ∈ [2, 3, 7, 10 ^ 30] → ∃ rl, rows d = some rl ∧ ∀ n : Int, n ∈ [2, 9, 17, 40] → ∃ v, atI rl n = some v ∧ countRoots (mkMp n []) d = some v
  two20 : ∃ m, mapOf ⟨[(2, 20)], []⟩ = some m ∧ countRoots m 2 = some (oddF 10 * 1024)
  two19 : ∃ m, mapOf ⟨[(2, 19)], []⟩ = some m ∧ countRoots m 2 = some 0
theorem shape_mk {K : PySem.W.Frag} {H : Hp} {c d : Addr} {s : Sh} {B : Addr → Hp → Prop} (hc : H c = some (.dK (dI s.cyc))) (hd : H d = some (.dK (dI s.chn))) (h : okC s.cyc = true ∧ okC s.chn = true) (k : ∀ p H', Same H H' → H p = none → ShAt K H' p s → B p H') :
    ∀ x dx, H x = none → H dx = none → dx ≠ x → sp_Shape_init K ([.ref x] ++ ([.ref c, .ref d] ++ [])) (upd (upd H dx (.own x)) x (.ins (He.ga K "Shape") dx [])) (fun v H2 => v = .non ∧ B x H2) E0 := by
  intro x dx hx hdx ne
  refine ⟨x, dx, c, d, s, rfl, upd_same, ?_, ?_, h, fun H' e M => ⟨rfl, k x H' (Same.made hx hdx e) hx M⟩⟩
  · rw [upd_ne (ne_of_none hc hx), upd_ne (ne_of_none hc hdx)]
    exact hc
  · rw [upd_ne (ne_of_none hd hx), upd_ne (ne_of_none hd hdx)]
    exact hd
theorem sizes_small {n : Int} (h : n ∈ [2, 9, 17, 40]) : 2 ≤ n ∧ n ≤ 40 := by
  simp only [List.mem_cons, List.not_mem_nil, or_false] at h
  omega
section
variable {P : Program} {w : World} {K : PySem.W.Frag} {mg : Str → Option Value} {base : Heap} (T : Tx K mg)
include T
abbrev sp_known : Sp := fun vs H Q _ => vs = [] ∧ ∀ H', Same H H' → Q (.bl true) H'
theorem ok_law_known (KF : Known) : Ok P w K mg base 124 d_law_known [] sp_known := by
  refine mk_ok T.f_law_known sc_law_known (fun vs H Q E h => ?_) (fun cdv A outer s H vs Q E hr h => ?_)
  · obtain ⟨rfl, _⟩ := h; rfl
  · obtain ⟨rfl, k⟩ := h
    have nd := sc_law_known.nd
    obtain ⟨pl, hpl, hpf⟩ := KF.prs
    refine ⟨_, pss_cons (ps_set (i := 0) nd rfl (Or.inl rfl) (pe_lst (pa_cons pe_int (pa_cons pe_int pa_nil))))
      (pss_cons (ps_for PassesOwn.never (by rfl) (pi_range2 (by rfl) T.z_range (pa_cons pe_int (pa_cons pe_int pa_nil))) (pg_name (i := 1) nd rfl (Or.inl rfl))
        (pss_one (ps_expr (pe_bm PySem.F.plainAttrs_list PySem.F.slot_list_append PySem.F.type_list_append mt_append (pv 0) (pa_cons (pe_op op_add (pe_ix ix_list (pv 0) (pe_un un_neg pe_int) (fun _ _ => rfl))
          (pe_op op_mul (pe_op op_sub (pv 1) pe_int) (pe_ix ix_list (pv 0) (pe_un un_neg pe_int) (fun _ _ => rfl)))) pa_nil)))))
      (pss_cons (ps_for PassesOwn.never (by rfl) (pi_list (pe_lst (pa_cons pe_int (pa_cons pe_int (pa_cons pe_int (pa_cons pe_int pa_nil)))))) (pg_name (i := 1) nd rfl (Or.inl rfl))
        (pss_cons (ps_if (pt_cmpR op_ne (pe_f (ok_count_roots T) hr (by decide) (by rfl) T.m_count_roots (pa_cons (pe_cm (ok_Map_identity T) hr (by decide) T.cr_Map T.cm_Map_identity (pe_glob (v := .ref (He.ga K "Map")) (by rfl) T.m_Map rfl) (pa_cons (pv 1) pa_nil)) (pa_cons pe_int pa_nil)))
          (pe_ix ix_list (pv 0) (pv 1) (fun _ _ => rfl)) (nomark _)) pss_never pss_nil)
        (pss_one (ps_for PassesOwn.never (by rfl) (pi_list (pe_lst (pa_cons pe_int (pa_cons pe_int (pa_cons pe_int (pa_cons (pe_op op_pow pe_int pe_int) pa_nil)))))) (pg_name (i := 2) nd rfl (Or.inl rfl))
          (pss_one (ps_if (pt_cmpR op_ne (pe_f (ok_count_roots T) hr (by decide) (by rfl) T.m_count_roots (pa_cons (pe_cm (ok_Map_empty T) hr (by decide) T.cr_Map T.cm_Map_empty (pe_glob (v := .ref (He.ga K "Map")) (by rfl) T.m_Map rfl) (pa_cons (pv 1) pa_nil)) (pa_cons (pv 2) pa_nil)))
            (pe_ix ix_list (pe_f (ok_law_rows T) hr (by decide) (by rfl) T.m_law_rows (pa_cons (pv 2) pa_nil)) (pv 1) (fun _ _ => rfl)) (nomark _)) pss_never pss_nil))))))
      (pss_cons (ps_set (i := 3) nd rfl (Or.inl rfl) pe_int)
      (pss_cons (ps_for PassesOwn.never (by rfl) (pi_range3 (by rfl) T.z_range (pa_cons pe_int (pa_cons pe_int (pa_cons pe_int pa_nil)))) (pg_name (i := 4) nd rfl (Or.inl rfl))
        (pss_one (ps_set (i := 3) nd rfl (Or.inl rfl) (pe_op op_mul (pv 3) (pv 4)))))
      (pss_cons (ps_if (pt_cmpR op_ne (pe_f (ok_count_roots T) hr (by decide) (by rfl) T.m_count_roots (pa_cons (pe_f (ok_map_of T) hr (by decide) (by rfl) T.m_map_of (pa_cons
          (pe_m (ok_Shape_init T) hr (by decide) T.mk_Shape rfl (by rfl) T.m_Shape (pa_cons (pe_disp (pps_cons pe_int pe_int pps_nil) (by rfl) (by rfl) (fun z => by cases z) (by decide)) (pa_cons pe_dnewK pa_nil))) pa_nil)) (pa_cons pe_int pa_nil))) (pe_op op_mul (pv 3) pe_int) (nomark _)) pss_never pss_nil)
      (pss_one (ps_ret (pe_cmpR op_eq (pe_f (ok_count_roots T) hr (by decide) (by rfl) T.m_count_roots (pa_cons (pe_f (ok_map_of T) hr (by decide) (by rfl) T.m_map_of (pa_cons
          (pe_m (ok_Shape_init T) hr (by decide) T.mk_Shape rfl (by rfl) T.m_Shape (pa_cons (pe_disp (pps_cons pe_int pe_int pps_nil) (by rfl) (by rfl) (fun z => by cases z) (by decide)) (pa_cons pe_dnewK pa_nil))) pa_nil)) (pa_cons pe_int pa_nil))) pe_int (nomark _))))))))), ?_⟩
    -- pairs
    refine ⟨by show 2 ≤ sizeLine; decide, fun L nL => ?_⟩
    refine ⟨2, 41, rfl, ⟨by decide, by decide, by decide, by decide⟩, ?_⟩
    refine for_range (lo := 2) (n := ((41 : Int) - 2).toNat) (fun i σ H' => ∃ x y z u l, σ = [some (.ref L), x, y, z, u] ∧ itN prTurn [1, 1] i = some l ∧ l.length ≤ i + 2 ∧ Same H H' ∧ H' L = some (.lst (l.map V.int))) ⟨_, _, _, _, [1, 1], rfl, rfl, Nat.le_refl _, Same.nw nL, upd_same⟩ ?_ ?_
    · rintro i σ H' hi ⟨x, y, z, u, l, rfl, it, hz, e, hL⟩
      have hi : i < 39 := hi
      obtain ⟨l', u1, u2⟩ := itN_turn hpl hi it
      obtain ⟨a, w1, u1⟩ := Option.bind_eq_some_iff.mp u1
      obtain ⟨b, w2, u1⟩ := Option.bind_eq_some_iff.mp u1
      cases u1
      refine ⟨_, rfl, .inl ⟨rfl, _, SqL.of hL⟩, _, rfl, 1, rfl, L, _, -1, _, rfl, rfl, SqL.of hL, atI_map w1, _, rfl, _, _, rfl, rfl, ?_⟩
      refine ⟨_, rfl, 2, rfl, L, _, -2, _, rfl, rfl, SqL.of hL, atI_map w2, _, _, rfl, rfl, cmulL (by omega), _, _, rfl, rfl, L, _, _, rfl, rfl, hL, ?_, ?_⟩
      · rw [List.length_map]
        exact Nat.lt_of_le_of_lt (show _ ≤ 41 by omega) (by decide)
      · refine ⟨_, _, _, _, _, rfl, u2, by rw [List.length_append]; show l.length + 1 ≤ _; omega, Same.mu e nL, ?_⟩
        rw [List.map_append]
        exact upd_same
    rintro σ H1 ⟨x, y, z, u, l, rfl, it, _, e1, hL⟩
    have el : l = pl := Option.some.inj (it.symm.trans hpl)
    subst el
    -- for size in [2, 9, 17, 40]
    refine ⟨by show 4 ≤ sizeLine; decide, fun S nS => ?_⟩
    generalize hG : upd H1 S (.lst [.int 2, .int 9, .int 17, .int 40]) = G
    have eG : Same H1 G := by rw [← hG]; exact Same.nw nS
    have gS : G S = some (.lst (([2, 9, 17, 40] : List Int).map V.int)) := by rw [← hG]; exact upd_same
    refine ⟨S, rfl, ⟨_, SqL.of gS⟩, ?_⟩
    refine for_list (xs := ([2, 9, 17, 40] : List Int).map V.int) (fun i σ H' => ∃ y z u v, σ = [some (.ref L), y, z, u, v] ∧ Same G H') ⟨_, _, _, _, rfl, fun _ _ h => h⟩ (fun i σ H' _ p => by
      obtain ⟨_, _, _, _, _, e⟩ := p
      exact SqL.of (e _ _ gS)) ?_ ?_
    · rintro i x σ H' hi ⟨y, z, u, v, rfl, e⟩
      rw [List.getElem?_map] at hi
      obtain ⟨n, hn, rfl⟩ := Option.map_eq_some_iff.mp hi
      have hmem := List.mem_of_getElem? hn
      have hsm := sizes_small hmem
      obtain ⟨v1, f1, f2, f3⟩ := hpf n hmem
      have hL' := e _ _ (eG _ _ hL)
      refine ⟨rfl, _, rfl, n, rfl, ⟨⟨by omega, by omega⟩, f3⟩, fun p H2 e2 np M => ?_⟩
      refine ⟨p, _, 2, v1, rfl, M, f2, fun H3 e3 => ?_⟩
      have e23 := e2.trans e3
      refine ⟨_, rfl, _, rfl, L, _, _, _, rfl, rfl, SqL.of (e23 _ _ hL'), atI_map f1, rfl, _, rfl, ifF (not_t (decide_eq_true rfl)) ?_⟩
      -- for degree in [2, 3, 7, 10 ** 30]
      refine ⟨_, _, rfl, rfl, ⟨by decide, by decide, by decide⟩, by show 4 ≤ sizeLine; decide, fun R nR => ?_⟩
      generalize hG2 : upd H3 R _ = G2
      have eG2 : Same H3 G2 := by rw [← hG2]; exact Same.nw nR
      have gR : G2 R = some (.lst (([2, 3, 7, 10 ^ 30] : List Int).map V.int)) := by rw [← hG2]; exact upd_same
      refine ⟨R, rfl, ⟨_, SqL.of gR⟩, ?_⟩
      refine for_list (xs := ([2, 3, 7, 10 ^ 30] : List Int).map V.int) (fun j σ H4 => ∃ z u v, σ = [some (.ref L), some (.int n), z, u, v] ∧ Same G2 H4) ⟨_, _, _, rfl, fun _ _ h => h⟩ (fun j σ H4 _ p => by
        obtain ⟨_, _, _, _, e⟩ := p
        exact SqL.of (e _ _ gR)) ?_ ?_
      · rintro j x σ H4 hj ⟨z, u, v, rfl, e4⟩
        rw [List.getElem?_map] at hj
        obtain ⟨d, hd, rfl⟩ := Option.map_eq_some_iff.mp hj
        obtain ⟨rl, r1, r2⟩ := KF.rws d (List.mem_of_getElem? hd)
        obtain ⟨v2, q1, q2⟩ := r2 n hmem
        refine ⟨rfl, _, rfl, n, rfl, ⟨by omega, by omega⟩, fun p2 H5 e5 np2 M2 => ?_⟩
        refine ⟨_, rfl, p2, _, d, v2, rfl, M2, q2, fun H6 e6 => ?_⟩
        refine ⟨_, rfl, d, rl, rfl, r1, fun p3 H7 e7 np3 h3 => ?_⟩
        refine ⟨_, rfl, p3, _, _, _, rfl, rfl, SqL.of h3, atI_map q1, rfl, _, rfl, ifF (not_t (decide_eq_true rfl)) ?_⟩
        exact ⟨_, _, _, rfl, e4.trans (e5.trans (e6.trans e7))⟩
      · rintro σ H4 ⟨z, u, v, rfl, e4⟩
        exact ⟨_, _, _, _, rfl, e.trans (e2.trans (e3.trans (eG2.trans e4)))⟩
    rintro σ H2 ⟨y, z, u, v, rfl, e2⟩
    -- odd
    have e12 : Same H H2 := e1.trans (eG.trans e2)
    refine ⟨1, 20, 2, 10, rfl, ⟨by decide, by decide, by decide, by decide⟩, ?_⟩
    refine for_rangeC (lo := 1) (c := 2) (n := 10) (fun i σ H' => ∃ y z v, σ = [some (.ref L), y, z, some (.int (oddF i)), v] ∧ H' = H2) ⟨_, _, _, rfl, rfl⟩ ?_ ?_
    · rintro i σ H' hi ⟨y, z, v, rfl, rfl⟩
      exact ⟨_, rfl, _, rfl, _, _, rfl, rfl, cmulR (by omega), _, _, _, rfl, rfl⟩
    rintro σ H' ⟨y, z, v, rfl, rfl⟩
    obtain ⟨m20, a1, a2⟩ := KF.two20
    obtain ⟨m19, b1, b2⟩ := KF.two19
    intro p np
    refine ⟨upd_same, [(Sum.inl 2, .int 20)], rfl, by decide, fun q nq => ?_⟩
    have npq : p ≠ q := by intro w; subst w; rw [upd_same] at nq; cases nq
    generalize hA : upd (upd (upd H' p (.dK [])) p (.dK (mergeK [] [(Sum.inl 2, .int 20)]))) q (.dK []) = A1
    have nq' : H' q = none := by rw [upd_ne (Ne.symm npq), upd_ne (Ne.symm npq)] at nq; exact nq
    have eA : Same H' A1 := by rw [← hA, upd_upd]; exact Same.mu (Same.nw np) nq'
    have gp : A1 p = some (.dK (dI [(2, 20)])) := by rw [← hA]; exact upd_at upd_same npq
    have gq : A1 q = some (.dK (dI [])) := by rw [← hA]; exact upd_same
    refine shape_mk (K := K) (s := ⟨[(2, 20)], []⟩) gp gq ⟨by decide, by decide⟩ fun sp A2 eA2 nsp S20 => ?_
    refine ⟨sp, _, m20, rfl, S20, a1, fun mp A3 eA3 nmp M20 => ?_⟩
    refine ⟨mp, m20, 2, _, rfl, M20, a2, fun A4 eA4 => ?_⟩
    refine ⟨_, rfl, _, _, rfl, rfl, .inr (by decide), rfl, _, rfl, ifF (not_t (decide_eq_true rfl)) ?_⟩
    have eZ : Same H' A4 := eA.trans (eA2.trans (eA3.trans eA4))
    intro p' np'
    refine ⟨upd_same, [(Sum.inl 2, .int 19)], rfl, by decide, fun q' nq' => ?_⟩
    have npq' : p' ≠ q' := by intro w; subst w; rw [upd_same] at nq'; cases nq'
    generalize hB : upd (upd (upd A4 p' (.dK [])) p' (.dK (mergeK [] [(Sum.inl 2, .int 19)]))) q' (.dK []) = B1
    have nq'' : A4 q' = none := by rw [upd_ne (Ne.symm npq'), upd_ne (Ne.symm npq')] at nq'; exact nq'
    have eB : Same A4 B1 := by rw [← hB, upd_upd]; exact Same.mu (Same.nw np') nq''
    have hp' : B1 p' = some (.dK (dI [(2, 19)])) := by rw [← hB]; exact upd_at upd_same npq'
    have hq' : B1 q' = some (.dK (dI [])) := by rw [← hB]; exact upd_same
    refine shape_mk (K := K) (s := ⟨[(2, 19)], []⟩) hp' hq' ⟨by decide, by decide⟩ fun sp2 B2 eB2 nsp2 S19 => ?_
    refine ⟨sp2, _, m19, rfl, S19, b1, fun mp2 B3 eB3 nmp2 M19 => ?_⟩
    exact ⟨mp2, m19, 2, _, rfl, M19, b2, fun B4 eB4 => ⟨rfl, k B4 (e12.trans (eZ.trans (eB.trans (eB2.trans (eB3.trans eB4)))))⟩⟩
end
end Ck
set_option maxHeartbeats 4000000
/-! the law -/
namespace Ck
open PySem PySem.Spec PyProof.Rows L2
def degs : List Int := [1, 2, 3, 4, 5, 6, 8, 12, 10 ^ 30]
/-- the closed facts that the law's turns ask -/
def Turns : Prop := ∀ size deg : Int, 1 ≤ size → size ≤ 8 → deg ∈ degs → ∃ ss r t, shapesL size = some ss ∧ itL (lawShape deg size) ss (0, 0) ss.length = some r ∧ totOf size = some t ∧ r.1 = t.sum ∧ r.2 = t.sum
theorem degs_ok {d : Int} (h : d ∈ degs) : 1 ≤ d ∧ d ≤ 10 ^ 30 := by
  unfold degs at h
  simp only [List.mem_cons, List.not_mem_nil, or_false] at h
  omega
theorem mapOf_ok {s : Sh} {m : Mp} (h : mapOf s = some m) : okC s.cyc = true ∧ okC s.chn = true := by
  unfold mapOf at h
  split at h
  · rename_i hg
    exact ⟨(two hg).1, (two (two hg).2).1⟩
  · cases h
theorem Shps.at_ {K : PySem.W.Frag} {H : Hp} : ∀ {as : List Addr} {rs : List Sh} {i : Nat} {a : Addr}, Shps K H as rs → as[i]? = some a → ∃ r, rs[i]? = some r ∧ ShAt K H a r
  | _, _, i, a, .nil, h => by simp at h
  | _, _, 0, a, .cons z _, h => by cases (show _ = a by simpa using h); exact ⟨_, rfl, z⟩
  | _, _, i + 1, a, .cons _ t, h => by
    obtain ⟨r, h1, h2⟩ := Shps.at_ (i := i) t (by simpa using h)
    exact ⟨r, by simpa using h1, h2⟩
section
variable {P : Program} {w : World} {K : PySem.W.Frag} {mg : Str → Option Value} {base : Heap} (T : Tx K mg)
include T
def sp_law (K : PySem.W.Frag) : Sp := fun vs H Q _ => ∃ (a : Addr) (ns : List Int), vs = [.ref a] ∧ SqL K H a (ns.map V.int) ∧ ns.length ≤ 63 ∧ ∀ H', Q (.bl true) H'
theorem ok_law (KF : Known) (TF : Turns) {fd : FuncData} (F : Fun K d_law.nm d_law.ql d_law.st (d_law.pth.ad K) fd) : FnOk P w K mg base CX0 125 (d_law.pth.ad K) fd ["_law_script"] (sp_law K) := by
  refine F.ok sc_law (fun vs H Q E h => ?_) (fun cdv A outer s H vs Q E hr h => ?_)
  · obtain ⟨a, ns, rfl, _⟩ := h; rfl
  · obtain ⟨a, ns, rfl, ha, hz, k⟩ := h
    have nd := sc_law.nd
    refine ⟨_, pss_cons (ps_if (pt_not (pt_val (pe_f0 (ok_law_known T KF) hr (by decide) (by rfl) T.m_law_known))) pss_never pss_nil)
      (pss_cons (ps_for PassesOwn.never (by rfl) (pi_range1 (by rfl) T.z_range (pa_cons (pe_callB (call_max2 (by rfl)) (by rfl) T.z_max (by decide +kernel) (pa_cons pe_int (pa_cons (pe_callB (call_min2 (by rfl)) (by rfl) T.z_min (by decide +kernel) (pa_cons (pe_callB call_len_seq (by rfl) T.z_len PySem.boot_len (pa_cons (pv 0) pa_nil)) (pa_cons pe_int pa_nil))) pa_nil))) pa_nil)) (pg_name (i := 1) nd rfl (Or.inl rfl))
        (pss_cons (ps_set (i := 2) nd rfl (Or.inl rfl) (pe_f (ok_law_hand T) hr (by decide) (by rfl) T.m_law_hand (pa_cons (pv 0) (pa_cons (pv 1) pa_nil))))
        (pss_cons (ps_asg (pe_tup (pa_cons (pe_op op_add pe_int (pe_f (ok_law_draw T) hr (by decide) (by rfl) T.m_law_draw (pa_cons (pv 2) (pa_cons pe_int pa_nil)))) (pa_cons (pe_ix ix_list (pe_lst (pa_cons pe_int (pa_cons pe_int (pa_cons pe_int (pa_cons pe_int (pa_cons pe_int (pa_cons pe_int (pa_cons pe_int (pa_cons pe_int (pa_cons (pe_op op_pow pe_int pe_int) pa_nil))))))))))
            (pe_f (ok_law_draw T) hr (by decide) (by rfl) T.m_law_draw (pa_cons (pv 2) (pa_cons pe_int pa_nil))) (fun _ _ => rfl)) pa_nil))) (pg_tup (by rfl) (pgs_cons (pg_name (i := 3) nd rfl (Or.inr rfl)) (pgs_cons (pg_name (i := 4) nd rfl (Or.inl rfl)) pgs_nil))))
        (pss_cons (ps_set (i := 6) nd rfl (Or.inl rfl) (pe_callB (cr_sum (by rfl)) (by rfl) T.z_sum (by decide +kernel) (pa_cons (pe_lc (own := [("_law_number", 5)]) (by rfl) nd (pi_range1 (by rfl) T.z_range (pa_cons (pe_op op_add (pv 3) pe_int) pa_nil))
            (blkOk_by (N := N_law) (sc := defScope s_law) (by decide +kernel)) (fun _ _ _ _ _ => pg_name (i := 5) nd rfl (Or.inl rfl)) (fun _ _ _ _ _ => pts_nil)
            (fun _ _ _ _ _ => pe_f (ok_count_extensions T) hr (by decide) (by rfl) T.m_count_extensions (pa_cons (pe_cm (ok_Map_empty T) hr (by decide) T.cr_Map T.cm_Map_empty (pe_glob (v := .ref (He.ga K "Map")) (by rfl) T.m_Map rfl) (pa_cons (pv 3) pa_nil)) (pa_cons (pv 5) pa_nil)))) pa_nil)))
        (pss_cons (ps_asg (pe_tup (pa_cons pe_int (pa_cons pe_int pa_nil))) (pg_tup (by rfl) (pgs_cons (pg_name (i := 7) nd rfl (Or.inl rfl)) (pgs_cons (pg_name (i := 8) nd rfl (Or.inl rfl)) pgs_nil))))
        (pss_cons (ps_for PassesOwn.never (by rfl) (pi_list (pe_f (ok_law_shapes T) hr (by decide) (by rfl) T.m_law_shapes (pa_cons (pv 3) pa_nil))) (pg_name (i := 9) nd rfl (Or.inl rfl))
          (pss_cons (ps_set (i := 10) nd rfl (Or.inl rfl) (pe_f (ok_map_of T) hr (by decide) (by rfl) T.m_map_of (pa_cons (pv 9) pa_nil)))
          (pss_cons (ps_set (i := 11) nd rfl (Or.inl rfl) (pe_op op_fdiv (pe_f (ok_law_product T) hr (by decide) (by rfl) T.m_law_product (pa_cons (pv 3) pa_nil)) (pe_f (ok_count_renamings T) hr (by decide) (by rfl) T.m_count_renamings (pa_cons (pv 10) (pa_cons (pv 10) pa_nil)))))
          (pss_cons (ps_set (i := 5) nd rfl (Or.inl rfl) (pe_f (ok_count_roots T) hr (by decide) (by rfl) T.m_count_roots (pa_cons (pv 10) (pa_cons (pv 4) pa_nil))))
          (pss_cons (ps_if (pt_cmpR op_ne (pe_cmpR op_gt (pv 5) pe_int (nomark _)) (pe_f (ok_has_root T) hr (by decide) (by rfl) T.m_has_root (pa_cons (pv 9) (pa_cons (pv 4) pa_nil))) (nomark _)) pss_never pss_nil)
          (pss_one (ps_par (i := 7) (j := 8) (by rfl) nd rfl rfl (by decide) rfl rfl (pa_cons (pe_op op_add (pv 7) (pv 11)) (pa_cons (pe_op op_add (pv 8) (pe_op op_mulW (pv 11) (pv 5))) pa_nil)) (by rfl))))))))
        (pss_one (ps_if (PW.pt (pw_or (pt_cmpR op_ne (pv 7) (pv 6) (nomark _)) (pw_or1 (pt_cmpR op_ne (pv 8) (pv 6) (nomark _))))) pss_never pss_nil))))))))
      (pss_one (ps_ret pe_bl))), ?_⟩
    refine ⟨rfl, fun H0 e0 => ⟨_, rfl, ?_⟩⟩
    refine ⟨_, rfl, a, _, rfl, .inl (e0.seq ha), _, _, rfl, _, _, rfl, ?_⟩
    generalize hlen : (((ns.map V.int).length : Nat) : Int) = ln
    have hln : 0 ≤ ln ∧ ln ≤ 63 := by rw [← hlen, List.length_map]; omega
    refine ⟨_, rfl, by split <;> split <;> omega, by split <;> split <;> omega, ?_⟩
    refine for_rng (fun i σ H' => ∃ x1 x2 x3 x4 x5 x6 x7 x8 x9 x10 x11, σ = [some (.ref a), x1, x2, x3, x4, x5, x6, x7, x8, x9, x10, x11] ∧ Same H H') ⟨_, _, _, _, _, _, _, _, _, _, _, rfl, e0⟩ ?_ ?_
    · rintro i σ H1 hi ⟨x1, x2, x3, x4, x5, x6, x7, x8, x9, x10, x11, rfl, e1⟩
      refine ⟨_, rfl, _, rfl, a, ns, (i : Int), rfl, e1.seq ha, hz, fun p x y H2 e2 np hp => ?_⟩
      -- the draws
      refine ⟨_, rfl, p, x, y, 8, rfl, hp, ⟨by decide, by decide⟩, fun d x' y' H3 hd f3 hp3 => ?_⟩
      refine ⟨_, _, rfl, rfl, ?_⟩
      refine ⟨_, _, rfl, rfl, ⟨by decide, by decide, by decide⟩, by show 9 ≤ sizeLine; decide, fun L nL => ?_⟩
      generalize hG : upd H3 L _ = G
      have eG : Same H3 G := by rw [← hG]; exact Same.nw nL
      have gL : G L = some (.lst (degs.map V.int)) := by rw [← hG]; exact upd_same
      refine ⟨_, rfl, p, x', y', 9, rfl, eG _ _ hp3, ⟨by decide, by decide⟩, fun d2 x2 y2 H4 hd2 f4 hp4 => ?_⟩
      have nLp : L ≠ p := Ne.symm (ne_of_none hp3 nL)
      have hdeg : ∃ deg, degs[d2.toNat]? = some deg := ⟨degs[d2.toNat]'(by show d2.toNat < 9; omega), List.getElem?_eq_getElem _⟩
      obtain ⟨deg, hdeg⟩ := hdeg
      have hmem := List.mem_of_getElem? hdeg
      have hdo := degs_ok hmem
      have ix : atI (degs.map V.int) d2 = some (V.int deg) := by
        refine atI_map ?_
        have z := atI_nat hdeg
        rw [Int.toNat_of_nonneg hd2.1] at z
        exact z
      refine ⟨L, _, d2, _, rfl, rfl, SqL.of (f4 _ _ gL nLp), ix, by show 2 ≤ sizeLine; decide, fun tp ntp => ⟨tp, _, rfl, SqT.of upd_same, rfl, _, _, rfl, _, _, rfl, rfl, ?_⟩⟩
      have npH : H p = none := e1.free np
      have e5 : Same H (upd H4 tp (.tup [.int (1 + d), .int deg])) := fun q o hq => Same.nw ntp _ _ (f4 _ _ (eG _ _ (f3 _ _ (e2 _ _ (e1 _ _ hq)) (ne_of_none hq npH))) (ne_of_none hq npH))
      generalize upd H4 tp (.tup [.int (1 + d), .int deg]) = H5 at e5
      have hs1 : 1 ≤ 1 + d := by omega
      have hs8 : 1 + d ≤ 8 := by omega
      obtain ⟨ss, r, tt, t1, t2, t3, t4, t5⟩ := TF (1 + d) deg hs1 hs8 hmem
      -- total
      refine ⟨_, rfl, _, _, rfl, rfl, (1 + d) + 1, rfl, by omega, by omega, fun D hD => ?_⟩
      refine comp_rng (n := ((1 + d) + 1).toNat) (fun m H' => Same H5 H' ∧ ∃ l, itN (fun i l => (totF (1 + d) i).bind fun x => some (l ++ [x])) [] m = some l ∧ l.length ≤ m ∧ H' D = some (.lst (l.map V.int))) ⟨Same.nw hD, [], rfl, Nat.le_refl _, upd_same⟩ ?_ ?_
      · rintro m H' hm ⟨e6, l, it, hl, hD'⟩
        obtain ⟨l', u1, u2⟩ := itN_turn t3 hm it
        obtain ⟨v, v1, v2⟩ := Option.bind_eq_some_iff.mp u1
        cases v2
        refine ⟨rfl, rfl, _, rfl, 1 + d, rfl, ⟨hs1, by omega⟩, fun q H7 e7 nq M => ?_⟩
        refine ⟨_, rfl, q, _, (m : Int), v, rfl, M, v1, _, e7 _ _ hD', ?_, Same.mu (e6.trans e7) hD, l ++ [v], u2, by rw [List.length_append]; show l.length + 1 ≤ _; omega, ?_⟩
        · rw [List.length_map]
          exact Nat.lt_of_le_of_lt (show _ ≤ 100 by omega) (by decide)
        · rw [List.map_append]
          exact upd_same
      rintro H6 ⟨e6, l, it, hl, hD'⟩
      have el : l = tt := Option.some.inj (it.symm.trans t3)
      subst el
      refine ⟨D, l, rfl, SqL.of hD', ?_⟩
      -- maps, together
      refine ⟨by show 2 ≤ sizeLine; decide, fun tq ntq => ⟨tq, _, rfl, SqT.of upd_same, rfl, _, _, rfl, _, _, rfl, rfl, ?_⟩⟩
      have e7 : Same H (upd H6 tq (.tup [.int 0, .int 0])) := e5.trans (e6.trans (Same.nw ntq))
      generalize upd H6 tq (.tup [.int 0, .int 0]) = H7 at e7
      refine ⟨_, rfl, 1 + d, ss, rfl, ⟨by omega, by omega⟩, t1, fun Q1 H8 e8 nQ hQ => ?_⟩
      obtain ⟨as, q1, q2⟩ := hQ
      have lq := Paired.length q2
      refine ⟨Q1, rfl, ⟨_, SqL.of q1⟩, ?_⟩
      refine for_list (xs := as.map V.ref) (fun j σ H' => ∃ x1 x2 x5 st x9 x10 x11, σ = [some (.ref a), x1, x2, some (.int (1 + d)), some (.int deg), x5, some (.int l.sum), some (.int st.1), some (.int st.2), x9, x10, x11] ∧ itL (lawShape deg (1 + d)) ss (0, 0) j = some st ∧ Same H8 H') ⟨_, _, _, (0, 0), _, _, _, rfl, rfl, fun _ _ z => z⟩ (fun j σ H' _ p => by
        obtain ⟨_, _, _, _, _, _, _, _, _, e⟩ := p
        exact SqL.of (e _ _ q1)) ?_ ?_
      · rintro j x σ H' hj ⟨x1, x2, x5, st, x9, x10, x11, rfl, it2, e9⟩
        rw [List.getElem?_map] at hj
        obtain ⟨t, ht, rfl⟩ := Option.map_eq_some_iff.mp hj
        obtain ⟨sh, hsh, hS⟩ := Shps.at_ q2 ht
        obtain ⟨st', u1, u2⟩ := itL_turn t2 (List.getElem?_eq_some_iff.mp hsh).1 it2 hsh
        obtain ⟨m, m1, u1⟩ := Option.bind_eq_some_iff.mp u1
        obtain ⟨s2, m2, u1⟩ := Option.bind_eq_some_iff.mp u1
        obtain ⟨c, m3, u1⟩ := Option.bind_eq_some_iff.mp u1
        split at u1
        · rename_i hc
          have c1 := of_decide_eq_true (two hc).1
          have c2 := of_decide_eq_true (two hc).2
          obtain ⟨nr, m4, u1⟩ := Option.bind_eq_some_iff.mp u1
          obtain ⟨b, m5, u1⟩ := Option.bind_eq_some_iff.mp u1
          split at u1
          · rename_i hb
            have hb := eq_of_beq hb
            obtain ⟨yy, m6, u1⟩ := Option.bind_eq_some_iff.mp u1
            cases u1
            obtain ⟨bw, rfl⟩ := mul?_ok m6
            have hS' := ShAt.mono hS e9
            refine ⟨_, rfl, t, sh, m, rfl, hS', m1, fun g G1 g1 ng MG => ?_⟩
            refine ⟨_, rfl, 1 + d, rfl, ⟨by omega, by omega⟩, _, rfl, _, rfl, g, g, m, s2, c, rfl, MG, MG, ⟨m2, m3⟩, fun G2 g2 => ⟨_, _, rfl, rfl, ⟨c1, by omega⟩, ?_⟩⟩
            refine ⟨_, rfl, _, rfl, g, m, deg, nr, rfl, MG.mono g2, m4, fun G3 g3 => ?_⟩
            refine ⟨_, rfl, _, _, rfl, rfl, _, rfl, _, rfl, t, sh, deg, b, rfl, hS'.mono (g1.trans (g2.trans g3)), ⟨mapOf_ok m1, hdo, m5⟩, fun G4 g4 => ⟨rfl, _, rfl, ifF (not_t (decide_eq_true (congrArg V.bl hb))) ?_⟩⟩
            refine ⟨_, rfl, _, rfl, _, _, rfl, rfl, _, rfl, _, rfl, _, rfl, _, _, rfl, rfl, bw, _, _, rfl, rfl, _, _, rfl, ?_⟩
            exact ⟨_, _, _, (_, _), _, _, _, rfl, u2, e9.trans (g1.trans (g2.trans (g3.trans g4)))⟩
          · cases u1
        · cases u1
      · rintro σ H' ⟨x1, x2, x5, st, x9, x10, x11, rfl, it2, e9⟩
        rw [List.length_map, lq] at it2
        have es : st = r := Option.some.inj (it2.symm.trans t2)
        subst es
        refine ⟨_, rfl, _, rfl, rfl, _, rfl, ifF (not_t (decide_eq_true (congrArg V.int t4))) ⟨_, rfl, _, rfl, rfl, _, rfl, ifF (not_t (decide_eq_true (congrArg V.int t5))) ?_⟩⟩
        exact ⟨_, _, _, _, _, _, _, _, _, _, _, rfl, e7.trans (e8.trans e9)⟩
    · rintro σ H' ⟨x1, x2, x3, x4, x5, x6, x7, x8, x9, x10, x11, rfl, e⟩
      exact k H'
end
end Ck
set_option maxHeartbeats 0
/-! the law's turns, cut for the kernel: what hangs on the shape alone, once per size -/
namespace Ck
open PySem PySem.Spec PyProof.Rows L2
def goL {α β : Type} (f : α → β → Option α) : List β → α → Option α
  | [], a => some a
  | b :: bs, a => (f a b).bind (goL f bs)
theorem itN_shift {α : Type} (f : Nat → α → Option α) (a : α) : ∀ n : Nat, itN f a (n + 1) = (f 0 a).bind fun x => itN (fun j => f (j + 1)) x n
  | 0 => by
    show f 0 a = (f 0 a).bind some
    cases f 0 a <;> rfl
  | n + 1 => by
    show (itN f a (n + 1)).bind (f (n + 1)) = _
    rw [itN_shift f a n]
    cases f 0 a <;> rfl
theorem itL_go {α β : Type} (f : α → β → Option α) : ∀ (xs : List β) (a : α), itL f xs a xs.length = goL f xs a
  | [], _ => rfl
  | b :: bs, a => by
    show itN _ a (bs.length + 1) = _
    rw [itN_shift]
    show (f a b).bind (fun x => itL f bs x bs.length) = (f a b).bind (goL f bs)
    exact congrArg _ (funext fun x => itL_go f bs x)
/-- what hangs on the shape alone: its symmetries -/
def preS (s : Sh) : Option Int := (mapOf s).bind fun m => (shapeOf m).bind fun s2 => if (decide (s2.cyc = s.cyc) && (decide (s2.chn = s.chn) && decide (m.size ≤ 40))) = true then (sym s).bind fun c => if (decide (0 < c) && decide (c < 1000000000)) = true then some c else none else none
def preL : List Sh → Option (List (Sh × Int))
  | [] => some []
  | s :: ss => (preS s).bind fun c => (preL ss).bind fun l => some ((s, c) :: l)
def degS (deg f : Int) (st : Int × Int) (p : Sh × Int) : Option (Int × Int) := (rootsSh p.1 deg).bind fun nr => (hasRoot p.1 deg).bind fun b => if (decide (0 < nr) == b) = true then
    (mul? (f / p.2) nr).bind fun y => some (st.1 + f / p.2, st.2 + y) else none
theorem lawShape_of {deg size c : Int} {st : Int × Int} {s : Sh} (h : preS s = some c) (hd : 1 ≤ deg ∧ deg ≤ 10 ^ 30) : lawShape deg size st s = degS deg (fact size.toNat) st (s, c) := by
  unfold preS at h
  obtain ⟨m, h1, h⟩ := Option.bind_eq_some_iff.mp h
  obtain ⟨s2, h2, h⟩ := Option.bind_eq_some_iff.mp h
  split at h
  · rename_i g
    have e1 := of_decide_eq_true (two g).1
    have e2 := of_decide_eq_true (two (two g).2).1
    have e3 := of_decide_eq_true (two (two g).2).2
    have es : s2 = s := by
      cases s2; cases s
      cases e1; cases e2; rfl
    subst es
    obtain ⟨c', h3, h⟩ := Option.bind_eq_some_iff.mp h
    split at h
    · rename_i g2
      cases h
      unfold lawShape degS
      rw [h1, Option.bind_some, h2, Option.bind_some, h3, Option.bind_some, if_pos g2]
      have e4 : countRoots m deg = rootsSh s2 deg := by
        unfold countRoots
        rw [h2, Option.bind_some, if_pos]
        unfold inR
        simp [hd.1, e3]
        exact Int.le_trans hd.2 (by decide)
      rw [e4]
    · cases h
  · cases h
theorem goL_of {deg size : Int} (hd : 1 ≤ deg ∧ deg ≤ 10 ^ 30) : ∀ {ss : List Sh} {ps : List (Sh × Int)} (st : Int × Int), preL ss = some ps → goL (lawShape deg size) ss st = goL (degS deg (fact size.toNat)) ps st
  | [], _, st, h => by cases h; rfl
  | s :: ss, _, st, h => by
    obtain ⟨c, h1, h⟩ := Option.bind_eq_some_iff.mp (show (preS s).bind (fun c => (preL ss).bind fun l => some ((s, c) :: l)) = _ from h)
    obtain ⟨l, h2, h⟩ := Option.bind_eq_some_iff.mp h
    cases h
    show (lawShape deg size st s).bind _ = (degS deg (fact size.toNat) st (s, c)).bind _
    rw [lawShape_of h1 hd]
    exact congrArg _ (funext fun x => goL_of hd x h2)
def okTurn (f t : Int) (ps : List (Sh × Int)) (deg : Int) : Bool := match goL (degS deg f) ps (0, 0) with
  | some r => decide (r.1 = t) && decide (r.2 = t)
  | none => false
/-- one size's closed facts -/
def SizeOk (size : Int) : Prop := ∃ ps t, (shapesL size).bind preL = some ps ∧ (totOf size).map List.sum = some t ∧ degs.all (okTurn (fact size.toNat) t ps) = true
theorem turn_of {size deg : Int} (h : SizeOk size) (hd : deg ∈ degs) : ∃ ss r t, shapesL size = some ss ∧ itL (lawShape deg size) ss (0, 0) ss.length = some r ∧ totOf size = some t ∧ r.1 = t.sum ∧ r.2 = t.sum := by
  obtain ⟨ps, t, h1, h3, h4⟩ := h
  obtain ⟨ss, h1, h2⟩ := Option.bind_eq_some_iff.mp h1
  obtain ⟨tt, h5, rfl⟩ := Option.map_eq_some_iff.mp h3
  have z := List.all_eq_true.mp h4 deg hd
  unfold okTurn at z
  split at z
  · rename_i r e
    exact ⟨ss, r, tt, h1, by rw [itL_go, goL_of (degs_ok hd) _ h2]; exact e, h5, of_decide_eq_true (two z).1, of_decide_eq_true (two z).2⟩
  · cases z
end Ck
set_option maxHeartbeats 0
/-! closed facts, by the kernel (this text is printed by wip/gen_v.py) -/
namespace Ck
open PySem PySem.Spec PyProof.Rows L2
def P1 : List (Sh × Int) := [(⟨[], [(1, 1)]⟩, 1), (⟨[(1, 1)], []⟩, 1)]
theorem pre1 : (shapesL 1).bind preL = some P1 := by kernel_rfl
theorem tot1 : (totOf 1).map List.sum = some 2 := by kernel_rfl
theorem deg1 : degs.all (okTurn (fact (1 : Int).toNat) 2 P1) = true := by kernel_rfl
theorem size1 : SizeOk 1 := ⟨P1, _, pre1, tot1, deg1⟩
def P2 : List (Sh × Int) := [(⟨[], [(1, 2)]⟩, 2), (⟨[], [(2, 1)]⟩, 1), (⟨[(1, 1)], [(1, 1)]⟩, 1), (⟨[(1, 2)], []⟩, 2), (⟨[(2, 1)], []⟩, 2)]
theorem pre2 : (shapesL 2).bind preL = some P2 := by kernel_rfl
theorem tot2 : (totOf 2).map List.sum = some 7 := by kernel_rfl
theorem deg2 : degs.all (okTurn (fact (2 : Int).toNat) 7 P2) = true := by kernel_rfl
theorem size2 : SizeOk 2 := ⟨P2, _, pre2, tot2, deg2⟩
def P3 : List (Sh × Int) := [(⟨[], [(1, 3)]⟩, 6), (⟨[], [(1, 1), (2, 1)]⟩, 1), (⟨[], [(3, 1)]⟩, 1), (⟨[(1, 1)], [(1, 2)]⟩, 2), (⟨[(1, 1)], [(2, 1)]⟩, 1), (⟨[(1, 2)], [(1, 1)]⟩, 2), (⟨[(2, 1)], [(1, 1)]⟩, 2), (⟨[(1, 3)], []⟩, 6), (⟨[(1, 1), (2, 1)], []⟩, 2), (⟨[(3, 1)], []⟩, 3)]
theorem pre3 : (shapesL 3).bind preL = some P3 := by kernel_rfl
theorem tot3 : (totOf 3).map List.sum = some 34 := by kernel_rfl
theorem deg3 : degs.all (okTurn (fact (3 : Int).toNat) 34 P3) = true := by kernel_rfl
theorem size3 : SizeOk 3 := ⟨P3, _, pre3, tot3, deg3⟩
def P4 : List (Sh × Int) := [(⟨[], [(1, 4)]⟩, 24), (⟨[], [(1, 2), (2, 1)]⟩, 2), (⟨[], [(2, 2)]⟩, 2), (⟨[], [(1, 1), (3, 1)]⟩, 1), (⟨[], [(4, 1)]⟩, 1), (⟨[(1, 1)], [(1, 3)]⟩, 6), (⟨[(1, 1)], [(1, 1), (2, 1)]⟩, 1), (⟨[(1, 1)], [(3, 1)]⟩, 1), (⟨[(1, 2)], [(1, 2)]⟩, 4), (⟨[(1, 2)], [(2, 1)]⟩, 2), (⟨[(2, 1)], [(1, 2)]⟩, 4), (⟨[(2, 1)], [(2, 1)]⟩, 2), (⟨[(1, 3)], [(1, 1)]⟩, 6), (⟨[(1, 1), (2, 1)], [(1, 1)]⟩, 2), (⟨[(3, 1)], [(1, 1)]⟩, 3), (⟨[(1, 4)], []⟩, 24), (⟨[(1, 2), (2, 1)], []⟩, 4), (⟨[(2, 2)], []⟩, 8), (⟨[(1, 1), (3, 1)], []⟩, 3), (⟨[(4, 1)], []⟩, 4)]
theorem pre4 : (shapesL 4).bind preL = some P4 := by kernel_rfl
theorem tot4 : (totOf 4).map List.sum = some 209 := by kernel_rfl
theorem deg4 : degs.all (okTurn (fact (4 : Int).toNat) 209 P4) = true := by kernel_rfl
theorem size4 : SizeOk 4 := ⟨P4, _, pre4, tot4, deg4⟩
def P5 : List (Sh × Int) := [(⟨[], [(1, 5)]⟩, 120), (⟨[], [(1, 3), (2, 1)]⟩, 6), (⟨[], [(1, 1), (2, 2)]⟩, 2), (⟨[], [(1, 2), (3, 1)]⟩, 2), (⟨[], [(2, 1), (3, 1)]⟩, 1), (⟨[], [(1, 1), (4, 1)]⟩, 1), (⟨[], [(5, 1)]⟩, 1), (⟨[(1, 1)], [(1, 4)]⟩, 24), (⟨[(1, 1)], [(1, 2), (2, 1)]⟩, 2), (⟨[(1, 1)], [(2, 2)]⟩, 2), (⟨[(1, 1)], [(1, 1), (3, 1)]⟩, 1), (⟨[(1, 1)], [(4, 1)]⟩, 1), (⟨[(1, 2)], [(1, 3)]⟩, 12), (⟨[(1, 2)], [(1, 1), (2, 1)]⟩, 2), (⟨[(1, 2)], [(3, 1)]⟩, 2), (⟨[(2, 1)], [(1, 3)]⟩, 12), (⟨[(2, 1)], [(1, 1), (2, 1)]⟩, 2), (⟨[(2, 1)], [(3, 1)]⟩, 2), (⟨[(1, 3)], [(1, 2)]⟩, 12), (⟨[(1, 3)], [(2, 1)]⟩, 6), (⟨[(1, 1), (2, 1)], [(1, 2)]⟩, 4), (⟨[(1, 1), (2, 1)], [(2, 1)]⟩, 2), (⟨[(3, 1)], [(1, 2)]⟩, 6), (⟨[(3, 1)], [(2, 1)]⟩, 3), (⟨[(1, 4)], [(1, 1)]⟩, 24), (⟨[(1, 2), (2, 1)], [(1, 1)]⟩, 4), (⟨[(2, 2)], [(1, 1)]⟩, 8), (⟨[(1, 1), (3, 1)], [(1, 1)]⟩, 3), (⟨[(4, 1)], [(1, 1)]⟩, 4), (⟨[(1, 5)], []⟩, 120), (⟨[(1, 3), (2, 1)], []⟩, 12), (⟨[(1, 1), (2, 2)], []⟩, 8), (⟨[(1, 2), (3, 1)], []⟩, 6), (⟨[(2, 1), (3, 1)], []⟩, 6), (⟨[(1, 1), (4, 1)], []⟩, 4), (⟨[(5, 1)], []⟩, 5)]
theorem pre5 : (shapesL 5).bind preL = some P5 := by kernel_rfl
theorem tot5 : (totOf 5).map List.sum = some 1546 := by kernel_rfl
theorem deg5 : degs.all (okTurn (fact (5 : Int).toNat) 1546 P5) = true := by kernel_rfl
theorem size5 : SizeOk 5 := ⟨P5, _, pre5, tot5, deg5⟩
def P6 : List (Sh × Int) := [(⟨[], [(1, 6)]⟩, 720), (⟨[], [(1, 4), (2, 1)]⟩, 24), (⟨[], [(1, 2), (2, 2)]⟩, 4), (⟨[], [(2, 3)]⟩, 6), (⟨[], [(1, 3), (3, 1)]⟩, 6), (⟨[], [(1, 1), (2, 1), (3, 1)]⟩, 1), (⟨[], [(3, 2)]⟩, 2), (⟨[], [(1, 2), (4, 1)]⟩, 2), (⟨[], [(2, 1), (4, 1)]⟩, 1), (⟨[], [(1, 1), (5, 1)]⟩, 1), (⟨[], [(6, 1)]⟩, 1), (⟨[(1, 1)], [(1, 5)]⟩, 120), (⟨[(1, 1)], [(1, 3), (2, 1)]⟩, 6), (⟨[(1, 1)], [(1, 1), (2, 2)]⟩, 2), (⟨[(1, 1)], [(1, 2), (3, 1)]⟩, 2), (⟨[(1, 1)], [(2, 1), (3, 1)]⟩, 1), (⟨[(1, 1)], [(1, 1), (4, 1)]⟩, 1), (⟨[(1, 1)], [(5, 1)]⟩, 1), (⟨[(1, 2)], [(1, 4)]⟩, 48), (⟨[(1, 2)], [(1, 2), (2, 1)]⟩, 4), (⟨[(1, 2)], [(2, 2)]⟩, 4), (⟨[(1, 2)], [(1, 1), (3, 1)]⟩, 2), (⟨[(1, 2)], [(4, 1)]⟩, 2), (⟨[(2, 1)], [(1, 4)]⟩, 48), (⟨[(2, 1)], [(1, 2), (2, 1)]⟩, 4), (⟨[(2, 1)], [(2, 2)]⟩, 4), (⟨[(2, 1)], [(1, 1), (3, 1)]⟩, 2), (⟨[(2, 1)], [(4, 1)]⟩, 2), (⟨[(1, 3)], [(1, 3)]⟩, 36), (⟨[(1, 3)], [(1, 1), (2, 1)]⟩, 6), (⟨[(1, 3)], [(3, 1)]⟩, 6), (⟨[(1, 1), (2, 1)], [(1, 3)]⟩, 12), (⟨[(1, 1), (2, 1)], [(1, 1), (2, 1)]⟩, 2), (⟨[(1, 1), (2, 1)], [(3, 1)]⟩, 2), (⟨[(3, 1)], [(1, 3)]⟩, 18), (⟨[(3, 1)], [(1, 1), (2, 1)]⟩, 3), (⟨[(3, 1)], [(3, 1)]⟩, 3), (⟨[(1, 4)], [(1, 2)]⟩, 48), (⟨[(1, 4)], [(2, 1)]⟩, 24), (⟨[(1, 2), (2, 1)], [(1, 2)]⟩, 8), (⟨[(1, 2), (2, 1)], [(2, 1)]⟩, 4), (⟨[(2, 2)], [(1, 2)]⟩, 16), (⟨[(2, 2)], [(2, 1)]⟩, 8), (⟨[(1, 1), (3, 1)], [(1, 2)]⟩, 6), (⟨[(1, 1), (3, 1)], [(2, 1)]⟩, 3), (⟨[(4, 1)], [(1, 2)]⟩, 8), (⟨[(4, 1)], [(2, 1)]⟩, 4), (⟨[(1, 5)], [(1, 1)]⟩, 120), (⟨[(1, 3), (2, 1)], [(1, 1)]⟩, 12), (⟨[(1, 1), (2, 2)], [(1, 1)]⟩, 8), (⟨[(1, 2), (3, 1)], [(1, 1)]⟩, 6), (⟨[(2, 1), (3, 1)], [(1, 1)]⟩, 6), (⟨[(1, 1), (4, 1)], [(1, 1)]⟩, 4), (⟨[(5, 1)], [(1, 1)]⟩, 5), (⟨[(1, 6)], []⟩, 720), (⟨[(1, 4), (2, 1)], []⟩, 48), (⟨[(1, 2), (2, 2)], []⟩, 16), (⟨[(2, 3)], []⟩, 48), (⟨[(1, 3), (3, 1)], []⟩, 18), (⟨[(1, 1), (2, 1), (3, 1)], []⟩, 6), (⟨[(3, 2)], []⟩, 18), (⟨[(1, 2), (4, 1)], []⟩, 8), (⟨[(2, 1), (4, 1)], []⟩, 8), (⟨[(1, 1), (5, 1)], []⟩, 5), (⟨[(6, 1)], []⟩, 6)]
theorem pre6 : (shapesL 6).bind preL = some P6 := by kernel_rfl
theorem tot6 : (totOf 6).map List.sum = some 13327 := by kernel_rfl
theorem deg6 : degs.all (okTurn (fact (6 : Int).toNat) 13327 P6) = true := by kernel_rfl
theorem size6 : SizeOk 6 := ⟨P6, _, pre6, tot6, deg6⟩
def P7 : List (Sh × Int) := [(⟨[], [(1, 7)]⟩, 5040), (⟨[], [(1, 5), (2, 1)]⟩, 120), (⟨[], [(1, 3), (2, 2)]⟩, 12), (⟨[], [(1, 1), (2, 3)]⟩, 6), (⟨[], [(1, 4), (3, 1)]⟩, 24), (⟨[], [(1, 2), (2, 1), (3, 1)]⟩, 2), (⟨[], [(2, 2), (3, 1)]⟩, 2), (⟨[], [(1, 1), (3, 2)]⟩, 2), (⟨[], [(1, 3), (4, 1)]⟩, 6), (⟨[], [(1, 1), (2, 1), (4, 1)]⟩, 1), (⟨[], [(3, 1), (4, 1)]⟩, 1), (⟨[], [(1, 2), (5, 1)]⟩, 2), (⟨[], [(2, 1), (5, 1)]⟩, 1), (⟨[], [(1, 1), (6, 1)]⟩, 1), (⟨[], [(7, 1)]⟩, 1), (⟨[(1, 1)], [(1, 6)]⟩, 720), (⟨[(1, 1)], [(1, 4), (2, 1)]⟩, 24), (⟨[(1, 1)], [(1, 2), (2, 2)]⟩, 4), (⟨[(1, 1)], [(2, 3)]⟩, 6), (⟨[(1, 1)], [(1, 3), (3, 1)]⟩, 6), (⟨[(1, 1)], [(1, 1), (2, 1), (3, 1)]⟩, 1), (⟨[(1, 1)], [(3, 2)]⟩, 2), (⟨[(1, 1)], [(1, 2), (4, 1)]⟩, 2), (⟨[(1, 1)], [(2, 1), (4, 1)]⟩, 1), (⟨[(1, 1)], [(1, 1), (5, 1)]⟩, 1), (⟨[(1, 1)], [(6, 1)]⟩, 1), (⟨[(1, 2)], [(1, 5)]⟩, 240), (⟨[(1, 2)], [(1, 3), (2, 1)]⟩, 12), (⟨[(1, 2)], [(1, 1), (2, 2)]⟩, 4), (⟨[(1, 2)], [(1, 2), (3, 1)]⟩, 4), (⟨[(1, 2)], [(2, 1), (3, 1)]⟩, 2), (⟨[(1, 2)], [(1, 1), (4, 1)]⟩, 2), (⟨[(1, 2)], [(5, 1)]⟩, 2), (⟨[(2, 1)], [(1, 5)]⟩, 240), (⟨[(2, 1)], [(1, 3), (2, 1)]⟩, 12), (⟨[(2, 1)], [(1, 1), (2, 2)]⟩, 4), (⟨[(2, 1)], [(1, 2), (3, 1)]⟩, 4), (⟨[(2, 1)], [(2, 1), (3, 1)]⟩, 2), (⟨[(2, 1)], [(1, 1), (4, 1)]⟩, 2), (⟨[(2, 1)], [(5, 1)]⟩, 2), (⟨[(1, 3)], [(1, 4)]⟩, 144), (⟨[(1, 3)], [(1, 2), (2, 1)]⟩, 12), (⟨[(1, 3)], [(2, 2)]⟩, 12), (⟨[(1, 3)], [(1, 1), (3, 1)]⟩, 6), (⟨[(1, 3)], [(4, 1)]⟩, 6), (⟨[(1, 1), (2, 1)], [(1, 4)]⟩, 48), (⟨[(1, 1), (2, 1)], [(1, 2), (2, 1)]⟩, 4), (⟨[(1, 1), (2, 1)], [(2, 2)]⟩, 4), (⟨[(1, 1), (2, 1)], [(1, 1), (3, 1)]⟩, 2), (⟨[(1, 1), (2, 1)], [(4, 1)]⟩, 2), (⟨[(3, 1)], [(1, 4)]⟩, 72), (⟨[(3, 1)], [(1, 2), (2, 1)]⟩, 6), (⟨[(3, 1)], [(2, 2)]⟩, 6), (⟨[(3, 1)], [(1, 1), (3, 1)]⟩, 3), (⟨[(3, 1)], [(4, 1)]⟩, 3), (⟨[(1, 4)], [(1, 3)]⟩, 144), (⟨[(1, 4)], [(1, 1), (2, 1)]⟩, 24), (⟨[(1, 4)], [(3, 1)]⟩, 24), (⟨[(1, 2), (2, 1)], [(1, 3)]⟩, 24), (⟨[(1, 2), (2, 1)], [(1, 1), (2, 1)]⟩, 4), (⟨[(1, 2), (2, 1)], [(3, 1)]⟩, 4), (⟨[(2, 2)], [(1, 3)]⟩, 48), (⟨[(2, 2)], [(1, 1), (2, 1)]⟩, 8), (⟨[(2, 2)], [(3, 1)]⟩, 8), (⟨[(1, 1), (3, 1)], [(1, 3)]⟩, 18), (⟨[(1, 1), (3, 1)], [(1, 1), (2, 1)]⟩, 3), (⟨[(1, 1), (3, 1)], [(3, 1)]⟩, 3), (⟨[(4, 1)], [(1, 3)]⟩, 24), (⟨[(4, 1)], [(1, 1), (2, 1)]⟩, 4), (⟨[(4, 1)], [(3, 1)]⟩, 4), (⟨[(1, 5)], [(1, 2)]⟩, 240), (⟨[(1, 5)], [(2, 1)]⟩, 120), (⟨[(1, 3), (2, 1)], [(1, 2)]⟩, 24), (⟨[(1, 3), (2, 1)], [(2, 1)]⟩, 12), (⟨[(1, 1), (2, 2)], [(1, 2)]⟩, 16), (⟨[(1, 1), (2, 2)], [(2, 1)]⟩, 8), (⟨[(1, 2), (3, 1)], [(1, 2)]⟩, 12), (⟨[(1, 2), (3, 1)], [(2, 1)]⟩, 6), (⟨[(2, 1), (3, 1)], [(1, 2)]⟩, 12), (⟨[(2, 1), (3, 1)], [(2, 1)]⟩, 6), (⟨[(1, 1), (4, 1)], [(1, 2)]⟩, 8), (⟨[(1, 1), (4, 1)], [(2, 1)]⟩, 4), (⟨[(5, 1)], [(1, 2)]⟩, 10), (⟨[(5, 1)], [(2, 1)]⟩, 5), (⟨[(1, 6)], [(1, 1)]⟩, 720), (⟨[(1, 4), (2, 1)], [(1, 1)]⟩, 48), (⟨[(1, 2), (2, 2)], [(1, 1)]⟩, 16), (⟨[(2, 3)], [(1, 1)]⟩, 48), (⟨[(1, 3), (3, 1)], [(1, 1)]⟩, 18), (⟨[(1, 1), (2, 1), (3, 1)], [(1, 1)]⟩, 6), (⟨[(3, 2)], [(1, 1)]⟩, 18), (⟨[(1, 2), (4, 1)], [(1, 1)]⟩, 8), (⟨[(2, 1), (4, 1)], [(1, 1)]⟩, 8), (⟨[(1, 1), (5, 1)], [(1, 1)]⟩, 5), (⟨[(6, 1)], [(1, 1)]⟩, 6), (⟨[(1, 7)], []⟩, 5040), (⟨[(1, 5), (2, 1)], []⟩, 240), (⟨[(1, 3), (2, 2)], []⟩, 48), (⟨[(1, 1), (2, 3)], []⟩, 48), (⟨[(1, 4), (3, 1)], []⟩, 72), (⟨[(1, 2), (2, 1), (3, 1)], []⟩, 12), (⟨[(2, 2), (3, 1)], []⟩, 24), (⟨[(1, 1), (3, 2)], []⟩, 18), (⟨[(1, 3), (4, 1)], []⟩, 24), (⟨[(1, 1), (2, 1), (4, 1)], []⟩, 8), (⟨[(3, 1), (4, 1)], []⟩, 12), (⟨[(1, 2), (5, 1)], []⟩, 10), (⟨[(2, 1), (5, 1)], []⟩, 10), (⟨[(1, 1), (6, 1)], []⟩, 6), (⟨[(7, 1)], []⟩, 7)]
theorem pre7 : (shapesL 7).bind preL = some P7 := by kernel_rfl
theorem tot7 : (totOf 7).map List.sum = some 130922 := by kernel_rfl
theorem deg7 : degs.all (okTurn (fact (7 : Int).toNat) 130922 P7) = true := by kernel_rfl
theorem size7 : SizeOk 7 := ⟨P7, _, pre7, tot7, deg7⟩
def P8 : List (Sh × Int) := [(⟨[], [(1, 8)]⟩, 40320), (⟨[], [(1, 6), (2, 1)]⟩, 720), (⟨[], [(1, 4), (2, 2)]⟩, 48), (⟨[], [(1, 2), (2, 3)]⟩, 12), (⟨[], [(2, 4)]⟩, 24), (⟨[], [(1, 5), (3, 1)]⟩, 120), (⟨[], [(1, 3), (2, 1), (3, 1)]⟩, 6), (⟨[], [(1, 1), (2, 2), (3, 1)]⟩, 2), (⟨[], [(1, 2), (3, 2)]⟩, 4), (⟨[], [(2, 1), (3, 2)]⟩, 2), (⟨[], [(1, 4), (4, 1)]⟩, 24), (⟨[], [(1, 2), (2, 1), (4, 1)]⟩, 2), (⟨[], [(2, 2), (4, 1)]⟩, 2), (⟨[], [(1, 1), (3, 1), (4, 1)]⟩, 1), (⟨[], [(4, 2)]⟩, 2), (⟨[], [(1, 3), (5, 1)]⟩, 6), (⟨[], [(1, 1), (2, 1), (5, 1)]⟩, 1), (⟨[], [(3, 1), (5, 1)]⟩, 1), (⟨[], [(1, 2), (6, 1)]⟩, 2), (⟨[], [(2, 1), (6, 1)]⟩, 1), (⟨[], [(1, 1), (7, 1)]⟩, 1), (⟨[], [(8, 1)]⟩, 1), (⟨[(1, 1)], [(1, 7)]⟩, 5040), (⟨[(1, 1)], [(1, 5), (2, 1)]⟩, 120), (⟨[(1, 1)], [(1, 3), (2, 2)]⟩, 12), (⟨[(1, 1)], [(1, 1), (2, 3)]⟩, 6), (⟨[(1, 1)], [(1, 4), (3, 1)]⟩, 24), (⟨[(1, 1)], [(1, 2), (2, 1), (3, 1)]⟩, 2), (⟨[(1, 1)], [(2, 2), (3, 1)]⟩, 2), (⟨[(1, 1)], [(1, 1), (3, 2)]⟩, 2), (⟨[(1, 1)], [(1, 3), (4, 1)]⟩, 6), (⟨[(1, 1)], [(1, 1), (2, 1), (4, 1)]⟩, 1), (⟨[(1, 1)], [(3, 1), (4, 1)]⟩, 1), (⟨[(1, 1)], [(1, 2), (5, 1)]⟩, 2), (⟨[(1, 1)], [(2, 1), (5, 1)]⟩, 1), (⟨[(1, 1)], [(1, 1), (6, 1)]⟩, 1), (⟨[(1, 1)], [(7, 1)]⟩, 1), (⟨[(1, 2)], [(1, 6)]⟩, 1440), (⟨[(1, 2)], [(1, 4), (2, 1)]⟩, 48), (⟨[(1, 2)], [(1, 2), (2, 2)]⟩, 8), (⟨[(1, 2)], [(2, 3)]⟩, 12), (⟨[(1, 2)], [(1, 3), (3, 1)]⟩, 12), (⟨[(1, 2)], [(1, 1), (2, 1), (3, 1)]⟩, 2), (⟨[(1, 2)], [(3, 2)]⟩, 4), (⟨[(1, 2)], [(1, 2), (4, 1)]⟩, 4), (⟨[(1, 2)], [(2, 1), (4, 1)]⟩, 2), (⟨[(1, 2)], [(1, 1), (5, 1)]⟩, 2), (⟨[(1, 2)], [(6, 1)]⟩, 2), (⟨[(2, 1)], [(1, 6)]⟩, 1440), (⟨[(2, 1)], [(1, 4), (2, 1)]⟩, 48), (⟨[(2, 1)], [(1, 2), (2, 2)]⟩, 8), (⟨[(2, 1)], [(2, 3)]⟩, 12), (⟨[(2, 1)], [(1, 3), (3, 1)]⟩, 12), (⟨[(2, 1)], [(1, 1), (2, 1), (3, 1)]⟩, 2), (⟨[(2, 1)], [(3, 2)]⟩, 4), (⟨[(2, 1)], [(1, 2), (4, 1)]⟩, 4), (⟨[(2, 1)], [(2, 1), (4, 1)]⟩, 2), (⟨[(2, 1)], [(1, 1), (5, 1)]⟩, 2), (⟨[(2, 1)], [(6, 1)]⟩, 2), (⟨[(1, 3)], [(1, 5)]⟩, 720), (⟨[(1, 3)], [(1, 3), (2, 1)]⟩, 36), (⟨[(1, 3)], [(1, 1), (2, 2)]⟩, 12), (⟨[(1, 3)], [(1, 2), (3, 1)]⟩, 12), (⟨[(1, 3)], [(2, 1), (3, 1)]⟩, 6), (⟨[(1, 3)], [(1, 1), (4, 1)]⟩, 6), (⟨[(1, 3)], [(5, 1)]⟩, 6), (⟨[(1, 1), (2, 1)], [(1, 5)]⟩, 240), (⟨[(1, 1), (2, 1)], [(1, 3), (2, 1)]⟩, 12), (⟨[(1, 1), (2, 1)], [(1, 1), (2, 2)]⟩, 4), (⟨[(1, 1), (2, 1)], [(1, 2), (3, 1)]⟩, 4), (⟨[(1, 1), (2, 1)], [(2, 1), (3, 1)]⟩, 2), (⟨[(1, 1), (2, 1)], [(1, 1), (4, 1)]⟩, 2), (⟨[(1, 1), (2, 1)], [(5, 1)]⟩, 2), (⟨[(3, 1)], [(1, 5)]⟩, 360), (⟨[(3, 1)], [(1, 3), (2, 1)]⟩, 18), (⟨[(3, 1)], [(1, 1), (2, 2)]⟩, 6), (⟨[(3, 1)], [(1, 2), (3, 1)]⟩, 6), (⟨[(3, 1)], [(2, 1), (3, 1)]⟩, 3), (⟨[(3, 1)], [(1, 1), (4, 1)]⟩, 3), (⟨[(3, 1)], [(5, 1)]⟩, 3), (⟨[(1, 4)], [(1, 4)]⟩, 576), (⟨[(1, 4)], [(1, 2), (2, 1)]⟩, 48), (⟨[(1, 4)], [(2, 2)]⟩, 48), (⟨[(1, 4)], [(1, 1), (3, 1)]⟩, 24), (⟨[(1, 4)], [(4, 1)]⟩, 24), (⟨[(1, 2), (2, 1)], [(1, 4)]⟩, 96), (⟨[(1, 2), (2, 1)], [(1, 2), (2, 1)]⟩, 8), (⟨[(1, 2), (2, 1)], [(2, 2)]⟩, 8), (⟨[(1, 2), (2, 1)], [(1, 1), (3, 1)]⟩, 4), (⟨[(1, 2), (2, 1)], [(4, 1)]⟩, 4), (⟨[(2, 2)], [(1, 4)]⟩, 192), (⟨[(2, 2)], [(1, 2), (2, 1)]⟩, 16), (⟨[(2, 2)], [(2, 2)]⟩, 16), (⟨[(2, 2)], [(1, 1), (3, 1)]⟩, 8), (⟨[(2, 2)], [(4, 1)]⟩, 8), (⟨[(1, 1), (3, 1)], [(1, 4)]⟩, 72), (⟨[(1, 1), (3, 1)], [(1, 2), (2, 1)]⟩, 6), (⟨[(1, 1), (3, 1)], [(2, 2)]⟩, 6), (⟨[(1, 1), (3, 1)], [(1, 1), (3, 1)]⟩, 3), (⟨[(1, 1), (3, 1)], [(4, 1)]⟩, 3), (⟨[(4, 1)], [(1, 4)]⟩, 96), (⟨[(4, 1)], [(1, 2), (2, 1)]⟩, 8), (⟨[(4, 1)], [(2, 2)]⟩, 8), (⟨[(4, 1)], [(1, 1), (3, 1)]⟩, 4), (⟨[(4, 1)], [(4, 1)]⟩, 4), (⟨[(1, 5)], [(1, 3)]⟩, 720), (⟨[(1, 5)], [(1, 1), (2, 1)]⟩, 120), (⟨[(1, 5)], [(3, 1)]⟩, 120), (⟨[(1, 3), (2, 1)], [(1, 3)]⟩, 72), (⟨[(1, 3), (2, 1)], [(1, 1), (2, 1)]⟩, 12), (⟨[(1, 3), (2, 1)], [(3, 1)]⟩, 12), (⟨[(1, 1), (2, 2)], [(1, 3)]⟩, 48), (⟨[(1, 1), (2, 2)], [(1, 1), (2, 1)]⟩, 8), (⟨[(1, 1), (2, 2)], [(3, 1)]⟩, 8), (⟨[(1, 2), (3, 1)], [(1, 3)]⟩, 36), (⟨[(1, 2), (3, 1)], [(1, 1), (2, 1)]⟩, 6), (⟨[(1, 2), (3, 1)], [(3, 1)]⟩, 6), (⟨[(2, 1), (3, 1)], [(1, 3)]⟩, 36), (⟨[(2, 1), (3, 1)], [(1, 1), (2, 1)]⟩, 6), (⟨[(2, 1), (3, 1)], [(3, 1)]⟩, 6), (⟨[(1, 1), (4, 1)], [(1, 3)]⟩, 24), (⟨[(1, 1), (4, 1)], [(1, 1), (2, 1)]⟩, 4), (⟨[(1, 1), (4, 1)], [(3, 1)]⟩, 4), (⟨[(5, 1)], [(1, 3)]⟩, 30), (⟨[(5, 1)], [(1, 1), (2, 1)]⟩, 5), (⟨[(5, 1)], [(3, 1)]⟩, 5), (⟨[(1, 6)], [(1, 2)]⟩, 1440), (⟨[(1, 6)], [(2, 1)]⟩, 720), (⟨[(1, 4), (2, 1)], [(1, 2)]⟩, 96), (⟨[(1, 4), (2, 1)], [(2, 1)]⟩, 48), (⟨[(1, 2), (2, 2)], [(1, 2)]⟩, 32), (⟨[(1, 2), (2, 2)], [(2, 1)]⟩, 16), (⟨[(2, 3)], [(1, 2)]⟩, 96), (⟨[(2, 3)], [(2, 1)]⟩, 48), (⟨[(1, 3), (3, 1)], [(1, 2)]⟩, 36), (⟨[(1, 3), (3, 1)], [(2, 1)]⟩, 18), (⟨[(1, 1), (2, 1), (3, 1)], [(1, 2)]⟩, 12), (⟨[(1, 1), (2, 1), (3, 1)], [(2, 1)]⟩, 6), (⟨[(3, 2)], [(1, 2)]⟩, 36), (⟨[(3, 2)], [(2, 1)]⟩, 18), (⟨[(1, 2), (4, 1)], [(1, 2)]⟩, 16), (⟨[(1, 2), (4, 1)], [(2, 1)]⟩, 8), (⟨[(2, 1), (4, 1)], [(1, 2)]⟩, 16), (⟨[(2, 1), (4, 1)], [(2, 1)]⟩, 8), (⟨[(1, 1), (5, 1)], [(1, 2)]⟩, 10), (⟨[(1, 1), (5, 1)], [(2, 1)]⟩, 5), (⟨[(6, 1)], [(1, 2)]⟩, 12), (⟨[(6, 1)], [(2, 1)]⟩, 6), (⟨[(1, 7)], [(1, 1)]⟩, 5040), (⟨[(1, 5), (2, 1)], [(1, 1)]⟩, 240), (⟨[(1, 3), (2, 2)], [(1, 1)]⟩, 48), (⟨[(1, 1), (2, 3)], [(1, 1)]⟩, 48), (⟨[(1, 4), (3, 1)], [(1, 1)]⟩, 72), (⟨[(1, 2), (2, 1), (3, 1)], [(1, 1)]⟩, 12), (⟨[(2, 2), (3, 1)], [(1, 1)]⟩, 24), (⟨[(1, 1), (3, 2)], [(1, 1)]⟩, 18), (⟨[(1, 3), (4, 1)], [(1, 1)]⟩, 24), (⟨[(1, 1), (2, 1), (4, 1)], [(1, 1)]⟩, 8), (⟨[(3, 1), (4, 1)], [(1, 1)]⟩, 12), (⟨[(1, 2), (5, 1)], [(1, 1)]⟩, 10), (⟨[(2, 1), (5, 1)], [(1, 1)]⟩, 10), (⟨[(1, 1), (6, 1)], [(1, 1)]⟩, 6), (⟨[(7, 1)], [(1, 1)]⟩, 7), (⟨[(1, 8)], []⟩, 40320), (⟨[(1, 6), (2, 1)], []⟩, 1440), (⟨[(1, 4), (2, 2)], []⟩, 192), (⟨[(1, 2), (2, 3)], []⟩, 96), (⟨[(2, 4)], []⟩, 384), (⟨[(1, 5), (3, 1)], []⟩, 360), (⟨[(1, 3), (2, 1), (3, 1)], []⟩, 36), (⟨[(1, 1), (2, 2), (3, 1)], []⟩, 24), (⟨[(1, 2), (3, 2)], []⟩, 36), (⟨[(2, 1), (3, 2)], []⟩, 36), (⟨[(1, 4), (4, 1)], []⟩, 96), (⟨[(1, 2), (2, 1), (4, 1)], []⟩, 16), (⟨[(2, 2), (4, 1)], []⟩, 32), (⟨[(1, 1), (3, 1), (4, 1)], []⟩, 12), (⟨[(4, 2)], []⟩, 32), (⟨[(1, 3), (5, 1)], []⟩, 30), (⟨[(1, 1), (2, 1), (5, 1)], []⟩, 10), (⟨[(3, 1), (5, 1)], []⟩, 15), (⟨[(1, 2), (6, 1)], []⟩, 12), (⟨[(2, 1), (6, 1)], []⟩, 12), (⟨[(1, 1), (7, 1)], []⟩, 7), (⟨[(8, 1)], []⟩, 8)]
theorem pre8 : (shapesL 8).bind preL = some P8 := by kernel_rfl
theorem tot8 : (totOf 8).map List.sum = some 1441729 := by kernel_rfl
theorem deg8 : degs.all (okTurn (fact (8 : Int).toNat) 1441729 P8) = true := by kernel_rfl
theorem size8 : SizeOk 8 := ⟨P8, _, pre8, tot8, deg8⟩
theorem turns : Turns := by
  intro size deg h1 h8 hd
  have hs : size = 1 ∨ size = 2 ∨ size = 3 ∨ size = 4 ∨ size = 5 ∨ size = 6 ∨ size = 7 ∨ size = 8 := by omega
  rcases hs with rfl | rfl | rfl | rfl | rfl | rfl | rfl | rfl
  · exact turn_of size1 hd
  · exact turn_of size2 hd
  · exact turn_of size3 hd
  · exact turn_of size4 hd
  · exact turn_of size5 hd
  · exact turn_of size6 hd
  · exact turn_of size7 hd
  · exact turn_of size8 hd
end Ck
set_option maxHeartbeats 0
/-! closed facts of _law_known, by the kernel (this text is printed by wip/gen_k.py) -/
namespace Ck
open PySem PySem.Spec PyProof.Rows L2
def PL : List Int := [1, 1, 2, 4, 10, 26, 76, 232, 764, 2620, 9496, 35696, 140152, 568504, 2390480, 10349536, 46206736, 211799312, 997313824, 4809701440, 23758664096, 119952692896, 618884638912, 3257843882624, 17492190577600, 95680443760576, 532985208200576, 3020676745975552, 17411277367391104, 101990226254706560, 606917269909048576, 3666624057550245376, 22481059424730751232, 139813029266338603264, 881687990282453393920, 5635330985337965904896, 36494410645223834692096, 239366326117390607268352, 1589659519990672490875904, 10685579912451515567073280, 72682301192087742711233536]
theorem pl_eq : pairsL = some PL := by kernel_rfl
theorem pl2 : countRoots (mkMp 2 (idG (2 : Int).toNat)) 2 = some 2 ∧ arrowsOk 2 (idG (2 : Int).toNat) = true := ⟨by kernel_rfl, by kernel_rfl⟩
theorem pl9 : countRoots (mkMp 9 (idG (9 : Int).toNat)) 2 = some 2620 ∧ arrowsOk 9 (idG (9 : Int).toNat) = true := ⟨by kernel_rfl, by kernel_rfl⟩
theorem pl17 : countRoots (mkMp 17 (idG (17 : Int).toNat)) 2 = some 211799312 ∧ arrowsOk 17 (idG (17 : Int).toNat) = true := ⟨by kernel_rfl, by kernel_rfl⟩
theorem pl40 : countRoots (mkMp 40 (idG (40 : Int).toNat)) 2 = some 72682301192087742711233536 ∧ arrowsOk 40 (idG (40 : Int).toNat) = true := ⟨by kernel_rfl, by kernel_rfl⟩
def RL2 : List Int := [1, 1, 3, 7, 25, 81, 331, 1303, 5937, 26785, 133651, 669351, 3609673, 19674097, 113525595, 664400311, 4070168161, 25330978113, 163716695587, 1075631907655, 7296866339961, 50322142646161, 356790528924523, 2570964805355607, 18983329135883665, 142389639792952801, 1091556096587136051, 8495817365820681703, 67439846581526028457, 543205619067484203825, 4454716720795993854331, 37047053864845046083831, 313239490554196665052353, 2684250937904279614417537, 23358057314481259507872835, 205887121091972273288265351, 1840951133105660438839363801, 16664823851727664115594469073, 152895207701546536589707390347, 1419421820432849009374887039895, 13345248021153478863372063486961]
theorem rl2_eq : rows 2 = some RL2 := by kernel_rfl
theorem rl2_2 : countRoots (mkMp 2 []) 2 = some 3 := by kernel_rfl
theorem rl2_9 : countRoots (mkMp 9 []) 2 = some 26785 := by kernel_rfl
theorem rl2_17 : countRoots (mkMp 17 []) 2 = some 25330978113 := by kernel_rfl
theorem rl2_40 : countRoots (mkMp 40 []) 2 = some 13345248021153478863372063486961 := by kernel_rfl
def RL3 : List Int := [1, 1, 3, 13, 49, 261, 1531, 9073, 63393, 465769, 3566611, 29998101, 262167313, 2394499693, 23249961099, 233439305401, 2439472944961, 26649502709073, 300078056044963, 3498896317045789, 42244252226263281, 524289088799352661, 6707157041780104603, 88326410534552529153, 1192726471253854680289, 16539446238100229302201, 235163308762987515792051, 3421031132089216066070053, 50951923582729624829276113, 775880051254181410345570749, 12064723456821829987390234411, 191602047082997035412535134281, 3104320244405116629494872057473, 51271468265218692938370458258593, 863151889554890998671943319454019, 14798753674257384693360873826492461, 258258527649930488390379442171450801, 4586482934713950161292308105215099813, 82833433663141315536850438636566333243, 1520740606328808327825686341712093397649, 28373251559792053356805622391150601159201]
theorem rl3_eq : rows 3 = some RL3 := by kernel_rfl
theorem rl3_2 : countRoots (mkMp 2 []) 3 = some 3 := by kernel_rfl
theorem rl3_9 : countRoots (mkMp 9 []) 3 = some 465769 := by kernel_rfl
theorem rl3_17 : countRoots (mkMp 17 []) 3 = some 26649502709073 := by kernel_rfl
theorem rl3_40 : countRoots (mkMp 40 []) 3 = some 28373251559792053356805622391150601159201 := by kernel_rfl
def RL7 : List Int := [1, 1, 3, 13, 73, 501, 4051, 37633, 354033, 3870793, 46240291, 597877941, 8298856633, 122751616573, 1921371570483, 31604885804521, 552755907700321, 10156326950561553, 195421314725788483, 3926668816722630493, 82199760488718697641, 1789438454541407131141, 40463772978864640477843, 950230870335869552898513, 23096019528508085461845073, 580187558392947123787853401, 15044690460786902759590071651, 402270013240341889967274126853, 11080712214308446407507859788313, 314164016281392017153516203031373, 9159479717754374934989888178404851, 274250637152355333456943570860809401, 8426433004819110293208206874111280833, 265488303937782969900143808981504102433, 8571530802496639063885330377332741069443, 283398039113549634710551278733922548039341, 9588975360230585486841732551370719804223241, 331809631020208958230384272888383762096422933, 11734343790591943002202797721574805533506858323, 423891960945372923142972114027107451972153347233, 15633650892094901549588975436633960318970444313521]
theorem rl7_eq : rows 7 = some RL7 := by kernel_rfl
theorem rl7_2 : countRoots (mkMp 2 []) 7 = some 3 := by kernel_rfl
theorem rl7_9 : countRoots (mkMp 9 []) 7 = some 3870793 := by kernel_rfl
theorem rl7_17 : countRoots (mkMp 17 []) 7 = some 10156326950561553 := by kernel_rfl
theorem rl7_40 : countRoots (mkMp 40 []) 7 = some 15633650892094901549588975436633960318970444313521 := by kernel_rfl
def RLB : List Int := [1, 1, 3, 13, 73, 501, 4051, 37633, 394353, 4596553, 58941091, 824073141, 12470162233, 202976401213, 3535017524403, 65573803186921, 1290434218669921, 26846616451246353, 588633468315403843, 13564373693588558173, 327697927886085654441, 8281153039765859726341, 218456450997775993367443, 6004647590528092507965393, 171679472549945695230447313, 5097728684975832001895021401, 156976479403800014958377703651, 5006229763167109991562254382853, 165145148432723439035142843093913, 5628563759710900871382077742916173, 197987401295571718915006598239796851, 7180381008081391095712994856290537401, 268235720304245940438962539583292784833, 10312383859759246161585274175473817912353, 407672797962585779722668927956788619344003, 16558928368768544607565478404136791037076141, 690553284607089589267172942425133706613042441, 29546140031669173810971122007822403876036160533, 1296143527278544702918959791276402193494139508563, 58261178715921083746534506385284669049341900449953, 2681748411130962366250327593765860804139695383855921]
theorem rlB_eq : rows (10 ^ 30) = some RLB := by kernel_rfl
theorem rlB_2 : countRoots (mkMp 2 []) (10 ^ 30) = some 3 := by kernel_rfl
theorem rlB_9 : countRoots (mkMp 9 []) (10 ^ 30) = some 4596553 := by kernel_rfl
theorem rlB_17 : countRoots (mkMp 17 []) (10 ^ 30) = some 26846616451246353 := by kernel_rfl
theorem rlB_40 : countRoots (mkMp 40 []) (10 ^ 30) = some 2681748411130962366250327593765860804139695383855921 := by kernel_rfl
theorem t20 : (mapOf ⟨[(2, 20)], []⟩).bind (countRoots · 2) = some (oddF 10 * 1024) := by kernel_rfl
theorem t19 : (mapOf ⟨[(2, 19)], []⟩).bind (countRoots · 2) = some 0 := by kernel_rfl
theorem four {P : Int → Prop} (h1 : P 2) (h2 : P 9) (h3 : P 17) (h4 : P 40) (n : Int) (h : n ∈ [2, 9, 17, 40]) : P n := by
  simp only [List.mem_cons, List.not_mem_nil, or_false] at h
  rcases h with rfl | rfl | rfl | rfl
  · exact h1
  · exact h2
  · exact h3
  · exact h4
theorem four' {P : Int → Prop} (h1 : P 2) (h2 : P 3) (h3 : P 7) (h4 : P (10 ^ 30)) (n : Int) (h : n ∈ [2, 3, 7, 10 ^ 30]) : P n := by
  simp only [List.mem_cons, List.not_mem_nil, or_false] at h
  rcases h with rfl | rfl | rfl | rfl
  · exact h1
  · exact h2
  · exact h3
  · exact h4
theorem known : Known := by
  refine ⟨⟨PL, pl_eq, four ⟨_, rfl, pl2⟩ ⟨_, rfl, pl9⟩ ⟨_, rfl, pl17⟩ ⟨_, rfl, pl40⟩⟩, four' ?_ ?_ ?_ ?_, ?_, ?_⟩
  · exact ⟨RL2, rl2_eq, four ⟨_, rfl, rl2_2⟩ ⟨_, rfl, rl2_9⟩ ⟨_, rfl, rl2_17⟩ ⟨_, rfl, rl2_40⟩⟩
  · exact ⟨RL3, rl3_eq, four ⟨_, rfl, rl3_2⟩ ⟨_, rfl, rl3_9⟩ ⟨_, rfl, rl3_17⟩ ⟨_, rfl, rl3_40⟩⟩
  · exact ⟨RL7, rl7_eq, four ⟨_, rfl, rl7_2⟩ ⟨_, rfl, rl7_9⟩ ⟨_, rfl, rl7_17⟩ ⟨_, rfl, rl7_40⟩⟩
  · exact ⟨RLB, rlB_eq, four ⟨_, rfl, rlB_2⟩ ⟨_, rfl, rlB_9⟩ ⟨_, rfl, rlB_17⟩ ⟨_, rfl, rlB_40⟩⟩
  · exact Option.bind_eq_some_iff.mp t20
  · exact Option.bind_eq_some_iff.mp t19
end Ck
set_option maxHeartbeats 0
/-! the end -/
namespace Ck
open PySem PySem.Spec PyProof.Rows L2
theorem law_binds {K : PySem.W.Frag} {fd : FuncData} (F : Fun K d_law.nm d_law.ql d_law.st (d_law.pth.ad K) fd) (s : Shared) (u : Value) : BindsTo s fd ⟨[u], []⟩ [("_law_script", u)] := by
  obtain ⟨oc, od, kV, doc, pm, an, cdv, ct, osl, rfl, _, _⟩ := F.ex
  exact .of_eq rfl
theorem end_ {P : Program} {w : World} {K : PySem.W.Frag} {h : Heap} {mg : Str → Option Value} {fa : Addr} (X : K.In h) (G : h.Ns mainGlobals mg) (hfa : mg ("law" : Str) = some (.ref fa)) (c : Says fx dfs K) :
    ∃ fd : FuncData, (∀ (s : Shared) (u : Value), BindsTo s fd ⟨[u], []⟩ [("_law_script", u)]) ∧ ∀ base : Heap, K.In base → base.Ns mainGlobals mg → FnOk P w K mg base CX0 125 fa fd ["_law_script"] (sp_law K) := by
  have T := Tx.of X G c
  obtain ⟨fd, F, _⟩ := T.f_law
  have e := hfa.symm.trans T.m_law
  cases e
  exact ⟨fd, law_binds F, fun base _ _ => ok_law T known turns F⟩
end Ck
open PySem PySem.W PySem.Calls PyProof.Rows
theorem PySem.Challenge.cw_chainmaps_k25_whole_roots_counted_togeth_holds : PySem.Challenge.rw_chainmaps_k25_whole_roots_counted_togeth.Holds := by
  w_on; o_law
  refine HandSHeadRun.head_any (r := Ck.R) (q := Ck.qv) (H := Ck.hk) (ob := Ck.ob) (M := 9000) (loose := Ck.names) (d := HandSHeadRun.topDef Ck.R.prog 66) (kwd := []) Ck.ob_eq
    (by kernel_rfl) (fun s => by kernel_rfl) Ck.run (by kernel_rfl) (by kernel_rfl) (by kernel_rfl) (by rfl) (by first | assumption | decide +kernel) (by decide +kernel) ⟨rfl, rfl, rfl, rfl, rfl, by decide +kernel⟩ ?hw ?hc
  case hw => w_witness2
  case hc =>
    refine L2.walk_ofE (l := PySem.Challenge.rw_chainmaps_k25_whole_roots_counted_togeth) (n := 63) (k := 125) (x := "_law_script") (CX := L2.CX0) rfl (by decide) (by kernel_rfl) ⟨rfl, by decide, by decide⟩ ?F (fun _ _ _ _ z => z)
    intro w mg fa h Y G hmg0
    obtain ⟨K, KX, c⟩ := Y
    have hmg : mg ("law" : PySem.Str) = some (.ref fa) := by
      have e : (HandSHeadRun.topDef Ck.R.prog 66).name = ("law" : PySem.Str) := by kernel_rfl
      rw [← e]
      exact hmg0
    obtain ⟨fd, hb, hF⟩ := Ck.end_ (P := (PySem.Challenge.rw_chainmaps_k25_whole_roots_counted_togeth).prog) (w := w) KX G hmg c
    exact ⟨K, fd, Ck.sp_law K, KX, hb, fun H a ns hl _ hS => ⟨a, ns, rfl, hS, hl, fun _ => rfl⟩, hF⟩
