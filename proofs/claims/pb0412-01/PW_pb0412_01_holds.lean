import PyProof.Rows.All
import Wide.All
import OpenK.AllK
import Wide.FinOn
import PySem.Challenge.RW_pb0412_01
open PySem PySem.W PyProof.Rows PySem.Spec PySem.Calls
set_option Elab.async false
set_option maxRecDepth 100000
set_option maxHeartbeats 8000000
set_option linter.all false
namespace Mine
open_top hd for PySem.Challenge.rw_pb0412_01
local macro_rules | `(tactic| walk_at $s:str) => `(tactic| first | k_extra $s | fail)
local macro_rules | `(tactic| k_all) => `(tactic| first | k_extra "k_all" | fail)
local macro_rules | `(tactic| k_mem) => `(tactic| first | k_extra "k_mem" | fail)
local macro_rules | `(tactic| k_ne) => `(tactic| first | k_extra "k_ne" | fail)
theorem words (w : World) (h : Heap) : (Mine.hd.heap_39 w.params).In h → PySem.Challenge.rw_pb0412_01.name = PySem.Challenge.rw_pb0412_01.name := by
  k_fill
  w_top off
  (k_with "my_fold" => (refine let qk := _; let ek := _; (?_ : wpAny _ _ _ qk ek _)))
  (k_with "my_foldq" => (refine let qk := _; (?_ : wpAny _ _ _ qk _ _)))
  (k_with "my_names" => first | exact Names.nil | (refine Names.cons (by rfl) ?_; k_extra "my_names") | fail)
  (k_with "my_pick0" => first | exact Pick.head | assumption | (apply Pick.tail; k_extra "my_pick0") | fail)
  (k_with "my_pick" => first | with_reducible (k_extra "my_pick0") | k_extra "my_pick0")
  (k_with "my_memb0" => first | exact mem_hd | assumption | exact mem_sub (by assumption) (by assumption) | (refine' mem_tl ?_; k_extra "my_memb0") | (refine' List.mem_append.mpr (Or.inl ?_); k_extra "my_memb0") | (refine' List.mem_append.mpr (Or.inr ?_); k_extra "my_memb0") | fail)
  (k_with "my_memb" => first | with_reducible (k_extra "my_memb0") | k_extra "my_memb0")
  (k_with "my_sub0" => first | exact fun _ h => h | assumption | exact sub_nil | (refine' sub_of_cons ?_ ?_; k_extra "my_memb0"; k_extra "my_sub0") | (refine' sub_of_app ?_ ?_; k_extra "my_sub0"; k_extra "my_sub0") | (refine' sub_cons ?_; k_extra "my_sub0") | (refine' sub_appR ?_; k_extra "my_sub0") | (refine' sub_appL ?_; k_extra "my_sub0") | fail)
  (k_with "my_sub" => first | with_reducible (k_extra "my_sub0") | k_extra "my_sub0")
  (k_with "my_room" => first | ((try dsimp only [ktrTop, Around.deeper, Around.in1, Around.mark]); (try simp only [Nat.add_assoc, Nat.reduceAdd]); first | with_reducible (exact rm0 (by assumption)) | with_reducible (exact rmN _ (by assumption) rfl) | decide | omega) | ((try simp only [depth_under_make, depth_under_kw, depth_in1, depth_deeper, depth_caller, depth_mark, units_in1, units_deeper, Around.mark_units, units_caller]); (try dsimp only [ktrTop]); omega) | ktr_room | ktr_units)
  (k_with "k_all" => (refine fa_cons ?_ ?_; k_ne; k_all))
  (k_with "k_all" => (refine forall_app ?_ ?_; k_all; k_all))
  (k_with "k_all" => first | exact allLt_ne (by assumption) | fail)
  (k_with "k_all" => assumption)
  (k_with "k_all" => first | exact allLt_sub (by assumption) (by k_extra "my_sub") | fail)
  (k_with "k_mem" => k_extra "my_memb")
  (k_with "k_mem" => assumption)
  (k_with "my_lt0" => first | with_reducible assumption | with_reducible (exact And.left (by assumption)) | with_reducible (exact And.left (And.right (by assumption))) | with_reducible (exact And.left (And.right (And.right (by assumption)))) | with_reducible (exact And.left (And.right (And.right (And.right (by assumption))))) | with_reducible (exact And.left (And.right (And.right (And.right (And.right (by assumption)))))) | with_reducible (exact And.left (And.right (And.right (And.right (And.right (And.right (by assumption))))))) | with_reducible (exact And.left (And.right (And.right (And.right (And.right (And.right (And.right (by assumption)))))))) | with_reducible (exact And.left (And.right (And.right (And.right (And.right (And.right (And.right (And.right (by assumption))))))))) | with_reducible (exact And.left (And.right (And.right (And.right (And.right (And.right (And.right (And.right (And.right (by assumption)))))))))) | with_reducible (exact And.right (by assumption)) | with_reducible (exact And.right (And.right (by assumption))) | with_reducible (exact And.right (And.right (And.right (by assumption)))) | with_reducible (exact And.right (And.right (And.right (And.right (by assumption))))) | with_reducible (exact And.right (And.right (And.right (And.right (And.right (by assumption)))))) | with_reducible (exact And.right (And.right (And.right (And.right (And.right (And.right (by assumption))))))) | with_reducible (exact And.right (And.right (And.right (And.right (And.right (And.right (And.right (by assumption)))))))) | with_reducible (exact And.right (And.right (And.right (And.right (And.right (And.right (And.right (And.right (by assumption))))))))) | fail)
  (k_with "my_lt" => first | k_extra "my_lt0" | (dsimp only; k_extra "my_lt0"))
  (k_with "k_ne" => first | exact Nat.ne_of_lt (Nat.lt_succ_self _) | with_reducible (exact And.left (by assumption)) | with_reducible (exact And.right (by assumption)) | with_reducible (exact Ne.symm (And.left (by assumption))) | with_reducible (exact Ne.symm (And.right (by assumption))) | exact nelt (by k_extra "my_lt") | exact negt (by k_extra "my_lt") | fail)
  (k_with "k_ne" => first | assumption | exact Ne.symm (by assumption) | fail)
  (k_with "k_ne" => first | exact off_of (by assumption) (by assumption) | exact Ne.symm (off_of (by assumption) (by assumption)) | fail)
  (k_with "k_ne" => first | exact NewOff.ne (by assumption) (by k_extra "my_memb") (by assumption) | exact Ne.symm (NewOff.ne (by assumption) (by k_extra "my_memb") (by assumption)) | fail)
  (k_with "call builtin:len" => (k_here; (with_reducible show wpAny _ _ (call (Value.builtin "len") [Value.ref _]) _ _ _); k_dflt (refine' len_sym (by k_asm) (by k_mem) (by assumption) (by k_extra "my_num") ?_; k_whole)))
  (k_with "call builtin:divmod" => (k_here; (with_reducible show wpAny _ _ (call (Value.builtin "divmod") [Value.int _ _, Value.int _ _]) _ _ _); k_dflt (refine' divmod_sym (by k_asm) (by k_asm) (by k_extra "my_num") (by k_extra "my_num") (by k_extra "my_num") (by k_extra "my_num") ?_; k_whole); intro D' h' F' N' l1; k_lt l1))
  (k_with "call builtin:list.append" => (k_here; (with_reducible show wpAny _ _ (call (Value.builtin "list.append") [Value.ref _, _]) _ _ _); k_dflt (refine' append_sym (by k_asm) (by k_asm) (by k_upd) (by k_extra "my_num") ?_; k_whole); intro h' F' N'))
  (k_with "binaryOp Add ref ref" => (k_here; (with_reducible show wpAny _ _ (binaryOp _ (Value.ref _) (Value.ref _)) _ _ _); k_dflt (refine' add_sym (ws := [_]) (by k_asm) (by k_asm) (by k_mem) (by k_mem) (by first | exact one_fit (by assumption) | decide | (simp only [List.length_cons, List.length_nil]; omega)) ?_; k_whole); intro D' h' F' N' l1; k_lt l1))
  (k_with "my_enter" => (k_dflt (refine' my_def (by exact rfl) (by exact rfl) (by first | exact rfl | assumption) (by k_asm) (by k_asm) (by k_asm) (by k_asm) (by k_asm) (by k_is) (by k_is) (by k_extra "my_room") (by first | exact BindsTo.of_eq (binds := [(_, _)]) rfl | exact BindsTo.of_eq (binds := [(_, _), (_, _)]) rfl | exact BindsTo.of_eq (binds := [(_, _), (_, _), (_, _)]) rfl | exact BindsTo.of_eq (binds := [(_, _), (_, _), (_, _), (_, _)]) rfl | exact BindsTo.of_eq (binds := [(_, _), (_, _), (_, _), (_, _), (_, _)]) rfl | exact BindsTo.of_eq rfl | exact binds_K (by k_in) rfl (by k_is) rfl rfl rfl | fail) (by decide) (by exact locs rfl) (by exact rfl) (by exact rfl) (by exact rfl) ?_; k_whole); intro g' L' h' tk' FG' F' N' B' X' T'; (try dsimp only); (try k_lift B'); (try k_extra "my_fold")))
  (k_with "call ref" => (k_here; (try k_extra "my_foldq"); k_dflt (refine' call_cls (by k_asm) (by k_asm) (by k_asm) (by k_is) (by k_is) (by k_is) ?_; k_whole); intro x' d' h' F' N' l1 l2; (try k_lt l1); (try k_lt2 l2); (try k_sweep); k_extra "my_enter"))
  (k_with "call ref" => (k_here; (try k_extra "my_foldq"); refine wpAny_call ?_; k_extra "my_enter"))
  (k_with "my_tape" => (refine' TapeIn.mono (by assumption) (by k_extra "my_sub")))
  (k_with "subscriptTail" => (k_here; (with_reducible show wpAny _ _ (subscriptTail _ _ (Value.ref 230) (Value.int _ _)) _ _ _); k_dflt (refine' signs_item (by k_asm) (by k_asm) (by k_extra "my_num") (by k_extra "my_num") ?_ (by with_unfolding_all rfl); k_whole); intro sg tsg hsg hsgo))
  (k_with "subscriptTail" => (k_here; (with_reducible show wpAny _ _ (subscriptTail _ _ (Value.ref 231) (Value.int _ _)) _ _ _); k_dflt (refine' names_item (by k_asm) (by k_asm) (by k_extra "my_num") (by k_extra "my_num") ?_ (by with_unfolding_all rfl); k_whole); intro nm tnm hnm hnmo))
  (k_with "newList" => (k_here; (rename InRows => inrows); k_dflt (refine' newList_K (by k_asm) (by k_asm) ?_; k_whole); intro fL hL0 FL NL hltL; k_lt hltL))
  (k_with "pyIter ref" => (k_here; (rename InRows => inrows); (with_reducible show wpAny _ _ (pyIter (Value.ref _)) _ _ _); refine hold ?_))
  (k_with "getMethod type:Exception" => (k_here; refine' method_type (by k_asm) (by k_asm) (by exact meta_Exception) (by decide +kernel) (by k_dflt k_is) (by k_handed) ?_))
  (k_with "call builtin:Exception.__init__" => (k_here; k_dflt (refine' err_init (by k_asm) (by k_asm) (by k_asm) (by k_all) ?_; k_whole); intro t1' h' F' N' l1; k_lt l1))
  (k_with "setAttr ref" => (k_here; (with_reducible show wpAny _ _ (setAttr (Value.ref _) (PySem.Str.ofString "what") _) _ _ _); k_dflt (refine' err_set0 (by k_asm) (by k_asm) (by k_asm) (by k_extra "my_pick") (by k_all) (by k_is) (by k_is) ?_; k_whole); intro D' h' tk' F' N' l1; k_lt l1))
  (k_with "setAttr ref" => (k_here; (with_reducible show wpAny _ _ (setAttr (Value.ref _) (PySem.Str.ofString "at") _) _ _ _); k_dflt (refine' err_set1 (by k_asm) (by k_asm) (by k_asm) (by k_extra "my_pick") (by k_extra "my_memb") (by k_all) (by k_is) (by k_is) (by rfl) (by exact rfl) (by exact Nat.le_of_ble_eq_true rfl) ?_; k_whole); intro h' tk' F' N'))
  (k_with "eval Lambda" => (k_here; k_dflt (refine' kla_eval (by exact rfl) ?_); k_dflt (refine' lam_sym (by k_asm) (by k_asm) (by k_extra "my_pick") (by k_asm) (by assumption) (by assumption) (by k_extra "my_sub") (by k_all) (by exact rfl) ?_; k_whole); intro f' c' oc' vs' tq' ct' ps' h' tk' F' N' TO' d1' d2' hnew' l1 l2; (try dsimp only at N'); k_lt l1; k_lt2 l2))
  (k_with "call ref" => (k_here; k_dflt ((try k_extra "my_foldq"); refine wpAny_call ?_; refine' my_lam (by exact rfl) (by exact rfl) (by first | exact rfl | assumption) (by k_asm) (by k_asm) (by k_asm) (by k_asm) (by k_asm) (by k_extra "my_memb") (by exact codeRec_news (by k_asm) (by k_extra "my_memb") (by assumption) (by assumption)) (by k_extra "my_room") (by exact rfl) (by decide) (by exact locs rfl) (by exact rfl) (by exact rfl) (by exact rfl) ?_; k_whole); intro g' L' h' tk' FG' F' N' B' X' T'; (try dsimp only); (try k_lift B'); (try k_extra "my_fold")))
  (k_with "getMethod ref" => (k_here; (with_reducible show wpAny _ _ (getMethod (Value.ref _) (PySem.Str.ofString "told") _) _ _ _); k_dflt (refine' err_method_N (by k_asm) (by k_asm) (by k_asm) (by assumption) (by assumption) (by assumption) (by k_extra "my_memb") (by k_extra "my_memb") (by k_is) (by k_is) (by k_is) (by k_is) (by k_get) ?_; k_whole)))
  (k_with "getAttr ref" => (k_here; (with_reducible show wpAny _ _ (getAttr (Value.ref _) (PySem.Str.ofString "at") _) _ _ _); k_dflt (refine' err_get_N (by k_asm) (by k_asm) (by k_asm) (by assumption) (by assumption) (by assumption) (by k_extra "my_memb") (by k_extra "my_memb") (by k_is) (by k_is) (by k_is) (by k_is) (by k_get) (by k_handed) ?_; k_whole); intro tk'))
  (k_with "exec Raise some none" => (k_here; (with_reducible show wpAny _ _ (exec (Stmt.Raise (some (Expr.Call (Expr.Name (PySem.Str.ofString "ReadError") _) _ [] _)) none _) _) _ _ _); k_dflt (refine' raise_own (by exact rfl) ?_; k_whole)))
  (k_with "RaisableOwn" => (k_dflt (refine' raisable_of (by k_asm) (by k_asm) (by k_asm) (by k_extra "my_memb") ?_; k_whole)))
  (k_with "leaving ref" => (k_here; (refine' leave_first_N (by exact rfl) (by exact rfl) (by assumption) (by k_asm) (by k_extra "my_pick") (by k_extra "my_pick") (by assumption) (by k_ne) (by k_all) (by k_all) ?_); k_whole; intro h' R' U'; (try dsimp only at R' U' ⊢)))
  (k_with "leaving ref" => (k_here; (refine' leave_on (by assumption) (by exact rfl) (by assumption) (by assumption) (by assumption) ?_); k_whole; intro h' R' U'; (try dsimp only at R' U' ⊢)))
  (k_with "noteFrame ref" => (k_here; (with_reducible show wpAny _ _ (noteFrame _ _) (fun _ s₂ => wpAny _ _ (setFlight _ none) (fun _ s₃ => wpAny _ _ (handleBy _ _ (ExceptHandler.ExceptHandler (some (Expr.Name (PySem.Str.ofString "ReadError") _)) (some _) _ _ :: _)) _ _ s₃) _ s₂) _ _); k_dflt (refine' caught_own (by assumption) (by assumption) (by assumption) (by assumption) (by assumption) (by assumption) (by assumption) (by first | assumption | exact KtsTurn.refl) (by k_is) ?_ (by exact rfl) (by exact rfl) (by exact rfl) (by decide); k_whole); intro h' g' oe' ws' tk' T' F' N' oc' od' of' K' X' P' D'; (try k_lift K'); (try k_sweep)))
  (k_with "compareOp Eq ref ref" => (k_here; (with_reducible show wpAny _ _ (compareOp CmpOp.Eq (Value.ref _) (Value.ref _)) _ _ _); k_dflt (refine' eq_dataH (by ked_read) (by ked_read) (by first | exact shaped2 (strOk_of _) (by assumption) | exact shaped3 (strOk_of _) | exact shaped1 (strOk_of _) | fail) (by first | exact shaped2 (strOk_of _) (by assumption) | exact shaped3 (strOk_of _) | exact shaped1 (strOk_of _) | fail) (by k_extra "my_room") ?_; k_whole); (try simp only [PyData.eqv, PyData.eqvAll, beq_self_eq_true, Bool.and_true])))
  (k_with "subscriptTail" => (k_here; (with_reducible show wpAny _ _ (subscriptTail _ _ (Value.ref _) (Value.int _ _)) _ _ _); k_dflt (refine' row_item (by assumption) (by k_asm) (by k_extra "my_sub") (by k_extra "my_num") (by k_extra "my_num") ?_ (by with_unfolding_all rfl); k_whole); intro ra' t1' t2' t3' l1))
  (k_with "subscriptTail" => (k_here; (with_reducible show wpAny _ _ (subscriptTail _ _ (Value.ref _) (Value.int _ _)) _ _ _); k_dflt (refine' tok_item (by assumption) (by k_asm) (by k_extra "my_sub") (by k_extra "my_num") (by k_extra "my_num") ?_ (by with_unfolding_all rfl); k_whole); intro a' d' pl' pd' a1' a2' a3' a4' b1' b2' b3' c1' c2' c3' c4' l1 l2 l3 l4))
  (k_with "subscriptTail" => (k_here; (with_reducible show wpAny _ _ (subscriptTail _ _ (Value.ref _) (Value.int _ _)) _ _ _); k_dflt (refine' tok_last (by assumption) (by k_asm) (by k_extra "my_sub") (by rfl) ?_ (by with_unfolding_all rfl); k_whole); intro a' d' pl' pd' a1' a2' a3' a4' b1' b2' b3' c1' c2' c3' c4' l1 l2 l3 l4))
  (k_with "call builtin:len" => (k_here; (with_reducible show wpAny _ _ (call (Value.builtin "len") [Value.ref _]) _ _ _); k_dflt (refine' rows_len (by assumption) (by k_asm) (by k_extra "my_sub") ?_; k_whole)))
  (k_with "call builtin:len" => (k_here; (with_reducible show wpAny _ _ (call (Value.builtin "len") [Value.ref _]) _ _ _); k_dflt (refine' toks_len (by assumption) (by k_asm) (by k_extra "my_sub") ?_; k_whole)))
  (k_with "call ref" => (k_here; (with_reducible show wpAny _ _ (call (Value.ref 238) _) _ _ _); k_dflt (refine' cell_c (by k_asm) (by k_asm) (by k_asm) (by k_asm) (by k_asm) (by first | exact rfl | assumption) (by k_extra "my_pick") (by k_extra "my_tape") (by k_all) (by k_extra "my_num") (by k_extra "my_num") (by first | decide | k_extra "my_num") (by first | decide | k_extra "my_num") (by k_extra "my_room") (by k_extra "my_room") ?_); intro v' t' h' tk' tkk' hv0' hv1' F' N'; (try dsimp only); (try k_extra "my_fold"); walk_say "CELL"))
  (k_with "call ref" => (k_here; (with_reducible show wpAny _ _ (call (Value.ref 238) [Value.ref _, Value.int 11 _]) _ _ _); k_dflt (refine' cell_c (by k_asm) (by k_asm) (by k_asm) (by k_asm) (by k_asm) (by first | exact rfl | assumption) (by k_extra "my_pick") (by k_extra "my_tape") (by k_all) (by k_extra "my_num") (by k_extra "my_num") (by decide) (by decide) (by k_extra "my_room") (by k_extra "my_room") ?_); intro way tway h' tk' tkk' hway0 hway1 F' N'; (try dsimp only); (try k_extra "my_fold"); walk_say "CELL"))
  (k_with "call ref" => (k_here; (with_reducible show wpAny _ _ (call (Value.ref 87) [Value.str _ _, Value.ref _]) _ _ _); k_dflt (refine' make_c (by k_asm) (by k_asm) (by k_asm) (by k_asm) (by k_asm) (by first | exact rfl | assumption) (by k_extra "my_room") (by k_extra "my_room") (by k_is) (by k_is) ?_); intro e' t1' D' ta' tb' h' tk' F' N' l1 l2 l3; (have l4 := allLt_of l3); (have l5 := allLt_of fun p hp => Nat.lt_trans (l3 p hp) l1); (have l6 := allLt_of fun p hp => Nat.lt_trans (Nat.lt_trans (l3 p hp) l1) l2); k_lt l3; k_lt2 l1; k_lt2 l2; walk_say "MADE"))
  (k_with "my_ask" => (refine wpAny_call ?_; k_dflt (refine' enterS (by exact rfl) (by exact rfl) (by first | exact rfl | assumption) (by k_asm) (by k_asm) (by k_asm) (by k_asm) (by k_asm) (by assumption) (by assumption) (by assumption) (by first | assumption | exact KtsTurn.refl) (by k_is) (by k_is) (by k_extra "my_room") (by first | exact BindsTo.of_eq (binds := [(_, _)]) rfl | exact BindsTo.of_eq (binds := [(_, _), (_, _)]) rfl | exact BindsTo.of_eq (binds := [(_, _), (_, _), (_, _)]) rfl | exact BindsTo.of_eq (binds := [(_, _), (_, _), (_, _), (_, _)]) rfl | exact BindsTo.of_eq (binds := [(_, _), (_, _), (_, _), (_, _), (_, _)]) rfl | exact BindsTo.of_eq rfl | exact binds_K (by k_in) rfl (by k_is) rfl rfl rfl | fail) (by exact locs rfl) ?_ (by exact rfl) (by exact rfl) (by exact rfl) (by decide); k_whole); intro g' L' h' tk' FG' F' N' B' X' T' D' l1; (try dsimp only); (try k_lt l1); (try k_lift B'); (try k_extra "my_fold")))
  (k_with "call ref" => (k_here; (with_reducible show wpAny _ _ (call (Value.ref 110) _) _ _ _); k_dflt (refine' is_sign_c (by k_asm) (by k_asm) (by k_asm) (by k_asm) (by k_asm) (by first | exact rfl | assumption) (by k_extra "my_memb") (by k_extra "my_memb") (by k_extra "my_room") (by k_extra "my_room") ?_); intro h' tk' F' N'))
  (k_with "call ref" => (k_here; (with_reducible show wpAny _ _ (call (Value.ref 201) _) _ _ _); k_dflt (refine' need_c (by assumption) (by k_asm) (by k_asm) (by k_asm) (by k_asm) (by k_asm) (by first | exact rfl | assumption) (by k_extra "my_pick") (by k_extra "my_sub") (by k_all) (by k_extra "my_num") (by k_extra "my_num") (by first | assumption | (exact Nat.le_trans (by assumption) (by decide)) | fail) (by k_extra "my_room") (by k_extra "my_room") ?_ ?_); intro h' tk' b2' hc' F' N'; rotate_left; intro g' e' te' vs' D' ta' tb' what' pl' pd' c1' c2' c3' c4' h' tk' hc' FG' m1' m2' R' U' lt' l'; rotate_right))
  (k_with "call ref" => (k_here; (with_reducible show wpAny _ _ (call (Value.ref 208) _) _ _ _); k_dflt (refine' need_end_c (by assumption) (by k_asm) (by k_asm) (by k_asm) (by k_asm) (by k_asm) (by first | exact rfl | assumption) (by k_extra "my_pick") (by k_extra "my_sub") (by k_all) (by k_extra "my_num") (by k_extra "my_num") (by assumption) (by k_extra "my_room") (by k_extra "my_room") ?_ ?_); intro h' tk' b2' hc' F' N'; rotate_left; intro g' e' te' vs' D' ta' tb' what' pl' pd' c1' c2' c3' c4' h' tk' hc' FG' m1' m2' R' U' lt' l'; rotate_right))
  (k_with "call ref" => (k_here; (with_reducible show wpAny _ _ (call (Value.ref 215) _) _ _ _); k_dflt (refine' name_c (by assumption) (by k_asm) (by k_asm) (by k_asm) (by k_asm) (by k_asm) (by first | exact rfl | assumption) (by k_extra "my_pick") (by k_extra "my_sub") (by k_all) (by k_extra "my_num") (by k_extra "my_num") (by k_extra "my_room") (by k_extra "my_room") ?_ ?_); intro h' tk' b2' bt' hc' F' N'; rotate_left; intro g' e' te' vs' D' ta' tb' what' pl' pd' c1' c2' c3' c4' h' tk' hc' FG' m1' m2' R' U' lt' l'; rotate_right))
  (k_with "call ref" => (k_here; (with_reducible show wpAny _ _ (call (Value.ref 71) _) _ _ _); k_dflt (refine' told_c (by assumption) (by assumption) (by assumption) (by k_asm) (by k_asm) (by k_asm) (by k_asm) (by k_asm) (by first | exact rfl | assumption) (by k_extra "my_memb") (by k_extra "my_memb") (by k_extra "my_memb") (by k_extra "my_memb") (by k_extra "my_room") (by k_extra "my_room") ?_); intro T9' h' tk' x1' x2' F' N' l1; k_lt l1))
  (k_with "exec Assign" => (k_here; (with_reducible show wpAny _ _ (exec (Stmt.Assign [Expr.Name (PySem.Str.ofString "is_there") _] _ _) _) _ _ _); (rename NotYet => ny); refine hold ?_))
  (k_with "exec If" => (k_here; (with_reducible show wpAny _ _ (exec (Stmt.If (Expr.Compare (Expr.Name (PySem.Str.ofString "way") _) _ [Expr.Constant (Const.int _) _ _] _) _ _ _) _) _ _ _); (rename AtIf => nz); refine hold ?_))
  (k_with "my_ar" => first | exact j_ar ha0 hjT | exact ⟨ha0, ha1⟩ | exact at_on ha0 (es (and_l (by assumption))) | exact at_on ha0 (en (by assumption)) | exact at_on ha0 (ee (by assumption)) | fail)
  (k_with "my_off" => first | with_reducible assumption | exact fa_cons (NewOff.ne hnew' (by k_extra "my_memb") (by with_reducible assumption)) (by with_reducible assumption) | fail)
  (k_with "callWith ref" => (k_here; k_dflt (refine' callWith_K (by k_asm) (by k_is) ?_; k_whole)))
  (k_with "call ref" => (k_here; (with_reducible show wpAny _ _ (call (Value.ref 245) _) _ _ _); (rename InLaw => inlaw); k_dflt (refine' rows_c (by k_asm) (by k_asm) (by k_asm) (by k_asm) (by k_asm) (by first | exact rfl | assumption) (by k_extra "my_pick") (by k_extra "my_tape") (by k_all) (by k_extra "my_num") (by k_extra "my_num") (by k_extra "my_room") (by k_extra "my_room") ?_); intro R nR vs rws st kR tkR h' tkx GR oR1 oR2 oR3 neR hkR0 hkR1 F' N'))
  (k_with "call ref" => (k_here; (with_reducible show wpAny _ _ (call (Value.ref 259) _) _ _ _); k_dflt (refine' deed_c (by k_asm) (by k_asm) (by k_asm) (by k_asm) (by first | exact rfl | assumption) (by k_asm) (by assumption) (by assumption) (by assumption) (by assumption) (by assumption) (by assumption) (by assumption) (by assumption) (by assumption) (by k_extra "my_num") (by k_extra "my_num") (by k_extra "my_num") (by k_extra "my_num") (by k_extra "my_room") (by k_extra "my_room") ?_); intro DD at' ttD kD tkD b2D psD restD h' tkx F' N' subD SD TOD hkD0 hkD1 hat0 hat1 neD1 neD2 neD3 neD4 offID; (have curD := SD.cur)))
  (k_with "exec Assign" => (k_here; (with_reducible show wpAny _ _ (exec (Stmt.Assign [Expr.Name (PySem.Str.ofString "rows") _] _ _) _) _ _ _); (rename AtRows => atrows); refine hold ?_))
  (k_with "exec Assign" => (k_here; (with_reducible show wpAny _ _ (exec (Stmt.Assign [Expr.Name (PySem.Str.ofString "cursor") _] _ _) _) _ _ _); (rename AtCursor => atcursor); refine hold ?_))
  (k_with "exec Assign" => (k_here; (with_reducible show wpAny _ _ (exec (Stmt.Assign [Expr.Name (PySem.Str.ofString "at") _] _ _) _) _ _ _); (rename AtAt => atat); refine hold ?_))
  (k_with "eval ListComp" => (k_here; (with_reducible show wpAny _ _ (eval (Expr.ListComp _ [⟨Expr.Tuple [Expr.Name _ _, Expr.Name _ _, Expr.Name _ _] _ _, _, [], 0⟩] _ _) _) _ _ _); k_dflt (refine' comp3 (by k_asm) (by with_unfolding_all rfl) (by decide) (by rfl) (by decide) (by rfl) (by rfl) (by rfl) (by decide) (by decide) (by decide) (by intro _; with_unfolding_all rfl) ?_)))
  (k_with "pyIter ref" => (k_here; (rename InLaw => inlaw); (with_reducible show wpAny _ _ (pyIter (Value.ref _)) _ _ _); refine hold ?_))
  (k_with "my_new" => first | exact allLt_mem (by assumption) | exact allLt_mem (And.right (And.right (by assumption))) | exact allLt_mem (allLt_up (by assumption) (by assumption)) | exact allLt_mem (allLt_up (And.right (And.right (by assumption))) (by assumption)) | fail)
  (k_with "call ref" => (k_here; (with_reducible show wpAny _ _ (call (Value.ref 166) _) _ _ _); k_dflt (refine' take_c (by assumption) (by k_asm) (by k_asm) (by k_asm) (by k_asm) (by k_asm) (by first | exact rfl | assumption) (by k_extra "my_pick") (by k_extra "my_sub") (by k_all) (by k_extra "my_num") (by k_extra "my_num") (by k_extra "my_room") (by k_extra "my_room") ?_); intro h' tk' aT dT plT pdT a1T a2T a3T a4T b1T b2T b3T c1T c2T c3T c4T b2' jT hjT m1T m2T m3T m4T F' N'; (first | (obtain ⟨hxT, ejT⟩ | ⟨hxT, ejT⟩ := hjT; exact absurd hxT (by k_extra "my_num"); subst ejT) | skip)))
  (k_with "subscriptTail Name Slice ref ref" => (k_here; (with_reducible show wpAny _ _ (subscriptTail _ (PySem.Expr.Slice _ _ none _) (Value.ref _) (Value.ref _)) _ _ _); k_dflt (refine' rows_slice (by assumption) (by k_asm) (by k_asm) (by k_extra "my_sub") (by k_extra "my_num") ?_ (by with_unfolding_all rfl) (by kmk_pure)); intro DS zs h' F' N' l1S hzs; k_lt l1S))
  (k_with "execs cons" => (k_here; (fail_if_success (rename NoFold => nofold)); first | k_gentoks | ((first | (with_reducible refine my_cons ?_; intro tk') | with_reducible refine wpAny_execs_cons ?_); (try dsimp only); (try k_extra "my_foldq"))))
  (k_with "my_om" => first | ((repeat (rename _ ∧ _ => hcj; clear hcj)); omega) | omega)
  (k_with "my_num" => first | with_reducible assumption | with_reducible (exact zp1 (by assumption)) | with_reducible (exact zp2 (by assumption)) | with_reducible (exact zp3 (by assumption)) | with_reducible (exact lp0 (by assumption)) | with_reducible (exact lp1 (by assumption)) | with_reducible (exact lp2 (by assumption)) | with_reducible (exact lp3 (by assumption)) | with_reducible (exact Int.le_refl _) | with_reducible (exact ka3) | with_reducible (exact kb3) | with_reducible (exact kz3) | with_reducible (exact kz4) | with_reducible (exact cl1 (by assumption)) | with_reducible (exact cl2 (by assumption)) | with_reducible (exact ilt1 (by assumption) (by decide)) | with_reducible (exact ilt2 (by assumption) (by decide)) | with_reducible (exact ile1 (by assumption) (by decide)) | with_reducible (exact ile2 (by assumption) (by decide)) | with_reducible (exact ige1 (by assumption) (by decide)) | with_reducible (exact igt1 (by assumption) (by decide)) | with_reducible (exact nle1 (by assumption) (by decide)) | with_reducible (exact sub_hi) | with_reducible (exact sub_hi0) | with_reducible (exact len_p (by assumption)) | with_reducible (exact len_p0 (by assumption)) | with_reducible (exact len_a (by assumption) (by assumption)) | with_reducible (exact Int.add_nonneg (by assumption) (by assumption)) | with_reducible (exact Int.le_sub_one_of_lt (by assumption)) | with_reducible (exact not_hi (by assumption)) | with_reducible (exact min_hi sub_hi) | with_reducible (exact min_lo (by k_extra "my_num") (by k_extra "my_num")) | with_reducible (exact Int.lt_irrefl _) | decide | k_extra "my_om")
  (k_with "ite" => (k_here; (rename AtIte => atite); refine hold ?_))
  (k_with "call ref" => (k_here; (with_reducible show wpAny _ _ (call (Value.ref _) []) _ _ _); (rename InAsk => inask); k_dflt (refine' TH (by k_asm) (by k_asm) (by k_asm) (by k_asm) (by k_asm) (by first | exact rfl | assumption) (by k_extra "my_room") (by k_extra "my_room") ?_ ?_); intro tv' b2' h' tk' hc' F' N'; rotate_left; intro g' e' te' vs' D' ta' tb' what' pl' pd' c1' c2' c3' c4' h' tk' hc' FG' m1' m2' R' U' lt' l'; rotate_right))
  (k_with "callWith ref" => (k_here; (rename InAsk => inask); k_dflt (refine' callWith_F0 (by exact FnAt.of (by k_asm) (by assumption)) ?_; k_whole); (try dsimp only [List.nil_append])))
  (k_with "call ref" => (k_here; (with_reducible show wpAny _ _ (call (Value.ref 252) [Value.ref _]) _ _ _); k_dflt (refine' asked_c (by assumption) (by assumption) (by k_asm) (by k_asm) (by k_asm) (by k_asm) (by k_asm) (by first | exact rfl | assumption) (by k_extra "my_pick") (by k_extra "my_memb") (by assumption) (by assumption) (by assumption) (by first | assumption | exact KtsTurn.refl) (by k_extra "my_room") (by k_extra "my_room") ?_ ?_ ?_); (unfold Thunk; intro dpT unT gdT cnT csT LT aT ccdT clT outT AT hT mT sT QT ET BT FT XT NT TT hkT hdT huT okT badT); rotate_left; intro D' t1' tv' b2' h' tk' hc' F' N'; rotate_left; intro h0' D' T9' t1' x1' x2' h' tk' hc' KT' F' N' B' X' T' DD'; (try k_lift B'); (try k_sweep); rotate_left))
  (k_with "eval Name" => (k_here; k_dflt (refine' my_name (by k_asm) (by exact Eq.refl (some _)) (by exact Eq.refl (some _)) (by decide) (by exact rfl) ?_; k_whole)))
  (k_with "getAttr ref" => (k_here; k_dflt (refine' my_get (by k_asm) (by k_asm) (by k_asm) (by k_extra "my_memb") (by k_extra "my_memb") (by k_is) (by k_is) (by k_is) (by k_get) (by k_handed) ?_; k_whole)))
  (k_with "eval Attribute Name" => (k_here; k_dflt (refine' my_attr (by k_asm) (by k_asm) (by k_asm) (by exact Eq.refl (some _)) (by exact Eq.refl (some _)) (by decide) (by exact rfl) (by k_extra "my_memb") (by k_extra "my_memb") (by k_is) (by k_is) (by k_is) (by k_get) (by k_handed) ?_; k_whole)))
  (k_with "getMethod ref" => (k_here; k_dflt (refine' my_meth (by k_asm) (by k_asm) (by k_asm) (by k_extra "my_memb") (by k_extra "my_memb") (by k_is) (by k_is) (by k_is) (by k_get) ?_; k_whole)))
  (k_with "eval Call Attribute" => (k_here; k_dflt (refine' my_mcall (by k_asm) (by k_asm) (by k_asm) (by exact Eq.refl (some _)) (by exact Eq.refl (some _)) (by decide) (by exact rfl) (by k_extra "my_memb") (by k_extra "my_memb") (by k_is) (by k_is) (by k_is) (by k_get) (by rfl) ?_; k_whole)))
  (k_with "call ref" => (k_here; (with_reducible show wpAny _ _ (call (Value.ref 152) _) _ _ _); k_dflt (refine' peek_c (by assumption) (by k_asm) (by k_asm) (by k_asm) (by k_asm) (by k_asm) (by first | exact rfl | assumption) (by k_extra "my_memb") (by k_extra "my_sub") (by k_extra "my_num") (by k_extra "my_num") (by k_extra "my_room") (by k_extra "my_room") ?_); intro h' tk' aP dP plP pdP a1P a2P a3P a4P b1P b2P b3P c1P c2P c3P c4P m1P m2P m3P m4P F' N'))
  (k_with "call ref" => (k_here; (with_reducible show wpAny _ _ (call (Value.ref 159) _) _ _ _); k_dflt (refine' ahead_c (by assumption) (by k_asm) (by k_asm) (by k_asm) (by k_asm) (by k_asm) (by first | exact rfl | assumption) (by k_extra "my_memb") (by k_extra "my_sub") (by k_extra "my_num") (by k_extra "my_num") (by k_extra "my_num") (by k_extra "my_num") (by k_extra "my_room") (by k_extra "my_room") ?_); intro h' tk' aP dP plP pdP a1P a2P a3P a4P b1P b2P b3P c1P c2P c3P c4P m1P m2P m3P m4P F' N'))
  (k_with "call ref" => (k_here; (with_reducible show wpAny _ _ (call (Value.ref 173) _) _ _ _); k_dflt (refine' sign_c (by assumption) (by k_asm) (by k_asm) (by k_asm) (by k_asm) (by k_asm) (by first | exact rfl | assumption) (by k_extra "my_memb") (by k_extra "my_sub") (by k_extra "my_num") (by k_extra "my_num") (by k_extra "my_room") (by k_extra "my_room") ?_); intro h' tk' F' N'))
  (k_with "call ref" => (k_here; (with_reducible show wpAny _ _ (call (Value.ref 180) _) _ _ _); k_dflt (refine' end_c (by assumption) (by k_asm) (by k_asm) (by k_asm) (by k_asm) (by k_asm) (by first | exact rfl | assumption) (by k_extra "my_memb") (by k_extra "my_sub") (by k_extra "my_num") (by k_extra "my_num") (by k_extra "my_room") (by k_extra "my_room") ?_); intro h' tk' F' N'))
  (k_with "call ref" => (k_here; (with_reducible show wpAny _ _ (call (Value.ref 187) _) _ _ _); k_dflt (refine' skip_c (by assumption) (by k_asm) (by k_asm) (by k_asm) (by k_asm) (by k_asm) (by first | exact rfl | assumption) (by k_extra "my_pick") (by k_extra "my_sub") (by k_all) (by k_extra "my_num") (by k_extra "my_num") (by k_extra "my_room") (by k_extra "my_room") ?_ ?_); intro h' tk' b2' hc' F' N'; rotate_left; intro h' tk' hc' F' N'; rotate_right))
  (k_with "call ref" => (k_here; (with_reducible show wpAny _ _ (call (Value.ref 222) _) _ _ _); k_dflt (refine' place_c (by assumption) (by k_asm) (by k_asm) (by k_asm) (by k_asm) (by k_asm) (by first | exact rfl | assumption) (by k_extra "my_memb") (by k_extra "my_sub") (by k_extra "my_num") (by k_extra "my_num") (by k_extra "my_room") (by k_extra "my_room") ?_); intro h' tk' plP pdP c1P c2P c3P c4P m1P m2P F' N'))
  (k_with "eval Call" => (k_here; (with_reducible show wpAny _ _ (eval (Expr.Call (Expr.Name (PySem.Str.ofString "_law_cell") _) [Expr.Name (PySem.Str.ofString "tape") _, Expr.Constant (Const.int _) _ _] [] _) _) _ _ _); k_dflt (refine' my_cell (by k_asm) (by k_asm) (by k_asm) (by k_asm) (by k_asm) (by first | exact rfl | assumption) (by exact Eq.refl (some _)) (by exact Eq.refl (some _)) (by exact Eq.refl (some _)) (by k_extra "my_pick") (by k_extra "my_tape") (by k_all) (by k_extra "my_num") (by k_extra "my_num") (by first | decide | k_extra "my_num") (by first | decide | k_extra "my_num") (by k_extra "my_room") (by k_extra "my_room") ?_); intro v' t' h' tk' tkk' hv0' hv1' F' N'; (try dsimp only); walk_say "CELL"))
  (k_with "eval Call" => (k_here; (with_reducible show wpAny _ _ (eval (Expr.Call (Expr.Name (PySem.Str.ofString "_law_cell") _) [Expr.Name (PySem.Str.ofString "tape") _, Expr.Constant (Const.int 11) _ _] [] _) _) _ _ _); k_dflt (refine' my_cell (by k_asm) (by k_asm) (by k_asm) (by k_asm) (by k_asm) (by first | exact rfl | assumption) (by exact Eq.refl (some _)) (by exact Eq.refl (some _)) (by exact Eq.refl (some _)) (by k_extra "my_pick") (by k_extra "my_tape") (by k_all) (by k_extra "my_num") (by k_extra "my_num") (by first | decide | k_extra "my_num") (by first | decide | k_extra "my_num") (by k_extra "my_room") (by k_extra "my_room") ?_); intro way tway h' tk' tkk' hway0 hway1 F' N'; (try dsimp only); walk_say "CELL"))
  intro _
  rfl
theorem cps {P : Prop} (h : ∀ G : Prop, (P → G) → G) : P := h P id
theorem news_tl {h₀ h : Heap} {L : Addr} {q : Addr × Obj} {news : List (Addr × Obj)} (N : News h₀ L h (q :: news)) : News h₀ L h news := fun p hp => N p (.tail _ hp)

/-- what a turn must leave -/
def TurnEnd (h₀ : Heap) (L I : Addr) (oI : Obj) (J : (Str → Option Value) → List (Addr × Obj) → Prop) (s₁ s₂ : Shared) : Prop :=
  ∃ h' tk m' news', s₂ = { s₁ with heap := h', toks := tk } ∧ Fr h₀ L h' m' ∧ News h₀ L h' ((I, oI) :: news') ∧ (∀ p ∈ news', p.1 ≠ I) ∧ J m' news'
def TurnPost (h₀ : Heap) (L I : Addr) (oI : Obj) (J : (Str → Option Value) → List (Addr × Obj) → Prop) (s₁ : Shared) (Q : Flow → Shared → Prop) (f : Flow) (s₂ : Shared) : Prop :=
  match f with
  | .ret v => Q (.ret v) s₂
  | .brk => Q .next s₂
  | _ => TurnEnd h₀ L I oI J s₁ s₂
theorem TurnEnd.intro {h₀ : Heap} {L I : Addr} {oI : Obj} {J : (Str → Option Value) → List (Addr × Obj) → Prop} {s₁ : Shared} {h' : Heap} {tk : Nat} {m' : Str → Option Value} {news' : List (Addr × Obj)}
    (F : Fr h₀ L h' m') (N : News h₀ L h' ((I, oI) :: news')) (ha : ∀ p ∈ news', p.1 ≠ I) (hj : J m' news') : TurnEnd h₀ L I oI J s₁ { s₁ with heap := h', toks := tk } :=
  ⟨h', tk, m', news', rfl, F, N, ha, hj⟩

section
variable {prog : Program} {w : World} {A : Around} {E : Value → Shared → Prop} {s : Shared} {env : Env} {h₀ : Heap} {x : Str} {body : List Stmt} {Q : Flow → Shared → Prop}

theorem fr_names {L : Addr} {h : Heap} {ps : List (Str × Value)} {m₁ : Str → Option Value} {v : Option Value} (h1 : ∀ p ∈ ps, m₁ p.1 = some p.2)
    (F : Fr h₀ L h (fun y => if y = x then v else m₁ y)) : Fr h₀ L h (fun y => if y = x then v else kstB m₁ ps y) := by
  have em : (fun y => if y = x then v else kstB m₁ ps y) = fun y => if y = x then v else m₁ y := by
    funext y
    rw [kstB_eq h1 fun _ => rfl]
  rw [em]
  exact F
theorem fr_names0 {L : Addr} {h : Heap} {ps : List (Str × Value)} {m₁ : Str → Option Value} (h1 : ∀ p ∈ ps, m₁ p.1 = some p.2)
    (F : Fr h₀ L h m₁) : Fr h₀ L h (kstB m₁ ps) := by
  have em : kstB m₁ ps = m₁ := by
    funext y
    rw [kstB_eq h1 fun _ => rfl]
  rw [em]
  exact F

theorem own_head {I : Addr} {fp : List Addr} {own : List (Addr × Obj)} {oI : Obj} (h1 : ∀ p ∈ own, p.1 ∈ fp) (hfp : fp = [I]) {h : Heap} (hg : ∀ p ∈ own, h.get? p.1 = some p.2) (ho : h.get? I = some oI) :
    ∀ p ∈ own, p = (I, oI) := by
  intro p hp
  have e1 : p.1 = I := List.mem_singleton.mp (hfp ▸ h1 p hp)
  have e2 := hg p hp
  rw [e1, ho] at e2
  obtain ⟨a, o⟩ := p
  cases e1
  cases e2
  rfl

theorem iter_range {L r : Addr} {a₀ b₀ : Int} {t₀ u₀ v₀ : Tok} {n : Nat} {m₀ : Str → Option Value} {news : List (Addr × Obj)} (J : Nat → (Str → Option Value) → List (Addr × Obj) → Prop)
    (hh : A.handled = none) (hr : IsRange s.heap r a₀ b₀ 1 t₀ u₀ v₀) (hsmall : Builtin.Range.small a₀ b₀ 1 = true) (hn : Builtin.Range.rangeSize a₀ b₀ 1 = (n : Int))
    (F : Fr h₀ L s.heap m₀) (N : News h₀ L s.heap news) (hL : env.locals = L) (hj : J 0 m₀ news)
    (turn : ∀ i m₁ news₁ h tk t I oI, i < n → (∀ p ∈ news₁, p.1 ≠ I) → J i m₁ news₁ → Fr h₀ L h (fun y => if y = x then some (.int (a₀ + (i : Nat)) t) else m₁ y) → News h₀ L h ((I, oI) :: news₁) →
      wpAny (model prog w) A (execs body env) (TurnPost h₀ L I oI (J (i + 1)) { s with heap := h, toks := tk } Q) E { s with heap := h, toks := tk })
    (done : ∀ m₁ news₁ h tk, J n m₁ news₁ → Fr h₀ L h m₁ → News h₀ L h news₁ → Q .next { s with heap := h, toks := tk }) :
    wpAny (model prog w) A (pyIter (.ref r)) (fun it s₂ => LoopAtV prog w A h₀ env x body Q E it s₂) E s := by
  subst hL
  refine wpAny_pyIter_range hr hsmall ?_
  have W : Walks prog w A s.heap.objs.size [s.heap.objs.size] [s.heap.objs.size] n (fun i v => i < n ∧ ∃ t, v = .int (a₀ + i * 1) t)
      (fun i h => IsRangeIter h s.heap.objs.size (a₀ + (i : Nat) * 1) ((n : Int) - (i : Nat)) 1) := (Walks.range hh _ a₀ 1 n).bound
  refine ⟨_, _, _, n, _, _, m₀, news, J, rfl, W, ?_, ?_, ?_, (by show IsRangeIter _ _ _ _ _; rw [hn]; simpa using Heap.get?_push_size _ rfl), F.push _, (fun p hp => ⟨Heap.get?_push_of_some _ (N p hp).1, (N p hp).2⟩), hj, ?_, ?_⟩
  · intro hm
    exact absurd F.ns.lt ((List.mem_singleton.mp hm) ▸ Nat.lt_irrefl _)
  · intro b hb
    rw [List.mem_singleton.mp hb]
    exact next_is_new F
  · intro p hp hI
    exact absurd (Heap.lt_size (N p hp).1) ((List.mem_singleton.mp hI) ▸ Nat.lt_irrefl _)
  · intro i v m₁ news₁ s₁ own hs1 hin hv1 hJ hoff hown hget hfp hst F₁ N₁
    refine cps fun GG kk => ?_
    obtain ⟨hh', tk', rfl⟩ := hs1
    obtain ⟨_, t, rfl⟩ := hv1
    refine kk ?_
    have hI0 : h₀.get? s.heap.objs.size = none := next_is_new F
    have hex : ∃ oI, hh'.get? s.heap.objs.size = some oI := ⟨_, hst⟩
    obtain ⟨oI, hoI⟩ := hex
    have hIown : (s.heap.objs.size, oI) ∈ own := hfp _ (List.mem_singleton.mpr rfl) hI0 _ hoI
    have hall := own_head hown rfl hget hoI
    rw [Int.mul_one] at F₁
    have N₂ : News h₀ env.locals hh' ((s.heap.objs.size, oI) :: news₁) := fun p hp => N₁ p ((List.mem_cons.mp hp).elim (fun h => List.mem_append.mpr (.inl (h ▸ hIown))) fun h => List.mem_append.mpr (.inr h))
    refine wpAny_mono (turn i m₁ news₁ hh' tk' t _ oI hin (fun p hp e => hoff p hp (List.mem_singleton.mpr e)) hJ F₁ N₂) (fun f s₂ p => ?_) fun _ _ e => e
    have fin : TurnEnd h₀ env.locals s.heap.objs.size oI (J (i + 1)) { s with heap := hh', toks := tk' } s₂ → LoopStepU h₀ env.locals [s.heap.objs.size] own (J (i + 1)) { s with heap := hh', toks := tk' } .next s₂ := by
      rintro ⟨h', tk, m', news', e, F', N', ha, hm⟩
      refine ⟨rfl, h', tk, m', news', e, F', fun p hp => N' p ((List.mem_append.mp hp).elim (fun h => hall p h ▸ .head _) (fun h => .tail _ h)), fun p hp hq => ha p hp (List.mem_singleton.mp hq), hm⟩
    cases f with
    | ret v => exact .ret p
    | brk => exact .brk p
    | next => exact .next (fin p)
    | cont => exact .cont (fin p)
  · rintro h' tk m' news' F' N' _ hJ
    exact done m' news' h' tk hJ F' N'
end

/-- what a frame's map holds, name by name -/
def Names (m : Str → Option Value) (ps : List (Str × Value)) : Prop := ∀ p ∈ ps, m p.1 = some p.2
theorem Names.nil {m : Str → Option Value} : Names m [] := List.forall_mem_nil _
theorem Names.cons {m : Str → Option Value} {x : Str} {v : Value} {ps : List (Str × Value)} (h : m x = some v) (r : Names m ps) : Names m ((x, v) :: ps) := List.forall_mem_cons.mpr ⟨h, r⟩
theorem Names.all {m : Str → Option Value} {ps : List (Str × Value)} (h : Names m ps) : ∀ p ∈ ps, m p.1 = some p.2 := h
theorem rm0 {k m L : Nat} (h : k + m < L) : k < L := Nat.lt_of_le_of_lt (Nat.le_add_right _ _) h
theorem rmN (n : Nat) {k m L : Nat} (h : k + m < L) (e : Nat.ble n m = true) : k + n < L := Nat.lt_of_le_of_lt (Nat.add_le_add_left (Nat.le_of_ble_eq_true e) k) h
theorem zp1 {k : Int} (h : 0 ≤ k) : 0 ≤ k + 1 := Int.add_nonneg h (by decide)
theorem zp2 {k : Int} (h : 0 ≤ k) : 0 ≤ k + 1 + 1 := zp1 (zp1 h)
theorem zp3 {k : Int} (h : 0 ≤ k) : 0 ≤ k + 1 + 1 + 1 := zp1 (zp2 h)
theorem lp0 {k : Int} (h : k < 900) : k < 1000 := Int.lt_trans h (by decide)
theorem lp1 {k : Int} (h : k < 900) : k + 1 < 1000 := Int.lt_trans (Int.add_lt_add_right h 1) (by decide)
theorem lp2 {k : Int} (h : k < 900) : k + 1 + 1 < 1000 := Int.lt_trans (Int.add_lt_add_right (Int.add_lt_add_right h 1) 1) (by decide)
theorem lp3 {k : Int} (h : k < 900) : k + 1 + 1 + 1 < 1000 := Int.lt_trans (Int.add_lt_add_right (Int.add_lt_add_right (Int.add_lt_add_right h 1) 1) 1) (by decide)
theorem nelt {a b : Addr} (h : a < b) : a ≠ b := Nat.ne_of_lt h
theorem negt {a b : Addr} (h : b < a) : a ≠ b := Nat.ne_of_gt h
theorem ilt1 {a m n : Int} (h : a < m) (e : m ≤ n) : a < n := Int.lt_of_lt_of_le h e
theorem ilt2 {a m n : Int} (h : a ≤ m) (e : m < n) : a < n := Int.lt_of_le_of_lt h e
theorem ile1 {a m n : Int} (h : a ≤ m) (e : m ≤ n) : a ≤ n := Int.le_trans h e
theorem ile2 {a m n : Int} (h : a < m) (e : m ≤ n) : a ≤ n := Int.le_trans (Int.le_of_lt h) e
theorem ige1 {a m n : Int} (h : m ≤ a) (e : n ≤ m) : n ≤ a := Int.le_trans e h
theorem igt1 {a m n : Int} (h : m ≤ a) (e : n < m) : n < a := Int.lt_of_lt_of_le e h
theorem nle1 {a m n : Nat} (h : a ≤ m) (e : m ≤ n) : a ≤ n := Nat.le_trans h e
theorem cl1 {c v : Int} (h : 0 ≤ v) : c ≤ c + 1 + v := Int.le_trans (Int.le_add_of_nonneg_right (by decide)) (Int.le_add_of_nonneg_right h)
theorem cl2 {c v : Int} (h : v < 4) : c + 1 + v ≤ c + 4 := Int.le_trans (Int.add_le_add_left (Int.le_of_lt_add_one h) (c + 1)) (Int.le_of_eq (Int.add_assoc c 1 3))
theorem ka1 {k : Int} : k ≤ k + 1 := Int.le_add_of_nonneg_right (by decide)
theorem ka3 {k : Int} : k ≤ k + 1 + 1 + 1 := Int.le_trans ka1 (Int.le_trans ka1 ka1)
theorem kb3 {k : Int} : k + 1 + 1 + 1 ≤ k + 3 := Int.le_of_eq (by simp only [Int.add_assoc]; rfl)
theorem kz3 {k : Int} : k ≤ k + 3 * ((0 : Nat) : Int) := Int.le_of_eq (Int.add_zero k).symm
theorem kz4 {k : Int} : k ≤ k + 4 * ((0 : Nat) : Int) := Int.le_of_eq (Int.add_zero k).symm
theorem tn_lt {v : Int} {i n : Nat} (h : i < (v - 0).toNat) (hv : v < n) : i < n := by omega
theorem tn_le {v : Int} {n : Nat} (hv : v < n + 1) : (v - 0).toNat ≤ n := by omega
theorem one_fit {a : Nat} (h : a ≤ 10) : a + (0 + 1) ≤ 4096 := Nat.le_trans (Nat.add_le_add_right h 1) (by decide)
theorem mul_up {K k k' c : Int} {i : Nat} (k1 : k' ≤ k + c) (k2 : k ≤ K + c * i) : k' ≤ K + c * ((i + 1 : Nat) : Int) := Int.le_trans k1 (Int.le_trans (Int.add_le_add_right k2 c) (Int.le_of_eq ((Int.add_assoc _ _ _).trans (congrArg (K + ·) (by rw [show ((i + 1 : Nat) : Int) = i + 1 from rfl, Int.mul_add, Int.mul_one])))))
theorem min_lo {x n : Int} (h0 : 0 ≤ x) (h1 : 0 ≤ n) : 0 ≤ if n < x then n else x := by split <;> assumption
theorem min_hi {x n N : Int} (h : n < N) : (if n < x then n else x) < N := by
  split
  · exact h
  · exact Int.lt_of_le_of_lt (Int.not_lt.mp (by assumption)) h
theorem sub_hi {n : Int} : n - 1 < n := Int.sub_lt_self _ (by decide)
theorem sub_hi0 {n : Int} : n - 1 + 0 < n := (Int.add_zero (n - 1)).symm ▸ sub_hi
theorem len_a {a n : Int} (h0 : 0 ≤ a) (h : a < n) : 0 ≤ n - 1 := Int.le_sub_one_of_lt (Int.lt_of_le_of_lt h0 h)
theorem not_hi {x n : Int} (h : ¬ x < n) : n - 1 ≤ x := Int.le_trans (Int.le_of_lt sub_hi) (Int.not_lt.mp h)
theorem tnl {i : Int} {n : Nat} (h0 : 0 ≤ i) (h : i < n) : i.toNat < n := by
  obtain ⟨k, rfl⟩ := Int.eq_ofNat_of_zero_le h0
  exact Int.ofNat_lt.mp h
theorem ipos {a : Nat} (h : 1 ≤ a) : (0 : Int) < a := Int.ofNat_lt.mpr h
theorem len_p {n : Nat} (h : 1 ≤ n) : (0 : Int) ≤ (n : Int) - 1 := Int.le_sub_one_of_lt (ipos h)
theorem len_p0 {n : Nat} (h : 1 ≤ n) : (0 : Int) ≤ (n : Int) - 1 + 0 := (Int.add_zero ((n : Int) - 1)).symm ▸ len_p h
theorem ito {a n : Nat} (h : a ≤ n) : (a : Int) ≤ n := Int.ofNat_le.mpr h
theorem ine {a : Int} (h : 0 < a) : a ≠ 0 := (Int.ne_of_lt h).symm
theorem and_l {a b : Bool} (h : (a && b) = true) : a = true := (Bool.and_eq_true_iff.mp h).1
theorem bne_f {x y : Str} (h : (x != y) = false) : (x == y) = true := by simpa [bne] using h
theorem bne_t {x y : Str} (h : (x != y) = true) : (x == y) = false := by simpa [bne] using h
theorem mem_hd {a : Addr × Obj} {l : List (Addr × Obj)} : a ∈ a :: l := .head _
theorem mem_sub {p : Addr × Obj} {l r : List (Addr × Obj)} (h : p ∈ l) (hs : ∀ q ∈ l, q ∈ r) : p ∈ r := hs _ h
theorem fa_cons {P : Addr × Obj → Prop} {a : Addr × Obj} {l : List (Addr × Obj)} (h1 : P a) (h : ∀ q ∈ l, P q) : ∀ q ∈ a :: l, P q := List.forall_mem_cons.mpr ⟨h1, h⟩
theorem mem_tl {a b : Addr × Obj} {l : List (Addr × Obj)} (h : a ∈ l) : a ∈ b :: l := .tail _ h
section
variable {prog : Program} {w : World} {A : Around} {E : Value → Shared → Prop} {s : Shared} {h₀ : Heap} {L : Addr} {m : Str → Option Value}
theorem len_sym {news : List (Addr × Obj)} {l : Addr} {us : List Value} {k c : Nat} {Q : Value → Shared → Prop} (N : News h₀ L s.heap news) (hm : (l, listOf us.toArray c) ∈ news) (e : us.length = k) (hfit : k ≤ 4096)
    (h : Q (.int (k : Int) (s.toks + 1)) { s with toks := s.toks + 1 + 1 }) : wpAny (model prog w) A (call (.builtin "len") [.ref l]) Q E s := by
  have hl : s.heap.IsList l us.toArray := ⟨_, (N _ hm).1, rfl, c, rfl⟩
  have e2 : us.toArray.size = k := by rw [List.size_toArray, e]
  exact len_list hl (by rw [e2]; omega) (by rw [e2]; exact h)
theorem divmod_sym {news : List (Addr × Obj)} {a b : Int} {t u : Tok} {Q : Value → Shared → Prop} (F : Fr h₀ L s.heap m) (N : News h₀ L s.heap news) (_ : 0 ≤ a) (_ : a < 100000) (hb : 0 < b) (hb1 : b < 100000)
    (h : ∀ D h', Fr h₀ L h' m → News h₀ L h' ((D, { cls := .type "tuple", data := .seq #[.int (a / b) s.toks, .int (a % b) (s.toks + 1)] }) :: news) → (∀ q ∈ news, q.1 < D) →
      Q (.ref D) { s with toks := s.toks + 1 + 1, heap := h' }) :
    wpAny (model prog w) A (call (.builtin "divmod") [.int a t, .int b u]) Q E s := by
  refine divmod_N F N (by omega) (fun h' F' N' => ?_) (Or.inl (PyProof.noPylong_small (by omega)))
  rw [Int.fdiv_eq_ediv_of_nonneg _ (by omega), Int.fmod_eq_emod_of_nonneg _ (by omega)] at N'
  exact h _ h' F' N' fun q hq => Heap.lt_size (N q hq).1
end

def Hold (P : Prop) : Prop := P
theorem hold {P : Prop} (h : Hold P) : P := h
theorem Hold.out {P : Prop} (h : P) : Hold P := h
/-- q taken out of a ledger -/
def Pick (q : Addr × Obj) (l r : List (Addr × Obj)) : Prop := q ∈ l ∧ (∀ p ∈ r, p ∈ l) ∧ ∀ p ∈ l, p ∈ q :: r
theorem Pick.head {q : Addr × Obj} {r : List (Addr × Obj)} : Pick q (q :: r) r := ⟨mem_hd, fun _ h => mem_tl h, fun _ h => h⟩
theorem Pick.tail {q p : Addr × Obj} {r r' : List (Addr × Obj)} (h : Pick q r r') : Pick q (p :: r) (p :: r') := by
  refine ⟨mem_tl h.1, List.forall_mem_cons.mpr ⟨mem_hd, fun x hx => mem_tl (h.2.1 x hx)⟩, List.forall_mem_cons.mpr ⟨mem_tl mem_hd, fun x hx => ?_⟩⟩
  rcases List.mem_cons.mp (h.2.2 x hx) with rfl | k
  · exact mem_hd
  · exact mem_tl (mem_tl k)
theorem Pick.mem {q : Addr × Obj} {l r : List (Addr × Obj)} (h : Pick q l r) : q ∈ l := h.1
theorem Pick.sub {q : Addr × Obj} {l r : List (Addr × Obj)} (h : Pick q l r) : ∀ p ∈ r, p ∈ l := h.2.1
theorem Pick.news {h₀ h : Heap} {L : Addr} {q : Addr × Obj} {l r : List (Addr × Obj)} (P : Pick q l r) (N : News h₀ L h l) : News h₀ L h (q :: r) := List.forall_mem_cons.mpr ⟨N _ P.mem, fun p hp => N _ (P.sub p hp)⟩

theorem sub_cons {p : Addr × Obj} {r l : List (Addr × Obj)} (h : ∀ q ∈ r, q ∈ l) : ∀ q ∈ r, q ∈ p :: l := fun q hq => .tail _ (h q hq)
theorem sub_appR {r l k : List (Addr × Obj)} (h : ∀ q ∈ r, q ∈ l) : ∀ q ∈ r, q ∈ k ++ l := fun q hq => List.mem_append.mpr (.inr (h q hq))
theorem sub_appL {r l k : List (Addr × Obj)} (h : ∀ q ∈ r, q ∈ k) : ∀ q ∈ r, q ∈ k ++ l := fun q hq => List.mem_append.mpr (.inl (h q hq))
theorem sub_nil {l : List (Addr × Obj)} : ∀ q ∈ ([] : List (Addr × Obj)), q ∈ l := fun _ h => nomatch h
theorem sub_of_cons {p : Addr × Obj} {r l : List (Addr × Obj)} (h1 : p ∈ l) (h : ∀ q ∈ r, q ∈ l) : ∀ q ∈ p :: r, q ∈ l := fun q hq => by
  rcases List.mem_cons.mp hq with rfl | hq
  · exact h1
  · exact h q hq
theorem sub_of_app {k r l : List (Addr × Obj)} (h1 : ∀ q ∈ k, q ∈ l) (h : ∀ q ∈ r, q ∈ l) : ∀ q ∈ k ++ r, q ∈ l := fun q hq => (List.mem_append.mp hq).elim (h1 q) (h q)

/-- the tape's list of ints stands in the ledger -/
def TapeIn (rest : List (Addr × Obj)) (l : Addr) : Prop := ∃ nl vs xs, (l, listOf vs.toArray nl) ∈ rest ∧ IntsAre vs xs ∧ vs.length = xs.length ∧ xs.length ≤ 64 ∧ 1 ≤ xs.length
theorem TapeIn.mono {r r' : List (Addr × Obj)} {l : Addr} (h : TapeIn r l) (hs : ∀ p ∈ r, p ∈ r') : TapeIn r' l := by
  obtain ⟨nl, vs, xs, a, b⟩ := h
  exact ⟨nl, vs, xs, hs _ a, b⟩
abbrev tapeObj (l : Addr) (k : Int) (tk : Tok) (n : Nat) : Obj := listOf #[.ref l, .int k tk] n

theorem allLt_ne {d : Addr} {l : List (Addr × Obj)} (h : AllLt d l) : ∀ p ∈ l, p.1 ≠ d := fun p hp => Nat.ne_of_lt (ktn_ltOf h p hp)
theorem forall_app {P : Addr × Obj → Prop} {k r : List (Addr × Obj)} (h1 : ∀ q ∈ k, P q) (h : ∀ q ∈ r, P q) : ∀ q ∈ k ++ r, P q := fun q hq => (List.mem_append.mp hq).elim (h1 q) (h q)

section
variable {prog : Program} {w : World} {A : Around} {E : Value → Shared → Prop} {s : Shared} {h₀ : Heap} {L : Addr} {m : Str → Option Value}
theorem append_sym {news news' : List (Addr × Obj)} {D : Addr} {vs : List Value} {n : Nat} {x : Value} {Q : Value → Shared → Prop} (F : Fr h₀ L s.heap m) (N : News h₀ L s.heap news)
    (U : Upd D (listOf vs.toArray n) (listOf (vs ++ [x]).toArray (n + 1)) news news') (hlen : vs.length ≤ 4096)
    (h : ∀ h', Fr h₀ L h' m → News h₀ L h' news' → Q .none { s with heap := h' }) : wpAny (model prog w) A (call (.builtin "list.append") [.ref D, x]) Q E s := by
  have e : (vs ++ [x]).toArray = vs.toArray.push x := by simp
  rw [e] at U
  exact append_K F N U h (by rw [List.size_toArray, sizeLine_eq]; omega)
end

section
variable {prog : Program} {w : World} {A : Around} {E : Value → Shared → Prop} {s : Shared} {h₀ : Heap} {L : Addr} {m : Str → Option Value}
theorem add_sym {news : List (Addr × Obj)} {a b : Addr} {vs ws : List Value} {n n' : Nat} {Q : Value → Shared → Prop} (F : Fr h₀ L s.heap m) (N : News h₀ L s.heap news)
    (ha : (a, listOf vs.toArray n) ∈ news) (hb : (b, listOf ws.toArray n') ∈ news) (hlen : vs.length + ws.length ≤ 4096)
    (h : ∀ D h', Fr h₀ L h' m → News h₀ L h' ((D, listOf (vs ++ ws).toArray 0) :: news) → (∀ p ∈ news, p.1 < D) → Q (.ref D) { s with heap := h' }) :
    wpAny (model prog w) A (binaryOp .Add (.ref a) (.ref b)) Q E s :=
  kmk_add_lit F N ⟨_, (N _ ha).1, rfl, n, rfl⟩ ⟨_, (N _ hb).1, rfl, n', rfl⟩ (by simp) h (by simp only [sizeLine_eq, List.toList_toArray]; omega)
end
def NotYet : Prop := 0 = 0
def AtIf : Prop := 1 = 1
def InRows : Prop := 2 = 2
def NoFold : Prop := 7 = 7
def AtIte : Prop := 8 = 8
theorem both {c : Prop} [Decidable c] {P Q : Prop} (h1 : P) (h2 : Q) : if c then P else Q := by
  split
  · exact h1
  · exact h2
section
variable {prog : Program} {w : World} {A₀ A : Around} {s : Shared} {base h₀ : Heap} {L : Addr} {m : Str → Option Value} {env : Env} {outer : List Env} {news : List (Addr × Obj)} {K : Frag} {p : Program} {loose : List Str} {mean : ExcName → Option Value} {mg mb : Str → Option Value} {R : Result → Shared → Prop} {name qual : Str} {params : Arguments} {scope : Scope} {f : Addr} {args : Args} {binds : List (Str × Value)}
theorem my_def {body : List Stmt} {dV kV doc pm cdv ct oc : Value} {an od : Option Addr} {osl : Array (Option Value)}
    (hA : A.frames = some (env :: outer)) (hf : env.frame = some L) (hke : env.scope.kind = .function) (B : Below A₀ base outer h₀) (F : Fr h₀ L s.heap m) (X₀ : K.In h₀) (N : News h₀ L s.heap news) (T : Top p loose mean mg mb h₀)
    (ho : K.lookup f = some ⟨oc, od, .func (fnOf name qual params body scope dV kV doc pm an cdv ct), osl⟩) (hcd : codeIn K cdv qual = true) (hroom : A.depth < recursionLimit)
    (hbind : BindsTo s (fnOf name qual params body scope dV kV doc pm an cdv ct) args binds) (hcell : ∀ x ∈ scope.names, x.2 ≠ .cell) (hloc : ∀ y ∈ binds, scope.names.lookup y.1 = some .local)
    (hco : scope.isCoroutine = false) (hgen : scope.isGenerator = false) (hk : scope.kind = .function)
    (h : ∀ g L' h₁ tk, Fr h₀ L g m → Fr g L' h₁ (fun y => binds.reverse.lookup y) → News g L' h₁ news → Below A base (env :: outer) g → K.In g → Top p loose mean mg mb g →
      wpAny (model prog w) (A.deeper (envOf qual scope L' f cdv)) (execs body (envOf qual scope L' f cdv))
        (fun fl s' => LeaveK h₀ L m g R (match fl with | .ret v => v | _ => .none) s')
        (fun e s' => wpAny (model prog w) (A.deeper (envOf qual scope L' f cdv)) (leaving (envOf qual scope L' f cdv) e) (fun _ s'' => R (.error e) s'') (fun e' s'' => R (.error e') s'') s')
        { s with heap := h₁, toks := tk }) : codeAny (model prog w) A (.call (.ref f) args) R s :=
  code_def B F X₀ N T hA hf hke ho hcd hroom hbind hloc (fun g L' h₁ => h g L' h₁ _) hco hgen hk hcell
theorem my_lam {body : PySem.Expr} {cl : List (Str × Addr)} {pm ctv : Value} {c' : Addr}
    (hA : A.frames = some (env :: outer)) (hf : env.frame = some L) (hke : env.scope.kind = .function) (B : Below A₀ base outer h₀) (F : Fr h₀ L s.heap m) (X₀ : K.In h₀) (N : News h₀ L s.heap news) (T : Top p loose mean mg mb h₀)
    (ho : (f, kla_obj name qual params body scope cl pm c' ctv) ∈ news) (hcd : s.heap.CodeRec (.ref c') qual) (hroom : A.depth < recursionLimit)
    (hbind : bindArgs (kla_fn name qual params body scope cl pm (.ref c') ctv) args = pure binds) (hcell : ∀ x ∈ scope.names, x.2 ≠ .cell) (hloc : ∀ y ∈ binds, scope.names.lookup y.1 = some .local)
    (hco : scope.isCoroutine = false) (hgen : scope.isGenerator = false) (hk : scope.kind = .function)
    (h : ∀ g L' h₁ tk, Fr h₀ L g m → Fr g L' h₁ (fun y => binds.reverse.lookup y) → News g L' h₁ news → Below A base (env :: outer) g → K.In g → Top p loose mean mg mb g →
      wpAny (model prog w) (A.deeper (envX qual scope L' f (.ref c') cl)) (eval body (envX qual scope L' f (.ref c') cl))
        (fun v s' => LeaveK h₀ L m g R v s')
        (fun e s' => wpAny (model prog w) (A.deeper (envX qual scope L' f (.ref c') cl)) (leaving (envX qual scope L' f (.ref c') cl) e) (fun _ s'' => R (.error e) s'') (fun e' s'' => R (.error e') s'') s')
        { s with heap := h₁, toks := tk }) : codeAny (model prog w) A (.call (.ref f) args) R s :=
  kla_code B F X₀ N T hA hf hke ho hcd hroom hbind hloc (fun g L' h₁ => h g L' h₁ _) hco hgen hk hcell
end
theorem my_cons {M : Model} {A : Around} {E : Value → Shared → Prop} {env : Env} {st : Stmt} {rest : List Stmt} {Q : Flow → Shared → Prop} {h : Heap} {g : Array GenState} {d : Drawn} {n : Tok} {o : OsState}
    (x : ∀ tk, wpAny M A (exec st env) (fun f s' => match f with | .next => wpAny M A (execs rest env) Q E s' | f => Q f s') E ⟨h, g, d, tk, o⟩) : wpAny M A (execs (st :: rest) env) Q E ⟨h, g, d, n, o⟩ := wpAny_execs_cons (x n)
section
variable {prog : Program} {w : World} {M : Model} {A : Around} {E : Value → Shared → Prop} {s : Shared} {K : Frag} {h₀ : Heap} {L a x C d f : Addr} {m : Str → Option Value} {cn y attr : Str} {cs : Scope} {ccd : Value} {cl : List (Str × Addr)} {yp apos pos : Pos} {v : Value} {news : List (Addr × Obj)} {es : List DictEntry} {n : Nat} {sl : Array (Option Value)} {Q : Value → Shared → Prop}
/-- a local name -/
theorem my_name (F : Fr h₀ L s.heap m) (hv : m y = some v) (hx : cs.names.lookup y = some .local) (hd : (y == ("__debug__" : Str)) = false) (hk : cs.kind = .function) (h : Q v s) :
    wpAny M A (eval (.Name y yp) (envX cn cs L a ccd cl)) Q E s := nameX_L F hv h hk hx hd
theorem my_get {expr : Bool} {hp : Heap} {gs : Array GenState} {dr : Drawn} {tk : Tok} {os : OsState} (F : Fr h₀ L hp m) (X₀ : K.In h₀) (N : News h₀ L hp news) (h1 : (x, (⟨.ref C, some d, .plain, sl⟩ : Obj)) ∈ news) (h2 : (d, dictOf es n) ∈ news)
    (hg : plainGet K C attr = true) (hhd : hasDictIn K C = true) (ha : findIn K (.ref C) attr = some none) (hl : getL attr es = some (some v)) (hh : handedIn v = true) (h : Q v ⟨hp, gs, dr, tk + 1, os⟩) :
    wpAny (model prog w) A (getAttr (.ref x) attr expr) Q E ⟨hp, gs, dr, tk, os⟩ := get_own (s := ⟨hp, gs, dr, tk, os⟩) F X₀ (InstAt.of_news N h1 h2) hg hhd ha rfl hl hh h
/-- an attribute of what a local name names -/
theorem my_attr {hp : Heap} {gs : Array GenState} {dr : Drawn} {tk : Tok} {os : OsState} (F : Fr h₀ L hp m) (X₀ : K.In h₀) (N : News h₀ L hp news) (hv : m y = some (.ref x)) (hx : cs.names.lookup y = some .local) (hd : (y == ("__debug__" : Str)) = false) (hk : cs.kind = .function)
    (h1 : (x, (⟨.ref C, some d, .plain, sl⟩ : Obj)) ∈ news) (h2 : (d, dictOf es n) ∈ news) (hg : plainGet K C attr = true) (hhd : hasDictIn K C = true) (ha : findIn K (.ref C) attr = some none) (hl : getL attr es = some (some v)) (hh : handedIn v = true)
    (h : Q v ⟨hp, gs, dr, tk + 1, os⟩) : wpAny (model prog w) A (eval (.Attribute (.Name y yp) attr pos) (envX cn cs L a ccd cl)) Q E ⟨hp, gs, dr, tk, os⟩ :=
  Attribute_Name_ (my_name (s := ⟨hp, gs, dr, tk, os⟩) F hv hx hd hk (my_get F X₀ N h1 h2 hg hhd ha hl hh h))
theorem my_meth {pl : Sem Bool} {Q : Value × List Value → Shared → Prop} (F : Fr h₀ L s.heap m) (X₀ : K.In h₀) (N : News h₀ L s.heap news) (h1 : (x, (⟨.ref C, some d, .plain, sl⟩ : Obj)) ∈ news) (h2 : (d, dictOf es n) ∈ news)
    (hg : plainGet K C attr = true) (hf : findIn K (.ref C) attr = some (some (.ref f))) (ht : isFn K (.ref f) = true) (hl : getL attr es = some none) (h : Q (.ref f, [.ref x]) s) :
    wpAny (model prog w) A (getMethod (.ref x) attr pl) Q E s := method_inst F X₀ (InstAt.of_news N h1 h2) hg hf ht hl h
/-- a method of what a local name names, called -/
theorem my_mcall {args : List Expr} {pl : Sem Bool} (F : Fr h₀ L s.heap m) (X₀ : K.In h₀) (N : News h₀ L s.heap news) (hv : m y = some (.ref x)) (hx : cs.names.lookup y = some .local) (hd : (y == ("__debug__" : Str)) = false) (hk : cs.kind = .function)
    (h1 : (x, (⟨.ref C, some d, .plain, sl⟩ : Obj)) ∈ news) (h2 : (d, dictOf es n) ∈ news) (hg : plainGet K C attr = true) (hf : findIn K (.ref C) attr = some (some (.ref f))) (ht : isFn K (.ref f) = true) (hl : getL attr es = some none)
    (he : eval (.Call (.Attribute (.Name y yp) attr apos) args [] pos) (envX cn cs L a ccd cl) = (do
      let ov ← eval (.Name y yp) (envX cn cs L a ccd cl)
      standAt apos.atName
      let (f, first) ← holding [ov] (getMethod ov attr pl)
      callWith pos f first (backTo pos (starEach args (envX cn cs L a ccd cl))) []))
    (h : wpAny (model prog w) A (callWith pos (.ref f) [.ref x] (backTo pos (starEach args (envX cn cs L a ccd cl))) []) Q E s) :
    wpAny (model prog w) A (eval (.Call (.Attribute (.Name y yp) attr apos) args [] pos) (envX cn cs L a ccd cl)) Q E s :=
  MethodCall_ (my_name F hv hx hd hk (my_meth F X₀ N h1 h2 hg hf ht hl h)) he
end
section
open PyProof.Rows.LCg PyProof.Rows.LCp
variable {prog : Program} {w : World} {A : Around} {E : Value → Shared → Prop} {s : Shared} {h₀ : Heap} {L : Addr} {m : Str → Option Value} {env : Env}
abbrev tup3 (a b c : Value) : Obj := { cls := .type "tuple", data := .seq #[a, b, c] }
/-- what a turn of the comprehension over rows is to show -/
def Turn3 (prog : Program) (w : World) (A : Around) (h₀ : Heap) (L : Addr) (m : Str → Option Value) (env : Env) (elt : PySem.Expr) (x y z : Str) (scope : Scope) (cl : List (Str × Addr)) (s : Shared) (ax : Addr) (its : Array Value) (J : Nat → List Value → List (Addr × Obj) → Prop) : Prop :=
  ∀ i ys news, i < its.size → J i ys news → ∃ t v₁ v₂ v₃, its[i]? = some (.ref t) ∧ (t, tup3 v₁ v₂ v₃) ∈ news ∧
    ∀ I oI C oC D m₂ h tk (E' : Value → Shared → Prop), NsObj oC m₂ → m₂ x = some v₁ → m₂ y = some v₂ → m₂ z = some v₃ → Fr h₀ L h m → News h₀ L h ((I, oI) :: (C, oC) :: (D, lst ys) :: news) → Off3 I C D news → ((@Ne Nat I C) ∧ (@Ne Nat I D) ∧ (@Ne Nat C D)) →
      wpAny (model prog w) A (eval elt (compEnvC scope cl C env)) (CompEnd h₀ L m { s with heap := h, toks := tk } I oI C oC D (lst ys) (SrcAt h₀ ax its) (fun v news' => J (i + 1) (ys ++ [v]) news')) E' { s with heap := h, toks := tk }
theorem three_names {x y z : Str} {v₁ v₂ v₃ : Value} {m₁ : Str → Option Value} (hxy : x ≠ y) (hxz : x ≠ z) (hyz : y ≠ z) :
    (fun q => if q = z then some v₃ else if q = y then some v₂ else if q = x then some v₁ else m₁ q) x = some v₁ ∧ (fun q => if q = z then some v₃ else if q = y then some v₂ else if q = x then some v₁ else m₁ q) y = some v₂ := by
  refine ⟨?_, ?_⟩
  · show (if x = z then some v₃ else if x = y then some v₂ else if x = x then some v₁ else m₁ x) = some v₁
    rw [if_neg hxz, if_neg hxy, if_pos rfl]
  · show (if y = z then some v₃ else if y = y then some v₂ else if y = x then some v₁ else m₁ y) = some v₂
    rw [if_neg hyz, if_pos rfl]
theorem block3 {elt iter : PySem.Expr} {x y z : Str} {px py pz tp : Pos} {tk} {scope : Scope} {cl : List (Str × Addr)} {pos : Pos} {I ax : Addr} {its : Array Value} {J : Nat → List Value → List (Addr × Obj) → Prop} {news : List (Addr × Obj)} {RR : Value → Addr → Result → Shared → Prop}
    (hne : ax ≠ I) (hsz : its.size ≤ sizeLine) (hh : A.handled = none)
    (hcell : ∀ q ∈ scope.names, q.2 ≠ .cell) (hkind : scope.kind = .function) (hx : scope.names.lookup x = some .local) (hy : scope.names.lookup y = some .local) (hz : scope.names.lookup z = some .local) (hxy : x ≠ y) (hxz : x ≠ z) (hyz : y ≠ z)
    (hst : s.heap.IsListIter I ax 0 ∧ s.heap.IsList ax its) (hI : I < s.heap.objs.size) (hax : ax < s.heap.objs.size)
    (F : Fr h₀ L s.heap m) (N : News h₀ L s.heap news) (hIL : L ≠ I) (hI₀ : h₀.get? I = none) (off : ∀ p ∈ news, p.1 ≠ I) (hS : SrcAt h₀ ax its news)
    (hJ : J 0 [] news) (turn : Turn3 prog w A h₀ L m env elt x y z scope cl s ax its J)
    (hRR : ∀ D C h tk m' ys news', Fr h₀ L h m → News h₀ L h ((D, lst ys) :: news') → Off1 D news' → h.Ns C m' → h₀.get? C = none → h₀.get? D = none → C ≠ L → D ≠ L → C ≠ D → (∀ p ∈ news', p.1 ≠ C) → J its.size ys news' → RR (.ref D) C (.ok .next) { s with heap := h, toks := tk }) :
    wpAny (model prog w) A (newList []) (fun acc s₃ => wpAny (model prog w) A (newFunctionEnv scope env.globals cl [] env.qual none .none (some env)) (fun cenv s₄ =>
      codeAny (model prog w) A (.compStart (.ListComp elt [⟨.Tuple [.Name x px, .Name y py, .Name z pz] tk tp, iter, [], 0⟩] scope pos) 0 (.ref I) acc { cenv with scope := relabel scope env }) (RR acc cenv.locals) s₄) E s₃) E s := by
  have W := Walks.list (prog := prog) (w := w) hh I ax hne its
  refine wpAny_newObj_type (wpAny_newFunctionEnv hcell (by intro q hq; simp at hq) (fun h₁ hns₁ hsb₁ => ?_) hkind)
  dsimp only at hns₁ hsb₁ ⊢
  generalize hH : s.heap.push { cls := .type "list", dict := none, data := .seq ([] : List Value).toArray } = H at hns₁ hsb₁ ⊢
  have hC : H.objs.size = s.heap.objs.size + 1 := by rw [← hH, Heap.size_push]
  have lt0 : ∀ b, b < s.heap.objs.size → b ≠ s.heap.objs.size ∧ b ≠ H.objs.size := fun b hb => ⟨Nat.ne_of_lt hb, by rw [hC]; exact Nat.ne_of_lt (Nat.lt_succ_of_lt hb)⟩
  have hDC : s.heap.objs.size ≠ H.objs.size := by rw [hC]; exact Nat.ne_of_lt (Nat.lt_succ_self _)
  have keep₁ : ∀ b o, s.heap.get? b = some o → h₁.get? b = some o := fun b o e => hsb₁.extBut b o (lt0 b (Heap.lt_size e)).2 (Heap.get?_push_of_some _ (hH ▸ Heap.get?_push_of_some _ e))
  have hacc : h₁.get? s.heap.objs.size = some (lst []) := hsb₁.extBut _ _ hDC (Heap.get?_push_of_some _ (hH ▸ Heap.get?_push_size _ rfl))
  have new₀ : ∀ a, s.heap.objs.size ≤ a → h₀.get? a = none := fun a ha => by
    cases e : h₀.get? a with
    | none => rfl
    | some o' => exact absurd (Heap.lt_size (F.keep a o' e)) (Nat.not_lt.mpr ha)
  have hD₀ := new₀ _ (Nat.le_refl _)
  have hC₀ : h₀.get? H.objs.size = none := new₀ _ (by rw [hC]; exact Nat.le_succ _)
  have hL := lt0 L F.ns.lt
  have hIne := lt0 I hI
  have haxne := lt0 ax hax
  have offs : Off3 I H.objs.size s.heap.objs.size news := Off3.of fun p hp => ⟨off p hp, (lt0 _ (Heap.lt_size (N p hp).1)).2, (lt0 _ (Heap.lt_size (N p hp).1)).1⟩
  have apart : ∀ {h h' : Heap}, (∀ b o, b ≠ H.objs.size → b ≠ s.heap.objs.size → h.get? b = some o → h'.get? b = some o) → ∀ i, (h.IsListIter I ax i ∧ h.IsList ax its) → (h'.IsListIter I ax i ∧ h'.IsList ax its) := fun k i st =>
    W.frame i _ _ st fun b hb o e => by
      rcases List.mem_cons.mp hb with rfl | hb
      · exact k _ o hIne.2 hIne.1 e
      · rw [List.mem_singleton.mp hb] at e ⊢; exact k _ o haxne.2 haxne.1 e
  have loop : ∀ s₃ : Shared, s₃ = { s with heap := h₁, toks := s.toks + ([] : List (Str × Value)).length } →
      codeAny (model prog w) A (.compLoop (.ListComp elt [⟨.Tuple [.Name x px, .Name y py, .Name z pz] tk tp, iter, [], 0⟩] scope pos) 0 (.ref I) (.ref s.heap.objs.size) (compEnvC scope cl H.objs.size env)) (RR (.ref s.heap.objs.size) H.objs.size) s₃ := by
    rintro s₃ rfl
    refine codeAny_compLoop_pair
      (fun k s' => ∃ h' tk i ys m' news', s' = { s with heap := h', toks := tk } ∧ i ≤ its.size ∧ k = its.size + 1 - i ∧ ys.length = i ∧ (h'.IsListIter I ax i ∧ h'.IsList ax its) ∧ Fr h₀ L h' m ∧ h'.Ns H.objs.size m' ∧
        News h₀ L h' ((s.heap.objs.size, lst ys) :: news') ∧ Off3 I H.objs.size s.heap.objs.size news' ∧ SrcAt h₀ ax its news' ∧ J i ys news') ?_ (its.size + 1)
      ⟨h₁, _, 0, [], _, news, rfl, Nat.zero_le _, rfl, rfl, apart (fun b o _ _ e => keep₁ b o e) 0 hst, F.keeps keep₁, hns₁, fun p hp => ?_, offs, hS, hJ⟩
    · intro k s' hInv
      refine cps fun GG kk => ?_
      obtain ⟨h', tk', i, ys, m', news', rfl, hi, rfl, hyl, st, F', hn', N', off', hS', J'⟩ := hInv
      refine kk ?_
      have o3 := off'.mem
      have offD : ∀ p ∈ (s.heap.objs.size, lst ys) :: news', p.1 ≠ I := List.forall_mem_cons.mpr ⟨Ne.symm hIne.1, fun p hp => (o3 p hp).1⟩
      by_cases hlt : i < its.size
      · refine cps fun GG kk => ?_
        obtain ⟨t, v₁, v₂, v₃, hit, hmt, body⟩ := turn i ys news' hlt J'
        refine kk ?_
        refine W.item i _ _ _ hlt st fun v h₂ tk₂ hv st₂ k₂ => ?_
        obtain rfl : v = .ref t := Option.some.inj (hv.symm.trans hit)
        have N₂ := news_but N' k₂ offD
        have ht : IsTup h₂ t #[v₁, v₂, v₃] := ⟨_, (N₂ _ (List.mem_cons_of_mem _ hmt)).1, rfl, _, rfl⟩
        refine wpAny_letOwnedTupleGo_listiter st₂.1 ?_
        refine assign_Tuple_tuple hh ht rfl rfl fun h₃ e₃ => ?_
        have up₃ : ∀ b o, h₂.get? b = some o → h₃.get? b = some o := fun b o e => e₃ b o (Nat.ne_of_lt (Heap.lt_size e)) e
        have n₃ := (hn'.at' fun o e => k₂ _ o (by simpa using Ne.symm hIne.2) e).at' fun o e => up₃ _ o e
        refine assignInOrder_cons (wpAny_assign_Name (wpAny_storeName_local (lookup_relabel_local hx) n₃ (fun h₄ n₄ c₄ => ?_) (by simp [compEnvC, relabel, hkind])))
        refine assignInOrder_cons (wpAny_assign_Name (wpAny_storeName_local (lookup_relabel_local hy) n₄ (fun h₅ n₅ c₅ => ?_) (by simp [compEnvC, relabel, hkind])))
        refine assignInOrder_cons (wpAny_assign_Name (wpAny_storeName_local (lookup_relabel_local hz) n₅ (fun h₆ n₆ c₆ => ?_) (by simp [compEnvC, relabel, hkind])))
        refine assignInOrder_nil ?_
        have up₆ : ∀ b o, b ≠ H.objs.size → h₂.get? b = some o → h₆.get? b = some o := fun b o hb e => c₆.extBut b o hb (c₅.extBut b o hb (c₄.extBut b o hb (up₃ b o e)))
        have st₆ := apart (fun b o hb _ e => up₆ b o hb e) _ st₂
        obtain ⟨oI, eI⟩ : ∃ o, h₆.get? I = some o := by obtain ⟨o, e, _⟩ := st₆.1; exact ⟨o, e⟩
        obtain ⟨oC, eC, nC⟩ := ns_obj n₆
        have F₆ : Fr h₀ L h₆ m := ((((fr_but F' k₂ hIL hI₀).keeps up₃).change c₄ (Ne.symm hL.2) hC₀).change c₅ (Ne.symm hL.2) hC₀).change c₆ (Ne.symm hL.2) hC₀
        have N₆ : News h₀ L h₆ ((I, oI) :: (H.objs.size, oC) :: (s.heap.objs.size, lst ys) :: news') := by
          refine List.forall_mem_cons.mpr ⟨⟨eI, Ne.symm hIL, hI₀⟩, List.forall_mem_cons.mpr ⟨⟨eC, Ne.symm hL.2, hC₀⟩, fun p hp => ⟨up₆ _ _ ?_ (N₂ p hp).1, (N₂ p hp).2⟩⟩⟩
          rcases List.mem_cons.mp hp with rfl | hp
          · exact hDC
          · exact (o3 p hp).2.1
        have nm := three_names (v₁ := v₁) (v₂ := v₂) (v₃ := v₃) (m₁ := m') hxy hxz hyz
        refine wpAny_mono (body I oI H.objs.size oC s.heap.objs.size _ h₆ _ _ nC nm.1 nm.2 (if_pos rfl) F₆ N₆ off' ⟨hIne.2, hIne.1, Ne.symm hDC⟩) (fun v s₇ e₇ => ?_) fun _ _ e => e
        refine cps fun GG kk => ?_
        obtain ⟨h₇, tk₇, news₇, rfl, F₇, N₇, off₇, hS₇, J₇⟩ := e₇
        refine kk ?_
        have NI := N₇ _ List.mem_cons_self
        have NC := N₇ _ (List.mem_cons_of_mem _ List.mem_cons_self)
        have ND := N₇ _ (List.mem_cons_of_mem _ (List.mem_cons_of_mem _ List.mem_cons_self))
        have NN : News h₀ L h₇ news₇ := fun p hp => N₇ p (List.mem_cons_of_mem _ (List.mem_cons_of_mem _ (List.mem_cons_of_mem _ hp)))
        have st₇ := list_st _ _ _ _ _ st₆ eI NI.1 F₇.keep NN hS₇
        refine append_at (hsz := by show ys.toArray.size ≤ sizeLine; rw [List.size_toArray, hyl]; exact Nat.le_trans hi hsz) ND.1 fun h₈ c₈ e₈ => ?_
        have o7 := off₇.mem
        refine ⟨its.size + 1 - (i + 1), by omega, h₈, tk₇, i + 1, ys ++ [v], _, news₇, rfl, hlt, rfl, by rw [List.length_append, List.length_singleton, hyl], W.frame _ _ _ st₇ fun b hb o e => c₈.extBut b o (fun q => ?_) e, F₇.change c₈ (Ne.symm hL.1) hD₀,
          (nC.ns NC.1).sameBut c₈ (Ne.symm hDC), fun p hp => ?_, off₇, hS₇, J₇⟩
        · subst q
          rcases List.mem_cons.mp hb with e | hb
          · exact hIne.1 e.symm
          · exact haxne.1 (List.mem_singleton.mp hb).symm
        · rcases List.mem_cons.mp hp with rfl | hp
          · exact ⟨e₈.trans (congrArg some (lst_snoc ys v)), Ne.symm hL.1, hD₀⟩
          · exact ⟨c₈.extBut _ _ (o7 p hp).2.2 (NN p hp).1, (NN p hp).2⟩
      · obtain rfl : i = its.size := Nat.le_antisymm hi (Nat.not_lt.mp hlt)
        refine W.done _ _ _ st fun h₂ tk₂ k₂ => ?_
        exact hRR _ _ h₂ tk₂ _ ys news' (fr_but F' k₂ hIL hI₀) (news_but N' k₂ offD) off'.one (hn'.at' fun o e => k₂ _ o (by simpa using Ne.symm hIne.2) e) hC₀ hD₀ (Ne.symm hL.2) (Ne.symm hL.1) (Ne.symm hDC) (fun p hp => (o3 p hp).2.1) J'
    · rcases List.mem_cons.mp hp with rfl | hp
      · exact ⟨hacc, Ne.symm hL.1, hD₀⟩
      · exact ⟨keep₁ _ _ (N p hp).1, (N p hp).2⟩
  exact codeAny_compStart_list (loop _ rfl) (W.self 0 _ _ _ (apart (fun b o _ _ e => keep₁ b o e) 0 hst) (loop _ rfl))
theorem off1_all {D : Addr} : ∀ {l : List (Addr × Obj)}, Off1 D l → ∀ p ∈ l, p.1 ≠ D
  | [], _, _, h => nomatch h
  | _ :: _, x, p, h => by
    rcases List.mem_cons.mp h with rfl | h
    · exact x.1
    · exact off1_all x.2 p h
/-- where the source of the comprehension stands -/
def Src3 (prog : Program) (w : World) (A : Around) (h₀ : Heap) (L : Addr) (m : Str → Option Value) (env : Env) (elt : PySem.Expr) (x y z : Str) (scope : Scope) (cl : List (Str × Addr)) (Q : Value → Shared → Prop) (xv : Value) (s₁ : Shared) : Prop :=
  ∃ ax its news J, xv = .ref ax ∧ A.handled = none ∧ Fr h₀ L s₁.heap m ∧ News h₀ L s₁.heap news ∧ SrcAt h₀ ax its news ∧ its.size ≤ sizeLine ∧ J 0 [] news ∧
    (∀ g, Turn3 prog w A h₀ L m env elt x y z scope cl { s₁ with heap := g } ax its J) ∧
    (∀ D ys news' h tk, J its.size ys news' → Fr h₀ L h m → News h₀ L h ((D, lst ys) :: news') → (∀ p ∈ news', p.1 ≠ D) → Q (.ref D) { s₁ with heap := h, toks := tk })
theorem Src3.of {elt : PySem.Expr} {x y z : Str} {scope : Scope} {cl : List (Str × Addr)} {Q : Value → Shared → Prop} {s₁ : Shared} {ax : Addr} {its : Array Value} {news : List (Addr × Obj)} {J : Nat → List Value → List (Addr × Obj) → Prop}
    (hh : A.handled = none) (F : Fr h₀ L s₁.heap m) (N : News h₀ L s₁.heap news) (S : SrcAt h₀ ax its news) (hsz : its.size ≤ sizeLine) (hJ : J 0 [] news) (turn : ∀ g, Turn3 prog w A h₀ L m env elt x y z scope cl { s₁ with heap := g } ax its J)
    (fin : ∀ D ys news' h tk, J its.size ys news' → Fr h₀ L h m → News h₀ L h ((D, lst ys) :: news') → (∀ p ∈ news', p.1 ≠ D) → Q (.ref D) { s₁ with heap := h, toks := tk }) : Src3 prog w A h₀ L m env elt x y z scope cl Q (.ref ax) s₁ := ⟨ax, its, news, J, rfl, hh, F, N, S, hsz, hJ, turn, fin⟩
theorem comp3 {elt iter : PySem.Expr} {x y z : Str} {px py pz tp : Pos} {tk} {scope : Scope} {cl : List (Str × Addr)} {pos : Pos} {Q : Value → Shared → Prop}
    (_ : Fr h₀ L s.heap m) (hclos : closureFor scope env = pure cl) (hcell : ∀ q ∈ scope.names, q.2 ≠ .cell) (hkind : scope.kind = .function)
    (hnames : ∀ q ∈ scope.names, q.2 = .local → scope.names.lookup q.1 = some .local) (hx : scope.names.lookup x = some .local) (hy : scope.names.lookup y = some .local) (hz : scope.names.lookup z = some .local) (hxy : x ≠ y) (hxz : x ≠ z) (hyz : y ≠ z)
    (hs : ∀ q, foldedSetIterable iter env q = pure q)
    (h : wpAny (model prog w) A (eval iter env) (Src3 prog w A h₀ L m env elt x y z scope cl Q) E s) :
    wpAny (model prog w) A (eval (.ListComp elt [⟨.Tuple [.Name x px, .Name y py, .Name z pz] tk tp, iter, [], 0⟩] scope pos) env) Q E s := by
  rw [eval_ListComp]
  refine wpAny_comprehension_free (use := none) rfl hs hclos hkind hnames (wpAny_mono h (fun xv s₁ h₁ => ?_) fun _ _ e => e)
  refine cps fun GG kk => ?_
  obtain ⟨ax, its, news, J, rfl, hh, F, N, S, hsz, hJ, turn, fin⟩ := h₁
  refine kk ?_
  have hl := S.list F.keep N
  have hlt : ax < s₁.heap.objs.size := by obtain ⟨_, e, _⟩ := hl; exact Heap.lt_size e
  refine wpAny_pyIter_list hl ?_
  have up : ∀ b o, s₁.heap.get? b = some o → (s₁.heap.push { cls := .type "list_iterator", data := .fields #[.ref ax, .int 0 0] }).get? b = some o := fun b o e => Heap.get?_push_of_some _ e
  refine block3 (s := { s₁ with heap := s₁.heap.push { cls := .type "list_iterator", data := .fields #[.ref ax, .int 0 0] } }) (Nat.ne_of_lt hlt) hsz hh hcell hkind hx hy hz hxy hxz hyz ⟨⟨_, Heap.get?_push_size _ rfl, rfl, rfl⟩, hl.push _⟩ ?_ ?_
    (F.keeps up) (N.grown up) (Nat.ne_of_lt F.ns.lt) (next_is_new F) (fun p hp => Nat.ne_of_lt (Heap.lt_size (N p hp).1)) S hJ (turn _) ?_
  · show _ < (s₁.heap.push _).objs.size
    rw [Heap.size_push]
    exact Nat.lt_succ_self _
  · show _ < (s₁.heap.push _).objs.size
    rw [Heap.size_push]
    exact Nat.lt_succ_of_lt hlt
  · intro D C h' tk m' ys news' F' N' o1 hn hC₀ hD₀ hCL hDL hCD offC hj
    refine ⟨m', hn, fun h'' c'' => fin D ys news' h'' tk hj (F'.change c'' hCL hC₀) (fun p hp => ⟨c''.extBut _ _ ?_ (N' p hp).1, (N' p hp).2⟩) (off1_all o1)⟩
    rcases List.mem_cons.mp hp with rfl | hp
    · exact Ne.symm hCD
    · exact offC p hp
end
theorem cell_c {prog : Program} {w : World} {p : Program} {loose : List Str} {mean : ExcName → Option Value} {mg mb : Str → Option Value}
  {dp un : Nat} {gd : Option (List Code)} {cn : Str} {cs : Scope} {a : Addr} {ccd : Value} {cl : List (Str × Addr)} {outer : List Env} {A₀ : Around} {base h₀ : Heap} {L : Addr} {m : Str → Option Value} {s : Shared} {Q E : Value → Shared → Prop}
  {l t : Addr} {k : Int} {tk : Tok} {n : Nat} {news rest : List (Addr × Obj)} {many : Int} {u : Tok}
  (B : Below A₀ base outer h₀) (F : Fr h₀ L s.heap m) (X : (Mine.hd.heap_39 w.params).In h₀) (N₀ : News h₀ L s.heap news) (T : Top p loose mean mg mb h₀) (hk : cs.kind = .function)
  (P : Pick (t, tapeObj l k tk n) news rest) (hT : TapeIn rest l) (hoff : ∀ p ∈ rest, p.1 ≠ t) (hk0 : 0 ≤ k) (hk1 : k < 1000) (hm : 1 ≤ many) (hm2 : many ≤ 100)
  (hd : dp + 1 < recursionLimit) (_ : un + 8 < cLine)
  (ret : ∀ v t' h' tk' tkk, 0 ≤ v → v < many → Fr h₀ L h' m → News h₀ L h' ((t, tapeObj l (k+1) tkk n) :: rest) → Q (.int v t') {s with heap := h', toks := tk'}) :
  wpAny (model prog w) (ktrTop dp un gd cn cs L a ccd cl outer) (call (.ref 238) [.ref t, .int many u]) Q E s := by
  have N := P.news N₀
  refine cps fun GG kk => ?_
  obtain ⟨nl, vs, xs, hl, hi, hvs, hlen, hpos⟩ := hT
  refine kk ?_
  have nofold : NoFold := rfl
  refine wpAny_call ?_
  k_extra "my_enter"
  have q0 := ipos hpos
  have q1 := ito hlen
  have hmd0 : 0 ≤ k % (xs.length : Int) := Int.emod_nonneg _ (ine q0)
  have hmd1 : k % (xs.length : Int) ≤ 64 := Int.le_trans (Int.le_of_lt (Int.emod_lt_of_pos _ q0)) q1
  have hmd2 : k % (xs.length : Int) < xs.length := Int.emod_lt_of_pos _ q0
  have hdv0 : 0 ≤ k / (xs.length : Int) := Int.ediv_nonneg hk0 (Int.le_of_lt q0)
  have m0 : 0 < many := hm
  have m1 : 0 ≤ many := Int.le_of_lt m0
  have m2 : many ≠ 0 := ine m0
  have hv64 : vs.length ≤ 64 := Nat.le_trans (Nat.le_of_eq hvs) hlen
  have hdv2 : k / (xs.length : Int) < 1000 := Int.lt_of_le_of_lt (Int.ediv_le_self _ hk0) hk1
  have hdv1 : k / (xs.length : Int) ≤ k := Int.ediv_le_self _ hk0
  k_steps
  rw [Int.fmod_eq_emod_of_nonneg _ (by k_extra "my_num")]
  exact ret _ _ _ _ _ (Int.emod_nonneg _ (by k_extra "my_num")) (Int.emod_lt_of_pos _ (by k_extra "my_num")) (by k_asm) (news_tl (by k_asm))

/-- the tape asked, as an expression -/
theorem my_cell {prog : Program} {w : World} {p : Program} {loose : List Str} {mean : ExcName → Option Value} {mg mb : Str → Option Value}
  {dp un : Nat} {gd : Option (List Code)} {cn : Str} {cs : Scope} {a : Addr} {ccd : Value} {cl : List (Str × Addr)} {outer : List Env} {A₀ : Around} {base h₀ : Heap} {L : Addr} {m : Str → Option Value} {s : Shared} {Q E : Value → Shared → Prop}
  {l t : Addr} {k : Int} {tk : Tok} {n : Nat} {news rest : List (Addr × Obj)} {many : Int} {p1 p2 p3 p4 : Pos}
  (B : Below A₀ base outer h₀) (F : Fr h₀ L s.heap m) (X : (Mine.hd.heap_39 w.params).In h₀) (N₀ : News h₀ L s.heap news) (T : Top p loose mean mg mb h₀) (hk : cs.kind = .function)
  (hv : m (PySem.Str.ofString "tape") = some (.ref t)) (hx : cs.names.lookup (PySem.Str.ofString "tape") = some .local) (hy : cs.names.lookup (PySem.Str.ofString "_law_cell") = some .globalImplicit)
  (P : Pick (t, tapeObj l k tk n) news rest) (hT : TapeIn rest l) (hoff : ∀ p ∈ rest, p.1 ≠ t) (hk0 : 0 ≤ k) (hk1 : k < 1000) (hm : 1 ≤ many) (hm2 : many ≤ 100)
  (hd : dp + 1 < recursionLimit) (hu : un + 8 < cLine)
  (ret : ∀ v t' h' tk' tkk, 0 ≤ v → v < many → Fr h₀ L h' m → News h₀ L h' ((t, tapeObj l (k+1) tkk n) :: rest) → Q (.int v t') {s with heap := h', toks := tk'}) :
  wpAny (model prog w) (ktrTop dp un gd cn cs L a ccd cl outer) (eval (.Call (.Name (PySem.Str.ofString "_law_cell") p1) [.Name (PySem.Str.ofString "tape") p2, .Constant (.int many) 0 p3] [] p4) (envX cn cs L a ccd cl)) Q E s := by
  have T' := topRead_of T
  k_steps
  refine nameX_K F X T' (by k_is) ?_ hk hy (by decide)
  k_steps
  refine my_name F hv hx (by decide) hk ?_
  k_steps
  exact ret _ _ _ _ _ (by assumption) (by assumption) (by k_asm) (by k_asm)
theorem strOk_of (s : String) : PyData.strOk (PySem.Str.ofString s) = true := by
  rw [PySem.Str.ofString_eq_toList]
  unfold PyData.strOk
  rw [List.all_toArray, List.all_eq_true]
  intro x hx
  obtain ⟨c, _, rfl⟩ := List.mem_map.mp hx
  have := c.valid
  rw [decide_eq_true_eq]
  show c.val.toNat < 0x110000
  rcases this with h | h
  · exact Nat.lt_trans h (by decide)
  · exact h.2
structure Row where
  kind : Str
  text : Str
  col : Int
abbrev endS : Str := Str.ofString "end"
abbrev rowObj (r : Row) (t1 t2 t3 : Tok) : Obj := { cls := .type "tuple", data := .seq #[.str r.kind t1, .str r.text t2, .int r.col t3] }
def RowAt (led : List (Addr × Obj)) (v : Value) (r : Row) : Prop := ∃ a t1 t2 t3, v = .ref a ∧ (a, rowObj r t1 t2 t3) ∈ led
theorem RowAt.mono {led led' : List (Addr × Obj)} {v : Value} {r : Row} (h : RowAt led v r) (hs : ∀ p ∈ led, p ∈ led') : RowAt led' v r := by
  obtain ⟨a, t1, t2, t3, e, hm⟩ := h
  exact ⟨a, t1, t2, t3, e, hs _ hm⟩
/-- the values stand for the rows, one by one -/
def RowsAt (led : List (Addr × Obj)) (vs : List Value) (rs : List Row) : Prop :=
  (vs.length = rs.length) ∧
  (∀ (i : Nat) v r, vs[i]? = some v → rs[i]? = some r → RowAt led v r)
theorem RowsAt.len {led : List (Addr × Obj)} {vs : List Value} {rs : List Row} (h : RowsAt led vs rs) : vs.length = rs.length := h.1
theorem RowsAt.at_ {led : List (Addr × Obj)} {vs : List Value} {rs : List Row} (h : RowsAt led vs rs) : ∀ (i : Nat) v r, vs[i]? = some v → rs[i]? = some r → RowAt led v r := h.2
theorem RowsAt.nil {led : List (Addr × Obj)} : RowsAt led [] [] := ⟨rfl, fun _ _ _ h => by simp at h⟩
theorem RowsAt.mono {led led' : List (Addr × Obj)} {vs : List Value} {rs : List Row} (h : RowsAt led vs rs) (hs : ∀ p ∈ led, p ∈ led') : RowsAt led' vs rs :=
  ⟨h.len, fun i v r a b => (h.at_ i v r a b).mono hs⟩
theorem RowsAt.snoc {led : List (Addr × Obj)} {vs : List Value} {rs : List Row} {v : Value} {r : Row} (h : RowsAt led vs rs) (hv : RowAt led v r) : RowsAt led (vs ++ [v]) (rs ++ [r]) := by
  refine ⟨by simp [h.len], fun i v' r' a b => ?_⟩
  by_cases hi : i < vs.length
  · rw [List.getElem?_append_left hi] at a
    rw [List.getElem?_append_left (h.len ▸ hi)] at b
    exact h.at_ i v' r' a b
  · have hi' : vs.length ≤ i := Nat.le_of_not_lt hi
    rw [List.getElem?_append_right hi'] at a
    rw [List.getElem?_append_right (h.len ▸ hi'), ← h.len] at b
    cases hj : i - vs.length with
    | zero => rw [hj] at a b; simp at a b; subst a; subst b; exact hv
    | succ j => rw [hj] at a; simp at a

section
variable {prog : Program} {w : World} {A : Around} {E : Value → Shared → Prop} {s : Shared} {h₀ : Heap} {L : Addr} {m : Str → Option Value}
theorem signs_item {value slice : PySem.Expr} {v : Int} {u : Tok} {Q : Value → Shared → Prop} (F : Fr h₀ L s.heap m) (X : (Mine.hd.heap_39 w.params).In h₀) (h0 : 0 ≤ v) (h1 : v < 4)
    (h : ∀ x t, PySem.Str.length x ≤ 2 → PyData.strOk x = true → Q (.str x t) s)
    (hs : subscripted slice false (.ref 230) (.int v u) = operate [.ref 230, .int v u] (getItem (.ref 230) (.int v u))) :
    wpAny (model prog w) A (subscriptTail value slice (.ref 230) (.int v u)) Q E s := by
  obtain ⟨n, rfl⟩ := Int.eq_ofNat_of_zero_le h0
  rcases (by decide : ∀ n : Nat, n < 4 → n = 0 ∨ n = 1 ∨ n = 2 ∨ n = 3) n (Int.ofNat_lt.mp h1) with rfl | rfl | rfl | rfl
  · exact topTup_K (j := 0) F X (by k_is) (by decide) (by decide) (by decide) rfl (h _ _ (by decide) (strOk_of _)) hs
  · exact topTup_K (j := 1) F X (by k_is) (by decide) (by decide) (by decide) rfl (h _ _ (by decide) (strOk_of _)) hs
  · exact topTup_K (j := 2) F X (by k_is) (by decide) (by decide) (by decide) rfl (h _ _ (by decide) (strOk_of _)) hs
  · exact topTup_K (j := 3) F X (by k_is) (by decide) (by decide) (by decide) rfl (h _ _ (by decide) (strOk_of _)) hs
theorem names_item {value slice : PySem.Expr} {v : Int} {u : Tok} {Q : Value → Shared → Prop} (F : Fr h₀ L s.heap m) (X : (Mine.hd.heap_39 w.params).In h₀) (h0 : 0 ≤ v) (h1 : v < 3)
    (h : ∀ x t, PySem.Str.length x ≤ 3 → PyData.strOk x = true → Q (.str x t) s)
    (hs : subscripted slice false (.ref 231) (.int v u) = operate [.ref 231, .int v u] (getItem (.ref 231) (.int v u))) :
    wpAny (model prog w) A (subscriptTail value slice (.ref 231) (.int v u)) Q E s := by
  obtain ⟨n, rfl⟩ := Int.eq_ofNat_of_zero_le h0
  rcases (by decide : ∀ n : Nat, n < 3 → n = 0 ∨ n = 1 ∨ n = 2) n (Int.ofNat_lt.mp h1) with rfl | rfl | rfl
  · exact topTup_K (j := 0) F X (by k_is) (by decide) (by decide) (by decide) rfl (h _ _ (by decide) (strOk_of _)) hs
  · exact topTup_K (j := 1) F X (by k_is) (by decide) (by decide) (by decide) rfl (h _ _ (by decide) (strOk_of _)) hs
  · exact topTup_K (j := 2) F X (by k_is) (by decide) (by decide) (by decide) rfl (h _ _ (by decide) (strOk_of _)) hs
end
abbrev RowsOk (rws : List Row) : Prop :=
  (∀ r ∈ rws, r.kind ≠ endS) ∧
  (∀ r ∈ rws, r.text.length ≤ 100) ∧
  (∀ r ∈ rws, r.kind.length ≤ 100) ∧
  (∀ r ∈ rws, PyData.strOk r.text = true)
theorem RowsOk.ne {rws : List Row} (h : RowsOk rws) : ∀ r ∈ rws, r.kind ≠ endS := h.1
theorem RowsOk.text {rws : List Row} (h : RowsOk rws) : ∀ r ∈ rws, r.text.length ≤ 100 := h.2.1
theorem RowsOk.kind {rws : List Row} (h : RowsOk rws) : ∀ r ∈ rws, r.kind.length ≤ 100 := h.2.2.1
theorem RowsOk.ok {rws : List Row} (h : RowsOk rws) : ∀ r ∈ rws, PyData.strOk r.text = true := h.2.2.2
def Apart (a b : List (Addr × Obj)) : Prop := ∀ p ∈ a, ∀ q ∈ b, q.1 ≠ p.1
theorem Apart.nil {b : List (Addr × Obj)} : Apart [] b := fun _ h => nomatch h
theorem Apart.cons {D : Addr} {o : Obj} {a b : List (Addr × Obj)} (h : ∀ q ∈ b, q.1 ≠ D) (x : Apart a b) : Apart ((D, o) :: a) b := fun p hp => by
  rcases List.mem_cons.mp hp with rfl | hp
  · exact h
  · exact x p hp
theorem lt_right {D : Addr} {a b : List (Addr × Obj)} (h : AllLt D (a ++ b)) : ∀ q ∈ b, q.1 ≠ D := fun q hq => allLt_ne h q (List.mem_append.mpr (.inr hq))
def RowJ (t l fL : Addr) (n : Nat) (k : Int) (rest : List (Addr × Obj)) (i : Nat) (m : Str → Option Value) (led : List (Addr × Obj)) : Prop :=
  ∃ k' tkk vs rws st nf col tkc, led = (t, tapeObj l k' tkk n) :: (fL, listOf (List.toArray vs) nf) :: (st ++ rest) ∧
    Names m [("tape", .ref t), ("found", .ref fL), ("column", .int col tkc)] ∧ RowsAt st vs rws ∧ vs.length = i ∧ RowsOk rws ∧ (∀ r ∈ rws, 0 ≤ r.col ∧ r.col ≤ 41) ∧
    (∀ p ∈ st, p.1 ≠ t) ∧ (∀ p ∈ st, p.1 ≠ fL) ∧ Apart st rest ∧ k + 1 ≤ k' ∧ k' ≤ k + 1 + 3 * i ∧ 1 ≤ col ∧ col ≤ 1 + 4 * i
/-- what _law_rows gives -/
def RowsGot (st : List (Addr × Obj)) (vs : List Value) (rws : List Row) : Prop :=
  (RowsAt st vs rws) ∧
  (∃ rs e, rws = rs ++ [e] ∧ RowsOk rs ∧ e.kind = endS ∧ e.text = Str.ofString "" ∧ rs.length ≤ 9) ∧
  (∀ r ∈ rws, 0 ≤ r.col ∧ r.col ≤ 100)
theorem RowsGot.at_ {st : List (Addr × Obj)} {vs : List Value} {rws : List Row} (h : RowsGot st vs rws) : RowsAt st vs rws := h.1
theorem RowsGot.split {st : List (Addr × Obj)} {vs : List Value} {rws : List Row} (h : RowsGot st vs rws) : ∃ rs e, rws = rs ++ [e] ∧ RowsOk rs ∧ e.kind = endS ∧ e.text = Str.ofString "" ∧ rs.length ≤ 9 := h.2.1
theorem RowsGot.col {st : List (Addr × Obj)} {vs : List Value} {rws : List Row} (h : RowsGot st vs rws) : ∀ r ∈ rws, 0 ≤ r.col ∧ r.col ≤ 100 := h.2.2
theorem RowsOk.snoc {rws : List Row} {r : Row} (h : RowsOk rws) (h1 : r.kind ≠ endS) (h2 : r.text.length ≤ 100) (h3 : r.kind.length ≤ 100) (h4 : PyData.strOk r.text = true) : RowsOk (rws ++ [r]) := by
  refine ⟨fun q hq => ?_, fun q hq => ?_, fun q hq => ?_, fun q hq => ?_⟩ <;> rcases List.mem_append.mp hq with hq | hq
  · exact h.ne q hq
  · rw [List.mem_singleton.mp hq]; exact h1
  · exact h.text q hq
  · rw [List.mem_singleton.mp hq]; exact h2
  · exact h.kind q hq
  · rw [List.mem_singleton.mp hq]; exact h3
  · exact h.ok q hq
  · rw [List.mem_singleton.mp hq]; exact h4
theorem rows_turn {h₀ : Heap} {L t l fL I D : Addr} {oI : Obj} {n i nf : Nat} {k k' k'' col c : Int} {rest st : List (Addr × Obj)} {s₁ : Shared} {h' : Heap} {tk' tkk t1 t2 t3 tkc : Tok} {m' : Str → Option Value} {vs : List Value} {rws : List Row} {kd x : Str}
    (F : Fr h₀ L h' m') (N : News h₀ L h' ((D, rowObj ⟨kd, x, c⟩ t1 t2 t3) :: (t, tapeObj l k'' tkk n) :: (I, oI) :: (fL, listOf (vs ++ [Value.ref D]).toArray (nf + 1)) :: (st ++ rest)))
    (hn : Names m' [("tape", .ref t), ("found", .ref fL), ("column", .int c tkc)]) (hrows : RowsAt st vs rws) (hlen : vs.length = i) (hok : RowsOk rws) (hcol : ∀ r ∈ rws, 0 ≤ r.col ∧ r.col ≤ 41)
    (hst1 : ∀ p ∈ st, p.1 ≠ t) (hst2 : ∀ p ∈ st, p.1 ≠ fL) (hst3 : Apart st rest) (l1 : t < D ∧ I < D ∧ fL < D ∧ AllLt D (st ++ rest)) (hI1 : t ≠ I) (hI2 : fL ≠ I) (hI3 : ∀ p ∈ st, p.1 ≠ I) (hI4 : ∀ p ∈ rest, p.1 ≠ I)
    (hk0 : k + 1 ≤ k') (hk1 : k' ≤ k + 1 + 3 * i) (hk2 : k' ≤ k'') (hk3 : k'' ≤ k' + 3) (hc0 : 1 ≤ col) (hc1 : col ≤ 1 + 4 * i) (hc2 : col ≤ c) (hc3 : c ≤ col + 4) (hi : i < 10) (h1 : kd ≠ endS) (h2 : x.length ≤ 100) (h3 : kd.length ≤ 100) (h4 : PyData.strOk x = true) :
    TurnEnd h₀ L I oI (RowJ t l fL n k rest (i + 1)) s₁ { s₁ with heap := h', toks := tk' } := by
  obtain ⟨d1, d2, d3, d4⟩ := l1
  have e1 : D ≠ t := (Nat.ne_of_lt d1).symm
  have e2 : D ≠ I := (Nat.ne_of_lt d2).symm
  have e3 : D ≠ fL := (Nat.ne_of_lt d3).symm
  refine TurnEnd.intro (news' := (t, tapeObj l k'' tkk n) :: (fL, listOf (vs ++ [Value.ref D]).toArray (nf + 1)) :: ((D, rowObj ⟨kd, x, c⟩ t1 t2 t3) :: st ++ rest)) F (cb_drop N ?_) ?_ ?_
  · k_extra "my_sub"
  · refine List.forall_mem_cons.mpr ⟨hI1, List.forall_mem_cons.mpr ⟨hI2, List.forall_mem_cons.mpr ⟨e2, forall_app hI3 hI4⟩⟩⟩
  · refine ⟨k'', tkk, vs ++ [.ref D], rws ++ [⟨kd, x, c⟩], (D, _) :: st, nf + 1, c, tkc, rfl, hn, (hrows.mono fun p hp => .tail _ hp).snoc ⟨D, t1, t2, t3, rfl, .head _⟩, by rw [List.length_append, hlen]; rfl, hok.snoc h1 h2 h3 h4, ?_, List.forall_mem_cons.mpr ⟨e1, hst1⟩, List.forall_mem_cons.mpr ⟨e3, hst2⟩, hst3.cons (lt_right d4), ?_, ?_, ?_, ?_⟩
    · intro r hr
      rcases List.mem_append.mp hr with hr | hr
      · exact hcol r hr
      · rw [List.mem_singleton.mp hr]
        exact ⟨Int.le_trans (by decide) (Int.le_trans hc0 hc2), by show c ≤ 41; omega⟩
    · exact Int.le_trans hk0 hk2
    · exact mul_up (k := k') (Int.le_trans hk3 (Int.le_refl _)) hk1
    · exact Int.le_trans hc0 hc2
    · exact mul_up hc3 hc1
theorem last4 {a b c d : Prop} {D : Addr} {x : List (Addr × Obj)} (h : a ∧ b ∧ c ∧ d ∧ AllLt D x) : AllLt D x := h.2.2.2.2
theorem rows_got {D : Addr} {i : Nat} {c : Int} {t1 t2 t3 : Tok} {st : List (Addr × Obj)} {vs : List Value} {rws : List Row} (hrows : RowsAt st vs rws) (hlen : vs.length = i) (hi : i ≤ 9) (hok : RowsOk rws) (hcol : ∀ r ∈ rws, 0 ≤ r.col ∧ r.col ≤ 41) (hc0 : 0 ≤ c) (hc1 : c ≤ 100) :
    RowsGot ((D, rowObj ⟨endS, Str.ofString "", c⟩ t1 t2 t3) :: st) (vs ++ [Value.ref D]) (rws ++ [⟨endS, Str.ofString "", c⟩]) := by
  refine ⟨(hrows.mono fun p hp => .tail _ hp).snoc ⟨D, t1, t2, t3, rfl, .head _⟩, ⟨rws, _, rfl, hok, rfl, rfl, ?_⟩, fun r hr => ?_⟩
  · rw [← hrows.len, hlen]; exact hi
  · rcases List.mem_append.mp hr with hr | hr
    · exact ⟨(hcol r hr).1, Int.le_trans (hcol r hr).2 (by decide)⟩
    · rw [List.mem_singleton.mp hr]; exact ⟨hc0, hc1⟩
theorem rows_c {prog : Program} {w : World} {p : Program} {loose : List Str} {mean : ExcName → Option Value} {mg mb : Str → Option Value}
  {dp un : Nat} {gd : Option (List Code)} {cn : Str} {cs : Scope} {a : Addr} {ccd : Value} {cl : List (Str × Addr)} {outer : List Env} {A₀ : Around} {base h₀ : Heap} {L : Addr} {m : Str → Option Value} {s : Shared} {Q E : Value → Shared → Prop}
  {l t : Addr} {k : Int} {tk : Tok} {n : Nat} {news rest : List (Addr × Obj)}
  (B : Below A₀ base outer h₀) (F : Fr h₀ L s.heap m) (X : (Mine.hd.heap_39 w.params).In h₀) (N₀ : News h₀ L s.heap news) (T : Top p loose mean mg mb h₀) (hk : cs.kind = .function)
  (P : Pick (t, tapeObj l k tk n) news rest) (hT : TapeIn rest l) (hoff : ∀ p ∈ rest, p.1 ≠ t) (hk0 : 0 ≤ k) (hk1 : k < 10)
  (hd : dp + 2 < recursionLimit) (hu : un + 16 < cLine)
  (ret : ∀ D nD vs rws st k' tkk h' tk', RowsGot st vs rws → (∀ p ∈ st ++ rest, p.1 ≠ t) → (∀ p ∈ st ++ rest, p.1 ≠ D) → Apart st rest → t ≠ D → k ≤ k' → k' ≤ k + 30 →
    Fr h₀ L h' m → News h₀ L h' ((t, tapeObj l k' tkk n) :: (D, listOf (List.toArray vs) nD) :: (st ++ rest)) → Q (.ref D) {s with heap := h', toks := tk'}) :
  wpAny (model prog w) (ktrTop dp un gd cn cs L a ccd cl outer) (call (.ref 245) [.ref t]) Q E s := by
  have N := P.news N₀
  have inrows : InRows := rfl
  refine wpAny_call ?_
  k_extra "my_enter"
  k_steps
  refine Hold.out ?_
  refine iter_range (RowJ t l fL n k rest) rfl (by assumption) (small_one (by decide) (by decide) (by k_extra "my_num") (by k_extra "my_num")) (rangeSize_nat _ _) (by k_asm) (by k_asm) (by exact rfl) ?start ?turn ?done
  case start =>
    exact ⟨k + 1, _, [], [], [], 0, 1, _, rfl, by k_extra "my_names", .nil, rfl, ⟨List.forall_mem_nil _, List.forall_mem_nil _, List.forall_mem_nil _, List.forall_mem_nil _⟩, List.forall_mem_nil _, List.forall_mem_nil _, List.forall_mem_nil _, .nil, Int.le_refl _, kz3, Int.le_refl _, by decide⟩
  case turn =>
    intro i m₁ news₁ h tk t' I oI hi hnI hJ F' N'
    refine cps fun GG kk => ?_
    obtain ⟨k', tkk, vs, rws, st, nf, col, tkc, rfl, hm, hrows, hlen, hok, hcol, hst1, hst2, hst3, hk'0, hk'1, hc0, hc1⟩ := hJ
    refine kk ?_
    have F' := fr_names hm.all F'
    have hI1 := hnI _ (.head _)
    have hI2 := hnI _ (.tail _ (.head _))
    have hI3 : ∀ p ∈ st, p.1 ≠ I := fun p hp => hnI p (.tail _ (.tail _ (List.mem_append.mpr (.inl hp))))
    have hI4 : ∀ p ∈ rest, p.1 ≠ I := fun p hp => hnI p (.tail _ (.tail _ (List.mem_append.mpr (.inr hp))))
    dsimp only at hI1 hI2
    have hoffL : ∀ p ∈ rest, p.1 ≠ fL := allLt_ne hltL.2
    have htL : t ≠ fL := Nat.ne_of_lt hltL.1
    have hi10 : i < 10 := tn_lt hi (by assumption)
    have hvl : vs.length ≤ 4096 := Nat.le_trans (Nat.le_of_eq hlen) (Nat.le_trans (Nat.le_of_lt hi10) (by decide))
    have hkb0 : 0 ≤ k' := Int.le_trans (zp1 hk0) hk'0
    have hkb : k' < 900 := by omega
    k_steps
    · exact rows_turn (by k_asm) (by k_asm) (by k_extra "my_names") hrows hlen hok hcol hst1 hst2 hst3 (by assumption) hI1 hI2 hI3 hI4 hk'0 hk'1 (by k_extra "my_num") (by k_extra "my_num") hc0 hc1 (by k_extra "my_num") (by k_extra "my_num") (by k_extra "my_num") (by decide) (Nat.le_trans (by assumption) (by decide)) (by decide) (by assumption)
    · exact rows_turn (by k_asm) (by k_asm) (by k_extra "my_names") hrows hlen hok hcol hst1 hst2 hst3 (by assumption) hI1 hI2 hI3 hI4 hk'0 hk'1 (by k_extra "my_num") (by k_extra "my_num") hc0 hc1 (by k_extra "my_num") (by k_extra "my_num") (by k_extra "my_num") (by decide) (Nat.le_trans (by assumption) (by decide)) (by decide) (by assumption)
    · exact rows_turn (by k_asm) (by k_asm) (by k_extra "my_names") hrows hlen hok hcol hst1 hst2 hst3 (by assumption) hI1 hI2 hI3 hI4 hk'0 hk'1 (by k_extra "my_num") (by k_extra "my_num") hc0 hc1 (by k_extra "my_num") (by k_extra "my_num") (by k_extra "my_num") (by decide) (toString_length_le (by assumption) (by decide) (by k_extra "my_num")) (by decide) (strOk_of _)
  case done =>
    intro m₁ news₁ h tk hJ F' N'
    refine cps fun GG kk => ?_
    obtain ⟨k', tkk, vs, rws, st, nf, col, tkc, rfl, hm, hrows, hlen, hok, hcol, hst1, hst2, hst3, hk'0, hk'1, hc0, hc1⟩ := hJ
    refine kk ?_
    have F' := fr_names0 hm.all F'
    have hoffL : ∀ p ∈ rest, p.1 ≠ fL := allLt_ne hltL.2
    have htL : t ≠ fL := Nat.ne_of_lt hltL.1
    have hv9 : vs.length ≤ 9 := Nat.le_trans (Nat.le_of_eq hlen) (tn_le (by assumption))
    have hvl : vs.length ≤ 10 := Nat.le_succ_of_le hv9
    have hcol100 : col + 5 ≤ 100 := by omega
    have hcol0 : 0 ≤ col + 5 := Int.add_nonneg (Int.le_trans (by decide) hc0) (by decide)
    k_steps
    refine' ret _ _ _ _ _ _ _ _ _ (rows_got (c := col + 5) hrows rfl hv9 hok hcol hcol0 hcol100) ?o1 ?o2 ?oA ?o3 ?o4 ?o5 ?F (cb_drop ?N ?S)
    case F => k_asm
    case N => k_asm
    case S => k_extra "my_sub"
    case o1 => exact List.forall_mem_cons.mpr ⟨by k_ne, forall_app hst1 hoff⟩
    case o2 => exact List.forall_mem_cons.mpr ⟨by k_ne, allLt_ne (l := st ++ rest) (last4 (by assumption))⟩
    case oA => exact hst3.cons (lt_right (a := st) (by first | exact And.right (And.right (by assumption)) | exact And.right (by assumption) | exact And.right (And.right (And.right (by assumption))) | exact last4 (by assumption) | fail))
    case o3 => k_ne
    case o4 => exact Int.le_trans (Int.le_of_lt (Int.lt_succ k)) hk'0
    case o5 => omega
abbrev errTail : List Value := [.ref 74, .type "Exception", .type "BaseException", .type "object"]
abbrev errNew (t : Addr) : Obj := { cls := .ref 87, data := .fields #[.ref t, .none, .none, .none, .bool false, .none] }
abbrev errObj (t D : Addr) : Obj := { cls := .ref 87, dict := some D, data := .fields #[.ref t, .none, .none, .none, .bool false, .none] }
section
variable {M : Model} {A : Around} {E : Value → Shared → Prop} {h : Heap} {g : Array GenState} {d : Drawn} {t : Nat} {os : OsState}
variable {nm q : Str} {N : Addr} {bs : List Value} {hdct : Bool} {sn : List Str} {sub : List Value} {ab : Bool} {col : Option Bool} {dd : Option Addr} {k0 k1 k2 k3 k5 : Option Value}
theorem err_check_new {rest : List Value} {Q : Unit → Shared → Prop} (hC : h.get? 87 = some (excClassObj nm q 87 N bs errTail hdct sn sub ab col dd k0 k1 k2 k3 k5 "Exception.__new__"))
    (hq : Q () ⟨h, g, d, t, os⟩) : wpAny M A (checkBuiltinCall "Exception.__new__" ⟨.ref 87 :: rest, []⟩) Q E ⟨h, g, d, t, os⟩ := by
  have F := PySem.F.excBase_Exception
  have c1 : (Value.ref 87 :: errTail).contains (.type "Exception") = true := rfl
  have c2 := F.noStar
  simp only [checkBuiltinCall, F.newKind, F.newSplit, F.newRow]
  repeat (first | refine wpAny_loadPart_at hC ?_ | (refine wpAny_isSubtype_exc hC ?_; rw [c1]) | refine wpAny_staticBase_exc hC ?_ | refine wpAny_madeBy_exc hC ?_ | simp only [bne_self_eq_false, Bool.false_eq_true, if_false] | wp_step)
  exact hq
theorem err_check_init {e : Addr} {oe : Obj} {rest : List Value} {Q : Unit → Shared → Prop} (hC : h.get? 87 = some (excClassObj nm q 87 N bs errTail hdct sn sub ab col dd k0 k1 k2 k3 k5 "Exception.__new__"))
    (he : h.get? e = some oe) (hcls : oe.cls = .ref 87) (hq : Q () ⟨h, g, d, t, os⟩) : wpAny M A (checkBuiltinCall "Exception.__init__" ⟨.ref e :: rest, []⟩) Q E ⟨h, g, d, t, os⟩ := by
  have F := PySem.F.excBase_Exception
  have c1 : (Value.ref 87 :: errTail).contains (.type "Exception") = true := rfl
  have c2 := F.noStar
  simp only [checkBuiltinCall, F.initKind, F.initSplit, F.initRow]
  repeat (first | (with_reducible refine wpAny_loadPart_at he ?_; rw [hcls]) | with_reducible refine wpAny_loadPart_at hC ?_ | (with_reducible refine wpAny_isSubtype_exc hC ?_; rw [c1]) | wp_step)
  refine wpAny_onRaise ?_
  first
    | (rw [show ∀ (a b : String) (n : Nat), Bind.check ⟨.positional, "*", "Exception", .self, [⟨"args", .varPos, false⟩]⟩ a b n (List.map (fun x => x.fst) ({ pos := Value.ref e :: rest } : Args).kw) = pure () from fun a b n => check_star_args _ _ _ _ _ _]; exact wpAny_pure hq)
end
section
variable {prog : Program} {w : World} {A : Around} {R : Result → Shared → Prop} {h : Heap} {g : Array GenState} {d : Drawn} {t : Nat} {os : OsState}
variable {nm q : Str} {N : Addr} {bs : List Value} {hdct : Bool} {sn : List Str} {sub : List Value} {ab : Bool} {col : Option Bool} {dd : Option Addr} {k0 k1 k2 k3 k5 : Option Value}
theorem err_new {rest : List Value} (hC : h.get? 87 = some (excClassObj nm q 87 N bs errTail hdct sn sub ab col dd k0 k1 k2 k3 k5 "Exception.__new__"))
    (hq : R (.ok (.ret (.ref (h.objs.size + 1)))) ⟨(h.push { cls := .type "tuple", data := .seq rest.toArray }).push (errNew h.objs.size), g, d, t, os⟩) (hrest : rest.length ≤ sizeLine) :
    codeAny (model prog w) A (.builtin "Exception.__new__" ⟨.ref 87 :: rest, []⟩) R ⟨h, g, d, t, os⟩ := by
  have F := PySem.F.excBase_Exception
  have c0 := F.ends
  have c1 : (Value.ref 87 :: errTail).contains (.type "Exception") = true := rfl
  have c2 : (Value.ref 87 :: errTail).contains (.type "AttributeError") = false := rfl
  have c3 : (Value.ref 87 :: errTail).contains (.type "NameError") = false := rfl
  refine codeAny_builtinAt F.entry ?_
  unfold Builtin.«BaseException.__new__»
  refine PySem.wpAt_bind ?_
  show PySem.wpAt _ _ _ (stack >>= _) _ _ _
  refine PySem.wpAt_bind (PySem.wpAt_stack fun p below => PySem.wpAt_of_wpAny ?_)
  wp_walk
  refine PySem.wpAt_of_wpAny ?_
  rw [F.owner]
  repeat (first | with_reducible refine wpAny_madeHere_exc F.canon hC ?_ | with_reducible refine wpAny_loadPart_at hC ?_ | (with_reducible refine wpAny_isSubtype_exc hC ?_; first | rw [c1] | rw [c2] | rw [c3]) | wp_step)
  show R _ _
  rw [Heap.size_push]
  exact hq
end

theorem errCls {P : Params} {h : Heap} (X : (Mine.hd.heap_39 P).In h) : ∃ hdct sn sub ab col k0 k1 k2 k3 k5, h.get? 87 = some (excClassObj "ReadError" "ReadError" 87 86 [.ref 74] errTail hdct sn sub ab col none k0 k1 k2 k3 k5 "Exception.__new__") :=
  ⟨_, _, _, _, _, _, _, _, _, _, X 87 _ (by rfl)⟩
section
variable {prog : Program} {w : World} {A : Around} {E : Value → Shared → Prop} {s : Shared} {h₀ : Heap} {L : Addr} {m : Str → Option Value}
theorem err_init {e t0 : Addr} {x : Value} {news : List (Addr × Obj)} {Q : Value → Shared → Prop} (F : Fr h₀ L s.heap m) (X₀ : (Mine.hd.heap_39 w.params).In h₀) (N : News h₀ L s.heap ((e, errNew t0) :: news)) (hoff : ∀ p ∈ news, p.1 ≠ e)
    (h : ∀ t1 h', Fr h₀ L h' m → News h₀ L h' ((t1, { cls := .type "tuple", data := .seq #[x] }) :: (e, errNew t1) :: news) → (∀ p ∈ (e, errNew t0) :: news, p.1 < t1) → Q .none { s with heap := h' }) :
    wpAny (model prog w) A (call (.builtin "Exception.__init__") [.ref e, x]) Q E s := by
  have FB := PySem.F.excBase_Exception
  refine cps fun GG kk => ?_
  obtain ⟨hdct, sn, sub, ab, col, k0, k1, k2, k3, k5, hC⟩ := errCls (X₀.keeps F.keep)
  refine kk ?_
  have he := (N _ (.head _)).1
  have lt1 : ∀ p ∈ (e, errNew t0) :: news, p.1 < s.heap.objs.size := fun p hp => Heap.lt_size (N p hp).1
  obtain ⟨F2, N2⟩ := news_upd (pre := [(s.heap.objs.size, { cls := .type "tuple", data := .seq #[x] })]) (f := Obj.mapFields (·.setIfInBounds 0 (Value.ref s.heap.objs.size))) (o' := errNew s.heap.objs.size)
    (F.push { cls := .type "tuple", data := .seq #[x] }) (N.push F { cls := .type "tuple", data := .seq #[x] }) (List.forall_mem_cons.mpr ⟨(Nat.ne_of_lt (lt1 _ (.head _))).symm, List.forall_mem_nil _⟩) hoff rfl rfl
  have fin := h _ _ F2 N2 lt1
  obtain ⟨hh, g, d, t, os⟩ := s
  refine wpAny_call (codeAny_call_builtin FB.init.plain FB.initEntry (err_check_init hC he rfl ?_))
  wp_walk
  exact fin
theorem meta_Exception : typeOf (.type "Exception") = pure (.type "type") := by kernel_rfl
end
section
open PySem.Builtin PySem.Builtin.ObjectAttr
theorem err_cls {P : Params} : ∃ cd, clsIn (Mine.hd.heap_39 P) 87 = some cd ∧ cd.mro = .ref 87 :: errTail ∧ cd.hasDict = true := ⟨_, by rfl, rfl, rfl⟩
theorem err_mro {P : Params} {T : String} (h : (Value.ref 87 :: errTail).contains (.type T) = true) : mroIn (Mine.hd.heap_39 P) 87 (.type T) = some true := by
  obtain ⟨cd, hc, hm, _⟩ := err_cls (P := P)
  unfold mroIn
  rw [hc, Option.bind_some, hm, h]
  rfl
theorem err_passes (self : Value) : refuseLoop self "__setattr__" (.ref 87 :: errTail) = pure () := by
  rw [refuseLoop_ref, refuseLoop_ref]
  exact PySem.F.store_Exception.passes self
section
variable {prog : Program} {w : World} {A : Around} {R : Result → Shared → Prop} {E : Value → Shared → Prop} {s : Shared} {h₀ : Heap} {L : Addr} {m : Str → Option Value} {name : Str} {tk : Tok} {v : Value}
theorem err_osa {x : Addr} {ox : Obj} {od : Option Obj} (X : (Mine.hd.heap_39 w.params).In s.heap) (I : InstAt s.heap x ox 87 od) (ht : findIn (Mine.hd.heap_39 w.params) (.ref 87) name = some none)
    (h : wpAny (model prog w) A.in1 (storeInOwnDict (.ref x) (.ref 87) (.str name tk) name v false)
      (fun fin s' => match fin with | .done f => R (.ok f) s' | .again c' => c'.quiet = true ∧ codeAny (model prog w) A c' R s') (fun e s' => R (.error e) s') s) :
    codeAny (model prog w) A (.call (.builtin "object.__setattr__") ⟨[.ref x, .str name tk, v], []⟩) R s := by
  have SF := PySem.F.store_object
  obtain ⟨cd, hc, hcm, _⟩ := err_cls (P := w.params)
  have sub : Looks (model prog w) s.heap (isInstance (.ref x) (.type "object")) true := I.type.andThen (looks_mroIn X (err_mro rfl))
  refine codeAny_call_builtin SF.slot.plain SF.entry (@check_slot (model prog w) _ _ s "object.__setattr__" "object" "__setattr__" (.ref x) [.str name tk, v] [] _ SF.kind SF.split sub (SF.args (.ref x) (.str name tk) v) ?_)
  have hm : Looks (model prog w) s.heap (mroOf (.ref 87)) cd.mro := (looks_clsIn X hc).andThen .now
  have L3 : Looks (model prog w) s.heap (storeTaker? none) none := .now
  rw [osa_eq, refuse_eq]
  refine wpAny_bind (wpAny_bind (I.type.here (wpAny_bind (hm.here ?_))))
  rw [hcm, err_passes]
  exact wpAny_pure (wpAny_bind (I.type.here (wpAny_bind ((looks_findIn X ht).here (wpAny_bind (L3.here h))))))

theorem err_put {D : Addr} {es es' : List DictEntry} {n n' : Nat} {rest : List (Addr × Obj)} {Q : Fin → Shared → Prop} (F : Fr h₀ L s.heap m) (N : News h₀ L s.heap ((D, dictOf es n) :: rest)) (hoff : ∀ p ∈ rest, p.1 ≠ D)
    (hc : (!es.any (·.key.isStr name) && es.any (·.refKey)) = false) (e : (putL name (PyData.keyHash w.params name) (.str name s.toks) v es, putN name es n) = (es', n')) (hz : es'.length ≤ 1000)
    (h : ∀ h', Fr h₀ L h' m → News h₀ L h' ((D, dictOf es' n') :: rest) → Q (.done (.ret .none)) { s with heap := h', toks := s.toks + 1 }) :
    wpAny (model prog w) A (storeInDict D (.str name tk) name v) Q E s := by
  obtain ⟨e1, e2⟩ := Prod.mk.inj e
  obtain ⟨U1, U2⟩ := news_upd (pre := []) (f := Obj.putName name (PyData.keyHash w.params name) (.str name s.toks) v) (o' := dictOf es' n') F N (List.forall_mem_nil _) hoff (by rw [putName_dict, e1, e2]) rfl
  have hD := (N _ (.head _)).1
  have hD' := (U2 _ (.head _)).1
  unfold storeInDict newKeyGuard
  refine wpAny_bind (wpAny_pure (wpAny_bind ?_))
  unfold nsSet
  refine wpAny_bind (wpAny_bind (wpAny_askSetting (wpAny_pure (wpAny_bind (wpAny_mkText (wpAny_bind (wpAny_loadPart hD ?_)))))))
  have hc' : (!es.toArray.any (·.key.isStr name) && es.toArray.any (·.refKey)) = false := by
    rw [← Array.any_toList, ← Array.any_toList]
    exact hc
  dsimp only
  rw [aRefKeyMayBeTheName_at, hc']
  refine wpAny_updatePart hD ?_
  exact wpAny_bind (wpAny_lookBehind hD' (pastItsLine_dict (by rw [List.size_toArray, sizeLine_eq]; omega)) (wpAny_pure (h _ U1 U2)))

theorem err_set0 {x t1 : Addr} {news rest : List (Addr × Obj)} {Q : Unit → Shared → Prop} (F : Fr h₀ L s.heap m) (X₀ : (Mine.hd.heap_39 w.params).In h₀) (N₀ : News h₀ L s.heap news) (P : Pick (x, errNew t1) news rest) (hoff : ∀ p ∈ rest, p.1 ≠ x)
    (hs : findIn (Mine.hd.heap_39 w.params) (.ref 87) "__setattr__" = some (some (.builtin "object.__setattr__"))) (ht : findIn (Mine.hd.heap_39 w.params) (.ref 87) name = some none)
    (h : ∀ D h' tk', Fr h₀ L h' m → News h₀ L h' ((D, dictOf [⟨PyData.keyHash w.params name, .str name (s.toks + 1), v⟩] 1) :: (x, errObj t1 D) :: rest) → (∀ p ∈ (x, errNew t1) :: rest, p.1 < D) → Q () { s with heap := h', toks := tk' }) :
    wpAny (model prog w) A (setAttr (.ref x) name v) Q E s := by
  have N := P.news N₀
  have X := X₀.keeps F.keep
  have hx := (N _ (.head _)).1
  have I : InstAt s.heap x (errNew t1) 87 none := ⟨hx, rfl, rfl, trivial⟩
  have lt1 : ∀ p ∈ (x, errNew t1) :: rest, p.1 < s.heap.objs.size := fun p hp => Heap.lt_size (N p hp).1
  obtain ⟨F2, N2⟩ := news_upd (pre := [(s.heap.objs.size, dictOf [] 0)]) (f := fun o => { o with dict := some s.heap.objs.size }) (o' := errObj t1 s.heap.objs.size)
    (F.push (dictOf [] 0)) (N.push F (dictOf [] 0)) (List.forall_mem_cons.mpr ⟨(Nat.ne_of_lt (lt1 _ (.head _))).symm, List.forall_mem_nil _⟩) hoff rfl rfl
  have ho2 : ∀ p ∈ (x, errObj t1 s.heap.objs.size) :: rest, p.1 ≠ s.heap.objs.size := List.forall_mem_cons.mpr ⟨Nat.ne_of_lt (lt1 (x, errNew t1) (.head _)), fun p hp => Nat.ne_of_lt (lt1 p (.tail _ hp))⟩
  obtain ⟨cd, hc, hcm, hcd⟩ := err_cls (P := w.params)
  obtain ⟨hh, g, d, t, os⟩ := s
  refine set_plain X I hs (err_osa X I ht ?_)
  refine wpAny_bind (wpAny_pure (wpAny_bind (wpAny_bind (wpAny_loadPart hx (wpAny_bind (Looks.here (s := ⟨hh, g, d, t + 1, os⟩) (looks_clsIn X hc) ?_))))))
  rw [hcd]
  refine wpAny_bind (wpAny_alloc (wpAny_bind (wpAny_update (Heap.get?_push_of_some _ hx) (wpAny_pure ?_))))
  exact err_put (tk := t) (s := ⟨(hh.push (dictOf [] 0)).update x (fun o => { o with dict := some hh.objs.size }), g, d, t + 1, os⟩) (es' := [⟨PyData.keyHash w.params name, .str name (t + 1), v⟩]) (n' := 1) F2 N2 ho2 rfl rfl (Nat.le_of_ble_eq_true rfl) fun h' F' N' => h _ h' _ F' N' lt1
theorem err_set1 {x t1 D : Addr} {es es' : List DictEntry} {n n' : Nat} {news rest : List (Addr × Obj)} {Q : Unit → Shared → Prop} (F : Fr h₀ L s.heap m) (X₀ : (Mine.hd.heap_39 w.params).In h₀) (N₀ : News h₀ L s.heap news) (P : Pick (D, dictOf es n) news rest) (hx₀ : (x, errObj t1 D) ∈ rest) (hoff : ∀ p ∈ rest, p.1 ≠ D)
    (hs : findIn (Mine.hd.heap_39 w.params) (.ref 87) "__setattr__" = some (some (.builtin "object.__setattr__"))) (ht : findIn (Mine.hd.heap_39 w.params) (.ref 87) name = some none)
    (hcc : (!es.any (·.key.isStr name) && es.any (·.refKey)) = false) (e : (putL name (PyData.keyHash w.params name) (.str name (s.toks + 1)) v es, putN name es n) = (es', n')) (hz : es'.length ≤ 1000)
    (h : ∀ h' tk', Fr h₀ L h' m → News h₀ L h' ((D, dictOf es' n') :: rest) → Q () { s with heap := h', toks := tk' }) :
    wpAny (model prog w) A (setAttr (.ref x) name v) Q E s := by
  have N := P.news N₀
  have X := X₀.keeps F.keep
  have hx := (N _ (.tail _ hx₀)).1
  have I : InstAt s.heap x (errObj t1 D) 87 (some (dictOf es n)) := ⟨hx, rfl, rfl, (N _ (.head _)).1⟩
  obtain ⟨cd, hc, hcm, hcd⟩ := err_cls (P := w.params)
  obtain ⟨hh, g, d, t, os⟩ := s
  refine set_plain X I hs (err_osa X I ht ?_)
  refine wpAny_bind (wpAny_pure (wpAny_bind (wpAny_bind (wpAny_loadPart hx (wpAny_bind (Looks.here (s := ⟨hh, g, d, t + 1, os⟩) (looks_clsIn X hc) ?_))))))
  rw [hcd]
  refine wpAny_pure (wpAny_bind (wpAny_pure ?_))
  exact err_put (tk := t) (s := ⟨hh, g, d, t + 1, os⟩) F N hoff hcc e hz fun h' F' N' => h h' _ F' N'
end
end
abbrev errDict (P : Params) (ta tb : Tok) (what : Value) (place : Addr) : Obj := dictOf [⟨PyData.keyHash P "what", .str "what" ta, what⟩, ⟨PyData.keyHash P "at", .str "at" tb, .ref place⟩] 2
theorem init_c {prog : Program} {w : World} {p : Program} {loose : List Str} {mean : ExcName → Option Value} {mg mb : Str → Option Value}
  {dp un : Nat} {gd : Option (List Code)} {cn : Str} {cs : Scope} {a : Addr} {ccd : Value} {cl : List (Str × Addr)} {outer : List Env} {A₀ : Around} {base h₀ : Heap} {L : Addr} {m : Str → Option Value} {s : Shared} {R : Result → Shared → Prop}
  {e t0 place : Addr} {what : Str} {u : Tok} {news : List (Addr × Obj)}
  (B : Below A₀ base outer h₀) (F : Fr h₀ L s.heap m) (X : (Mine.hd.heap_39 w.params).In h₀) (N₀ : News h₀ L s.heap ((e, errNew t0) :: news)) (T : Top p loose mean mg mb h₀) (hk : cs.kind = .function)
  (hoff : ∀ p ∈ news, p.1 ≠ e)
  (hd : dp + 4 < recursionLimit) (_ : un + 32 < cLine)
  (ret : ∀ t1 D ta tb h' tk', Fr h₀ L h' m → News h₀ L h' ((D, errDict w.params ta tb (.str what u) place) :: (e, errObj t1 D) :: (t1, { cls := .type "tuple", data := .seq #[.str what u] }) :: news) → e < t1 → t1 < D → AllLt D news → R (.ok (.ret .none)) {s with heap := h', toks := tk'}) :
  codeAny (model prog w) ((ktrTop dp un gd cn cs L a ccd cl outer).under (.builtin "type.__call__" ⟨[.ref 87, .str what u, .ref place], []⟩)) (.call (.ref 64) ⟨[.ref e, .str what u, .ref place], []⟩) R s := by
  k_extra "my_enter"
  k_steps
  refine' ret _ _ _ _ _ _ ?F ?N ?l1 ?l2 ?l3
  case F => k_asm
  case N => assumption
  case l1 => (refine ltN ?_); omega
  case l2 => (refine ltN ?_); omega
  case l3 => exact And.right (And.right (by assumption))
theorem make_c {prog : Program} {w : World} {p : Program} {loose : List Str} {mean : ExcName → Option Value} {mg mb : Str → Option Value}
  {dp un : Nat} {gd : Option (List Code)} {cn : Str} {cs : Scope} {a : Addr} {ccd : Value} {cl : List (Str × Addr)} {outer : List Env} {A₀ : Around} {base h₀ : Heap} {L : Addr} {m : Str → Option Value} {s : Shared} {Q E : Value → Shared → Prop}
  {place : Addr} {what : Str} {u : Tok} {news : List (Addr × Obj)}
  (B : Below A₀ base outer h₀) (F : Fr h₀ L s.heap m) (X : (Mine.hd.heap_39 w.params).In h₀) (N : News h₀ L s.heap news) (T : Top p loose mean mg mb h₀) (hk : cs.kind = .function)
  (hd : dp + 4 < recursionLimit) (hu : un + 32 < cLine)
  (hi : findIn (Mine.hd.heap_39 w.params) (.ref 87) "__init__" = some (some (.ref 64))) (hf : typeIn (Mine.hd.heap_39 w.params) (.ref 64) = some (.type "function"))
  (ret : ∀ e t1 D ta tb h' tk', Fr h₀ L h' m → News h₀ L h' ((D, errDict w.params ta tb (.str what u) place) :: (e, errObj t1 D) :: (t1, { cls := .type "tuple", data := .seq #[.str what u] }) :: news) → e < t1 → t1 < D → (∀ p ∈ news, p.1 < e) → Q (.ref e) {s with heap := h', toks := tk'}) :
  wpAny (model prog w) (ktrTop dp un gd cn cs L a ccd cl outer) (call (.ref 87) [.str what u, .ref place]) Q E s := by
  have FB := PySem.F.excBase_Exception
  have X1 := X.keeps F.keep
  refine cps fun GG kk => ?_
  obtain ⟨hdct, sn, sub, ab, col, k0, k1, k2, k3, k5, hC⟩ := errCls X1
  refine kk ?_
  have f1 := tc_lookup
  have f2 := tc_bind (.ref 87)
  have F2 := (F.push { cls := .type "tuple", data := .seq #[.str what u, .ref place] }).push (errNew s.heap.objs.size)
  have N2 := (N.push F { cls := .type "tuple", data := .seq #[.str what u, .ref place] }).push (F.push { cls := .type "tuple", data := .seq #[.str what u, .ref place] }) (errNew s.heap.objs.size)
  rw [Heap.size_push] at N2
  have N3 : News h₀ L _ ((s.heap.objs.size + 1, errNew s.heap.objs.size) :: news) := cb_drop N2 (by k_extra "my_sub")
  have lt1 : ∀ p ∈ news, p.1 < s.heap.objs.size + 1 := fun p hp => Nat.lt_succ_of_lt (Heap.lt_size (N p hp).1)
  obtain ⟨hh, g, d, t, os⟩ := s
  have hT : (⟨hh, g, d, t, os⟩ : Shared).TypeIs (.ref 87) "type" := ⟨_, hC, rfl⟩
  refine wpAny_call (codeAny_of_tree ?_)
  show wpAny _ _ (callAny (.ref 87) _) _ _ _
  repeat (any_goals (first | assumption | with_reducible refine wpAny_loadPart_at hC ?_ | wp_step))
  refine ⟨rfl, ?_⟩
  refine codeAny_call_builtin_at (Code.quiet_builtin _ (by decide +kernel)) entry_typeCall (wpAny_check_type_call_sub hC ?_)
  unfold Builtin.«type.__call__»
  repeat (first | with_reducible refine wpAny_loadPart_at hC ?_ | with_reducible refine wpAny_madeBy_exc hC ?_ | wp_step)
  show codeAny _ ((ktrTop dp un gd cn cs L a ccd cl outer).under (.builtin "type.__call__" ⟨[.ref 87, .str what u, .ref place], []⟩)) (.call (.builtin "Exception.__new__") ⟨.ref 87 :: [.str what u, .ref place], []⟩) _ _
  refine codeAny_call_builtin_code (Code.quiet_builtin _ FB.quiet) (err_check_new hC ?_)
  refine err_new hC ?_ (Nat.le_of_ble_eq_true rfl)
  show wpAny _ _ _ _ _ _
  have hC1 := (X.keeps F2.keep)
  refine cps fun GG kk => ?_
  obtain ⟨hdct', sn', sub', ab', col', k0', k1', k2', k3', k5', hC2⟩ := errCls hC1
  refine kk ?_
  have hget := (N3 _ (.head _)).1
  have cC : (Value.ref 87 :: errTail).contains (.ref 87) = true := rfl
  unfold isInstance
  repeat (first | with_reducible refine wpAny_loadPart_at hget ?_ | (with_reducible refine wpAny_isSubtype_exc hC2 ?_; rw [cC]) | wp_step)
  show wpAny _ _ (typeLookup (.ref 87) "__init__") _ _ _
  refine Looks.here (s := ⟨(hh.push { cls := .type "tuple", data := .seq #[.str what u, .ref place] }).push (errNew hh.objs.size), g, d, t, os⟩) (looks_findIn hC1 hi) ?_
  refine wpAny_holding (wpAny_bind (Looks.here (s := ⟨(hh.push { cls := .type "tuple", data := .seq #[.str what u, .ref place] }).push (errNew hh.objs.size), g, d, t, os⟩) (bind_fn hC1 _ hf) ?_))
  refine wpAny_bind (wpAny_call ?_)
  show codeAny _ ((ktrTop dp un gd cn cs L a ccd cl outer).under (.builtin "type.__call__" ⟨[.ref 87, .str what u, .ref place], []⟩)) (.call (.ref 64) ⟨[.ref (hh.objs.size + 1), .str what u, .ref place], []⟩) _ _
  refine init_c B F2 X N3 T hk (fun p hp => Nat.ne_of_lt (lt1 p hp)) hd hu ?_
  intro t1 D ta tb h' tk' F' N' l1 l2 l3
  refine wpAny_pure ?_
  show wpAny _ _ (PySem.ret (.ref (hh.objs.size + 1))) _ _ _
  exact wpAny_pure (ret _ _ _ _ _ _ _ F' N' l1 l2 lt1)
def rowI (rws : List Row) (i : Int) : Row := rws.getD i.toNat ⟨endS, Str.ofString "", 0⟩
abbrev ent (P : Params) (x : Str) (tk : Tok) (v : Value) : DictEntry := ⟨PyData.keyHash P x, .str x tk, v⟩
abbrev tokDict (P : Params) (a1 a2 a3 a4 b1 b2 b3 : Tok) (r : Row) (pl : Addr) : Obj :=
  dictOf [ent P "kind" a1 (.str r.kind b1), ent P "text" a2 (.str r.text b2), ent P "worth" a3 (.str r.text b3), ent P "at" a4 (.ref pl)] 4
abbrev placeDict (P : Params) (a1 a2 b1 b2 : Tok) (r : Row) : Obj := dictOf [ent P "line" a1 (.int 7 b1), ent P "column" a2 (.int r.col b2)] 2
abbrev curDict (P : Params) (a1 a2 b : Tok) (tl : Addr) (i : Int) : Obj := dictOf [ent P "tokens" a1 (.ref tl), ent P "at" a2 (.int i b)] 2
/-- a token stands in the ledger -/
abbrev TokAt (P : Params) (led : List (Addr × Obj)) (a : Addr) (r : Row) (d pl pd : Addr) (a1 a2 a3 a4 b1 b2 b3 c1 c2 c3 c4 : Tok) : Prop :=
  ((a, instObj 127 d) ∈ led) ∧
  ((d, tokDict P a1 a2 a3 a4 b1 b2 b3 r pl) ∈ led) ∧
  ((pl, instObj 45 pd) ∈ led) ∧
  ((pd, placeDict P c1 c2 c3 c4 r) ∈ led)
theorem TokAt.inst {P : Params} {led : List (Addr × Obj)} {a : Addr} {r : Row} {d pl pd : Addr} {a1 a2 a3 a4 b1 b2 b3 c1 c2 c3 c4 : Tok} (h : TokAt P led a r d pl pd a1 a2 a3 a4 b1 b2 b3 c1 c2 c3 c4) : (a, instObj 127 d) ∈ led := h.1
theorem TokAt.dict {P : Params} {led : List (Addr × Obj)} {a : Addr} {r : Row} {d pl pd : Addr} {a1 a2 a3 a4 b1 b2 b3 c1 c2 c3 c4 : Tok} (h : TokAt P led a r d pl pd a1 a2 a3 a4 b1 b2 b3 c1 c2 c3 c4) : (d, tokDict P a1 a2 a3 a4 b1 b2 b3 r pl) ∈ led := h.2.1
theorem TokAt.place {P : Params} {led : List (Addr × Obj)} {a : Addr} {r : Row} {d pl pd : Addr} {a1 a2 a3 a4 b1 b2 b3 c1 c2 c3 c4 : Tok} (h : TokAt P led a r d pl pd a1 a2 a3 a4 b1 b2 b3 c1 c2 c3 c4) : (pl, instObj 45 pd) ∈ led := h.2.2.1
theorem TokAt.pdict {P : Params} {led : List (Addr × Obj)} {a : Addr} {r : Row} {d pl pd : Addr} {a1 a2 a3 a4 b1 b2 b3 c1 c2 c3 c4 : Tok} (h : TokAt P led a r d pl pd a1 a2 a3 a4 b1 b2 b3 c1 c2 c3 c4) : (pd, placeDict P c1 c2 c3 c4 r) ∈ led := h.2.2.2
def TokHere (P : Params) (led : List (Addr × Obj)) (v : Value) (r : Row) : Prop := ∃ a d pl pd a1 a2 a3 a4 b1 b2 b3 c1 c2 c3 c4, v = .ref a ∧ TokAt P led a r d pl pd a1 a2 a3 a4 b1 b2 b3 c1 c2 c3 c4
theorem TokHere.mono {P : Params} {led led' : List (Addr × Obj)} {v : Value} {r : Row} (h : TokHere P led v r) (hs : ∀ p ∈ led, p ∈ led') : TokHere P led' v r := by
  obtain ⟨a, d, pl, pd, a1, a2, a3, a4, b1, b2, b3, c1, c2, c3, c4, e, x1, x2, x3, x4⟩ := h
  exact ⟨a, d, pl, pd, a1, a2, a3, a4, b1, b2, b3, c1, c2, c3, c4, e, hs _ x1, hs _ x2, hs _ x3, hs _ x4⟩
def ToksAt (P : Params) (led : List (Addr × Obj)) (vs : List Value) (rs : List Row) : Prop :=
  (vs.length = rs.length) ∧
  (∀ (i : Nat) v r, vs[i]? = some v → rs[i]? = some r → TokHere P led v r)
theorem ToksAt.len {P : Params} {led : List (Addr × Obj)} {vs : List Value} {rs : List Row} (h : ToksAt P led vs rs) : vs.length = rs.length := h.1
theorem ToksAt.at_ {P : Params} {led : List (Addr × Obj)} {vs : List Value} {rs : List Row} (h : ToksAt P led vs rs) : ∀ (i : Nat) v r, vs[i]? = some v → rs[i]? = some r → TokHere P led v r := h.2
theorem ToksAt.nil {P : Params} {led : List (Addr × Obj)} : ToksAt P led [] [] := ⟨rfl, fun _ _ _ h => by simp at h⟩
theorem ToksAt.mono {P : Params} {led led' : List (Addr × Obj)} {vs : List Value} {rs : List Row} (h : ToksAt P led vs rs) (hs : ∀ p ∈ led, p ∈ led') : ToksAt P led' vs rs :=
  ⟨h.len, fun i v r a b => (h.at_ i v r a b).mono hs⟩
theorem ToksAt.snoc {P : Params} {led : List (Addr × Obj)} {vs : List Value} {rs : List Row} {v : Value} {r : Row} (h : ToksAt P led vs rs) (hv : TokHere P led v r) : ToksAt P led (vs ++ [v]) (rs ++ [r]) := by
  refine ⟨by simp [h.len], fun i v' r' a b => ?_⟩
  by_cases hi : i < vs.length
  · rw [List.getElem?_append_left hi] at a
    rw [List.getElem?_append_left (h.len ▸ hi)] at b
    exact h.at_ i v' r' a b
  · have hi' : vs.length ≤ i := Nat.le_of_not_lt hi
    rw [List.getElem?_append_right hi'] at a
    rw [List.getElem?_append_right (h.len ▸ hi'), ← h.len] at b
    cases hj : i - vs.length with
    | zero => rw [hj] at a b; simp at a b; subst a; subst b; exact hv
    | succ j => rw [hj] at a; simp at a
/-- the rows: the end stands at the end and there alone -/
def RowsGood (rws : List Row) : Prop :=
  (1 ≤ rws.length) ∧
  (rws.length ≤ 10) ∧
  (∀ r ∈ rws, r.kind.length ≤ 100) ∧
  (∀ r ∈ rws, r.text.length ≤ 100) ∧
  (∀ r ∈ rws, PyData.strOk r.text = true) ∧
  (∀ r ∈ rws, 0 ≤ r.col ∧ r.col ≤ 100) ∧
  (∀ i : Int, 0 ≤ i → i < (rws.length : Int) - 1 → (rowI rws i).kind ≠ endS) ∧
  ((rowI rws ((rws.length : Int) - 1)).kind = endS)
theorem RowsGood.pos {rws : List Row} (h : RowsGood rws) : 1 ≤ rws.length := h.1
theorem RowsGood.most {rws : List Row} (h : RowsGood rws) : rws.length ≤ 10 := h.2.1
theorem RowsGood.kinds {rws : List Row} (h : RowsGood rws) : ∀ r ∈ rws, r.kind.length ≤ 100 := h.2.2.1
theorem RowsGood.texts {rws : List Row} (h : RowsGood rws) : ∀ r ∈ rws, r.text.length ≤ 100 := h.2.2.2.1
theorem RowsGood.oks {rws : List Row} (h : RowsGood rws) : ∀ r ∈ rws, PyData.strOk r.text = true := h.2.2.2.2.1
theorem RowsGood.cols {rws : List Row} (h : RowsGood rws) : ∀ r ∈ rws, 0 ≤ r.col ∧ r.col ≤ 100 := h.2.2.2.2.2.1
theorem RowsGood.inner {rws : List Row} (h : RowsGood rws) : ∀ i : Int, 0 ≤ i → i < (rws.length : Int) - 1 → (rowI rws i).kind ≠ endS := h.2.2.2.2.2.2.1
theorem RowsGood.last {rws : List Row} (h : RowsGood rws) : (rowI rws ((rws.length : Int) - 1)).kind = endS := h.2.2.2.2.2.2.2
theorem off_of {a b : Addr} {o : Obj} {rest : List (Addr × Obj)} (h1 : (a, o) ∈ rest) (h : ∀ p ∈ rest, p.1 ≠ b) : a ≠ b := h _ h1
theorem rowI_get {rws : List Row} {i : Int} (h0 : 0 ≤ i) (h1 : i < rws.length) : rws[i.toNat]? = some (rowI rws i) := by
  have : i.toNat < rws.length := tnl h0 h1
  unfold rowI
  rw [List.getD_eq_getElem?_getD, List.getElem?_eq_getElem this]; rfl
theorem rowI_mem {rws : List Row} {i : Int} (h0 : 0 ≤ i) (h1 : i < rws.length) : rowI rws i ∈ rws := List.mem_of_getElem? (rowI_get h0 h1)
theorem RowsGot.good {st : List (Addr × Obj)} {vs : List Value} {rws : List Row} (G : RowsGot st vs rws) : RowsGood rws := by
  obtain ⟨rs, e, rfl, ok, ek, et, hl⟩ := G.split
  have hkind : e.kind.length ≤ 100 := by rw [ek]; decide
  have htext : e.text.length ≤ 100 := by rw [et]; decide
  refine ⟨by simp, by simp; omega, fun r hr => ?_, fun r hr => ?_, fun r hr => ?_, G.col, fun i h0 h1 => ?_, ?_⟩
  · rcases List.mem_append.mp hr with hr | hr
    · exact ok.kind r hr
    · rw [List.mem_singleton.mp hr]; exact hkind
  · rcases List.mem_append.mp hr with hr | hr
    · exact ok.text r hr
    · rw [List.mem_singleton.mp hr]; exact htext
  · rcases List.mem_append.mp hr with hr | hr
    · exact ok.ok r hr
    · rw [List.mem_singleton.mp hr, et]; exact strOk_of _
  · have h2 : i.toNat < rs.length := tnl h0 (by simpa using h1)
    have : rowI (rs ++ [e]) i ∈ rs := by
      unfold rowI
      rw [List.getD_eq_getElem?_getD, List.getElem?_append_left h2, List.getElem?_eq_getElem h2]
      exact List.getElem_mem h2
    exact ok.ne _ this
  · have : rowI (rs ++ [e]) (((rs ++ [e]).length : Int) - 1) = e := by
      unfold rowI
      have e1 : (((rs ++ [e]).length : Int) - 1).toNat = rs.length := by simp
      rw [e1, List.getD_eq_getElem?_getD]; simp
    rw [this]; exact ek
/-- all that a deed reads -/
def Site (P : Params) (rest : List (Addr × Obj)) (l t c cd tl R : Addr) (rws : List Row) : Prop :=
  (TapeIn rest l) ∧
  ((c, instObj 225 cd) ∈ rest) ∧
  (∃ ts nT, (tl, listOf (List.toArray ts) nT) ∈ rest ∧ ToksAt P rest ts rws) ∧
  (∃ vs nR, (R, listOf (List.toArray vs) nR) ∈ rest ∧ RowsAt rest vs rws) ∧
  (∀ p ∈ rest, p.1 ≠ t) ∧
  (∀ p ∈ rest, p.1 ≠ cd) ∧
  (∀ p ∈ rest, p.1 ≠ 254) ∧
  (t ≠ cd) ∧
  (t ≠ 254) ∧
  (cd ≠ 254) ∧
  (RowsGood rws)
theorem Site.tape {P : Params} {rest : List (Addr × Obj)} {l t c cd tl R : Addr} {rws : List Row} (h : Site P rest l t c cd tl R rws) : TapeIn rest l := h.1
theorem Site.cur {P : Params} {rest : List (Addr × Obj)} {l t c cd tl R : Addr} {rws : List Row} (h : Site P rest l t c cd tl R rws) : (c, instObj 225 cd) ∈ rest := h.2.1
theorem Site.toks {P : Params} {rest : List (Addr × Obj)} {l t c cd tl R : Addr} {rws : List Row} (h : Site P rest l t c cd tl R rws) : ∃ ts nT, (tl, listOf (List.toArray ts) nT) ∈ rest ∧ ToksAt P rest ts rws := h.2.2.1
theorem Site.rows {P : Params} {rest : List (Addr × Obj)} {l t c cd tl R : Addr} {rws : List Row} (h : Site P rest l t c cd tl R rws) : ∃ vs nR, (R, listOf (List.toArray vs) nR) ∈ rest ∧ RowsAt rest vs rws := h.2.2.2.1
theorem Site.offt {P : Params} {rest : List (Addr × Obj)} {l t c cd tl R : Addr} {rws : List Row} (h : Site P rest l t c cd tl R rws) : ∀ p ∈ rest, p.1 ≠ t := h.2.2.2.2.1
theorem Site.offc {P : Params} {rest : List (Addr × Obj)} {l t c cd tl R : Addr} {rws : List Row} (h : Site P rest l t c cd tl R rws) : ∀ p ∈ rest, p.1 ≠ cd := h.2.2.2.2.2.1
theorem Site.offg {P : Params} {rest : List (Addr × Obj)} {l t c cd tl R : Addr} {rws : List Row} (h : Site P rest l t c cd tl R rws) : ∀ p ∈ rest, p.1 ≠ 254 := h.2.2.2.2.2.2.1
theorem Site.tc {P : Params} {rest : List (Addr × Obj)} {l t c cd tl R : Addr} {rws : List Row} (h : Site P rest l t c cd tl R rws) : t ≠ cd := h.2.2.2.2.2.2.2.1
theorem Site.tg {P : Params} {rest : List (Addr × Obj)} {l t c cd tl R : Addr} {rws : List Row} (h : Site P rest l t c cd tl R rws) : t ≠ 254 := h.2.2.2.2.2.2.2.2.1
theorem Site.cg {P : Params} {rest : List (Addr × Obj)} {l t c cd tl R : Addr} {rws : List Row} (h : Site P rest l t c cd tl R rws) : cd ≠ 254 := h.2.2.2.2.2.2.2.2.2.1
theorem Site.good {P : Params} {rest : List (Addr × Obj)} {l t c cd tl R : Addr} {rws : List Row} (h : Site P rest l t c cd tl R rws) : RowsGood rws := h.2.2.2.2.2.2.2.2.2.2
theorem Site.mono {P : Params} {rest rest' : List (Addr × Obj)} {l t c cd tl R : Addr} {rws : List Row} (S : Site P rest l t c cd tl R rws) (hs : ∀ p ∈ rest, p ∈ rest') (h1 : ∀ p ∈ rest', p.1 ≠ t) (h2 : ∀ p ∈ rest', p.1 ≠ cd) (h3 : ∀ p ∈ rest', p.1 ≠ 254) : Site P rest' l t c cd tl R rws := by
  obtain ⟨ts, nT, x1, x2⟩ := S.toks
  obtain ⟨vs, nR, y1, y2⟩ := S.rows
  exact ⟨S.tape.mono hs, hs _ S.cur, ⟨ts, nT, hs _ x1, x2.mono hs⟩, ⟨vs, nR, hs _ y1, y2.mono hs⟩, h1, h2, h3, S.tc, S.tg, S.cg, S.good⟩
section
variable {prog : Program} {w : World} {A : Around} {E : Value → Shared → Prop} {s : Shared} {h₀ : Heap} {L : Addr} {m : Str → Option Value} {news rest : List (Addr × Obj)} {l t c cd tl R : Addr} {rws : List Row}
theorem item_sym {value slice : PySem.Expr} {l : Addr} {vs : List Value} {n : Nat} {k : Int} {u : Tok} {v : Value} {Q : Value → Shared → Prop}
    (N : News h₀ L s.heap news) (hm : (l, listOf vs.toArray n) ∈ news) (h0 : 0 ≤ k) (hhi : k < 100000) (hx : vs[k.toNat]? = some v) (h : Q v s)
    (hs : subscripted slice false (.ref l) (.int k u) = operate [.ref l, .int k u] (getItem (.ref l) (.int k u))) :
    wpAny (model prog w) A (subscriptTail value slice (.ref l) (.int k u)) Q E s := by
  have hl : s.heap.IsList l vs.toArray := ⟨_, (N _ hm).1, rfl, n, rfl⟩
  exact tail_any hl.typeIs slot_list_getitem.lookup (wpAny_getItem_list hl h0 (Int.lt_trans hhi (by decide)) (by simpa using hx) h) hs
theorem row_item {value slice : PySem.Expr} {k : Int} {u : Tok} {Q : Value → Shared → Prop} (S : Site w.params rest l t c cd tl R rws)
    (N : News h₀ L s.heap news) (hsub : ∀ p ∈ rest, p ∈ news) (h0 : 0 ≤ k) (hhi : k < rws.length)
    (h : ∀ ra t1 t2 t3, (ra, rowObj (rowI rws k) t1 t2 t3) ∈ rest → Q (.ref ra) s)
    (hs : subscripted slice false (.ref R) (.int k u) = operate [.ref R, .int k u] (getItem (.ref R) (.int k u))) :
    wpAny (model prog w) A (subscriptTail value slice (.ref R) (.int k u)) Q E s := by
  obtain ⟨vs, nR, y1, y2⟩ := S.rows
  have hlt : k.toNat < vs.length := y2.len ▸ tnl h0 hhi
  have hv : vs[k.toNat]? = some vs[k.toNat] := List.getElem?_eq_getElem hlt
  refine cps fun GG kk => ?_
  obtain ⟨ra, t1, t2, t3, e, hm⟩ := y2.at_ _ _ _ hv (rowI_get h0 hhi)
  refine kk ?_
  refine item_sym N (hsub _ y1) h0 (Int.lt_trans (Int.lt_of_lt_of_le hhi (ito S.good.most)) (by decide)) (by rw [hv, e]) (h ra t1 t2 t3 hm) hs
theorem tok_item {value slice : PySem.Expr} {k : Int} {u : Tok} {Q : Value → Shared → Prop} (S : Site w.params rest l t c cd tl R rws)
    (N : News h₀ L s.heap news) (hsub : ∀ p ∈ rest, p ∈ news) (h0 : 0 ≤ k) (hhi : k < rws.length)
    (h : ∀ a d pl pd a1 a2 a3 a4 b1 b2 b3 c1 c2 c3 c4,
      (a, instObj 127 d) ∈ rest → (d, tokDict w.params a1 a2 a3 a4 b1 b2 b3 (rowI rws k) pl) ∈ rest → (pl, instObj 45 pd) ∈ rest → (pd, placeDict w.params c1 c2 c3 c4 (rowI rws k)) ∈ rest → Q (.ref a) s)
    (hs : subscripted slice false (.ref tl) (.int k u) = operate [.ref tl, .int k u] (getItem (.ref tl) (.int k u))) :
    wpAny (model prog w) A (subscriptTail value slice (.ref tl) (.int k u)) Q E s := by
  obtain ⟨vs, nR, y1, y2⟩ := S.toks
  have hlt : k.toNat < vs.length := y2.len ▸ tnl h0 hhi
  have hv : vs[k.toNat]? = some vs[k.toNat] := List.getElem?_eq_getElem hlt
  refine cps fun GG kk => ?_
  obtain ⟨a, d, pl, pd, a1, a2, a3, a4, b1, b2, b3, c1, c2, c3, c4, e, x1, x2, x3, x4⟩ := y2.at_ _ _ _ hv (rowI_get h0 hhi)
  refine kk ?_
  refine item_sym N (hsub _ y1) h0 (Int.lt_trans (Int.lt_of_lt_of_le hhi (ito S.good.most)) (by decide)) (by rw [hv, e]) (h a d pl pd a1 a2 a3 a4 b1 b2 b3 c1 c2 c3 c4 x1 x2 x3 x4) hs
end
/-- a tree that changes no object's dict -/
inductive Tame {α : Type} : Sem α → Prop
  | pure (a : α) : Tame (.pure a)
  | raise (e : Value) : Tame (.raise e)
  | unsupported (w : String) : Tame (.unsupported w)
  | rule {t : String} {k : Unit → Sem α} : (∀ x, Tame (k x)) → Tame (.rule t k)
  | stand {p : Pos} {k : Unit → Sem α} : (∀ x, Tame (k x)) → Tame (.at p k)
  | load {a : Addr} {p : Option Value} {k : Obj → Sem α} : (∀ x, Tame (k x)) → Tame (.load a p k)
  | update {a : Addr} {p : Option Value} {f : Obj → Obj} {k : Unit → Sem α} : (∀ o, (f o).dict = o.dict ∧ (o.isFreed = false → (f o).isFreed = false)) → (∀ x, Tame (k x)) → Tame (.update a p f k)
  | alloc {o : Obj} {k : Addr → Sem α} : (∀ x, Tame (k x)) → Tame (.alloc o k)
  | point {l : List Value} {k : Unit → Sem α} : (∀ x, Tame (k x)) → Tame (.point l k)
  | fresh {k : Tok → Sem α} : (∀ x, Tame (k x)) → Tame (.fresh k)
  | stack {k : List (Code × Pos) → Sem α} : (∀ x, Tame (k x)) → Tame (.stack k)
theorem Tame.bind {α β : Type} {m : Sem α} {f : α → Sem β} (hm : Tame m) (hf : ∀ a, Tame (f a)) : Tame (m >>= f) := by
  show Tame (Sem.bind m f)
  induction hm with
  | pure a => exact hf a
  | raise e => exact .raise e
  | unsupported w => exact .unsupported w
  | rule _ ih => exact .rule ih
  | stand _ ih => exact .stand ih
  | load _ ih => exact .load ih
  | update h _ ih => exact .update h ih
  | alloc _ ih => exact .alloc ih
  | point _ ih => exact .point ih
  | fresh _ ih => exact .fresh ih
  | stack _ ih => exact .stack ih
def HasD (e : Addr) (d : Option Addr) (h : Heap) : Prop := ∃ o, h.get? e = some o ∧ o.dict = d
theorem HasD.push {e : Addr} {d : Option Addr} {h : Heap} (x : HasD e d h) (o : Obj) : HasD e d (h.push o) := by
  obtain ⟨o', a, b⟩ := x
  exact ⟨o', Heap.get?_push_of_some _ a, b⟩
theorem HasD.update {e a : Addr} {d : Option Addr} {h : Heap} {f : Obj → Obj} (x : HasD e d h) (hf : ∀ o, (f o).dict = o.dict ∧ (o.isFreed = false → (f o).isFreed = false)) : HasD e d (h.update a f) := by
  obtain ⟨o, ho, hd⟩ := x
  by_cases q : a = e
  · subst q
    exact ⟨f o, Heap.get?_update_self _ ho ((hf o).2 (Heap.get?_some_iff.mp ho).2), (hf o).1.trans hd⟩
  · exact ⟨o, (Heap.get?_update_ne _ _ _ _ (Ne.symm q)).trans ho, hd⟩
theorem wp_tame {α : Type} {M : Model} {Γ : PySem.Ctx} {t : Sem α} (T : Tame t) {e : Addr} {d : Option Addr} : ∀ {Q : α → Pos → Shared → Prop} {E : Value → Pos → Shared → Prop} {p : Pos} {s : Shared}, Sem.wp M Γ t Q E p s → HasD e d s.heap →
    Sem.wp M Γ t (fun a p s' => Q a p s' ∧ HasD e d s'.heap) (fun x p s' => E x p s' ∧ HasD e d s'.heap) p s := by
  induction T with
  | pure a => intro Q E p s h hd; rw [Sem.wp] at h ⊢; exact ⟨h, hd⟩
  | raise x => intro Q E p s h hd; rw [Sem.wp] at h ⊢; exact ⟨h, hd⟩
  | unsupported w => intro Q E p s h hd; rw [Sem.wp] at h; exact h.elim
  | rule _ ih => intro Q E p s h hd; rw [Sem.wp] at h ⊢; exact ih _ h hd
  | stand _ ih => intro Q E p s h hd; rw [Sem.wp] at h ⊢; exact ih _ h hd
  | load _ ih => intro Q E p s h hd; rw [Sem.wp] at h ⊢; obtain ⟨o, a, b⟩ := h; exact ⟨o, a, ih _ b hd⟩
  | update hf _ ih => intro Q E p s h hd; rw [Sem.wp] at h ⊢; exact ⟨h.1, ih _ h.2 (hd.update hf)⟩
  | alloc _ ih => intro Q E p s h hd; rw [Sem.wp] at h ⊢; exact ih _ h (hd.push _)
  | point _ ih => intro Q E p s h hd; rw [Sem.wp] at h ⊢; exact ih _ h hd
  | fresh _ ih => intro Q E p s h hd; rw [Sem.wp] at h ⊢; exact ih _ h hd
  | stack _ ih => intro Q E p s h hd; rw [Sem.wp] at h ⊢; exact ih _ h hd
theorem wpAny_tame {α : Type} {M : Model} {A : Around} {t : Sem α} (T : Tame t) {e : Addr} {d : Option Addr} {Q : α → Shared → Prop} {E : Value → Shared → Prop} {s : Shared} (h : wpAny M A t Q E s) (hd : HasD e d s.heap) :
    wpAny M A t (fun a s' => Q a s' ∧ HasD e d s'.heap) (fun x s' => E x s' ∧ HasD e d s'.heap) s := fun Γ p hΓ => wp_tame T (h Γ p hΓ) hd
theorem tame_pure {α : Type} (a : α) : Tame (pure a : Sem α) := .pure a
theorem tame_load (a : Addr) : Tame (load a) := .load fun _ => .pure _
theorem tame_unsupported {α : Type} (w : String) : Tame (unsupported w : Sem α) := .unsupported w
theorem tame_stack : Tame stack := .stack fun _ => .pure _
theorem tame_fieldsOf (v : Value) : Tame (fieldsOf v) := by
  cases v
  case ref a =>
    refine Tame.bind (tame_load _) fun o => ?_
    generalize o.data = dd
    cases dd <;> first | exact tame_pure _ | exact tame_unsupported _
  all_goals exact tame_unsupported _
theorem tame_field (v : Value) (i : Nat) : Tame (field v i) := by
  unfold field
  refine Tame.bind (tame_fieldsOf _) fun o => ?_
  split
  · exact tame_pure _
  · exact tame_unsupported _
theorem tame_update {a : Addr} {f : Obj → Obj} (hf : ∀ o, (f o).dict = o.dict ∧ (o.isFreed = false → (f o).isFreed = false)) : Tame (update a f) := .update hf fun _ => .pure _
theorem tame_alloc (o : Obj) : Tame (alloc o) := .alloc fun _ => .pure _
theorem map_dict (g : Array Value → Array Value) (o : Obj) : (Obj.mapFields g o).dict = o.dict ∧ (o.isFreed = false → (Obj.mapFields g o).isFreed = false) := by
  obtain ⟨c, d, dt, sl⟩ := o
  cases dt <;> exact ⟨rfl, fun h => h⟩
theorem tame_setField (v : Value) (i : Nat) (x : Value) : Tame (setField v i x) := by
  cases v
  case ref a =>
    refine Tame.bind (tame_load _) fun o => ?_
    generalize o.data = dd
    cases dd <;> first | exact tame_unsupported _ | (dsimp only; split <;> first | exact tame_update fun o => map_dict _ o | exact tame_unsupported _)
  all_goals exact tame_unsupported _
theorem tame_under : Tame underTheClaimsCaller := Tame.bind tame_stack fun _ => tame_pure _
theorem tame_behind (env : Env) (outer : List Env) : Tame (behindIsImport env outer) := by
  unfold behindIsImport
  split
  · exact tame_pure _
  · split
    · exact tame_pure _
    · exact Tame.bind (tame_field _ _) fun _ => tame_pure _
theorem tame_kept (env : Env) (b : Bool) (l : List Env) : Tame (keptBack env b l) := by
  unfold keptBack
  split
  · split
    · exact tame_pure _
    · exact Tame.bind tame_under fun _ => tame_pure _
  · exact tame_pure _
theorem tame_ready : ∀ l : List Env, Tame (readyFrames l)
  | [] => tame_pure _
  | env :: outer => by
    unfold readyFrames
    split
    · refine Tame.bind (tame_load _) fun o => ?_
      split
      · exact tame_pure _
      · exact Tame.bind (tame_behind _ _) fun _ => Tame.bind (tame_kept _ _ _) fun _ => Tame.bind (tame_update fun o => ⟨rfl, fun h => by obtain ⟨c, d, dt, sl⟩ := o; cases dt <;> first | rfl | exact h⟩) fun _ => tame_ready outer
    · exact tame_unsupported _
theorem tame_frameEnvs : Tame frameEnvs := Tame.bind tame_stack fun _ => tame_pure _
theorem tame_frameObject : ∀ l : List Env, Tame (frameObject l)
  | [] => tame_pure _
  | env :: outer => Tame.bind (tame_ready _) fun _ => tame_pure _
theorem tame_frameOf (env : Env) : Tame (PySem.frameOf env) := by
  unfold PySem.frameOf
  refine Tame.bind tame_frameEnvs fun l => Tame.bind (tame_frameObject _) fun r => ?_
  split
  · exact tame_pure _
  · exact tame_unsupported _
theorem tame_entryPlace (f : Addr) (b : Bool) : Tame (entryPlaceOf f b) := by
  unfold entryPlaceOf
  refine Tame.bind tame_stack fun acts => ?_
  split <;> exact tame_pure _
theorem tame_newFields (ty : String) (vs : List Value) : Tame (newFields ty vs) := by
  unfold newFields newObj newObjAsIs
  dsimp only
  split
  · exact Tame.bind (tame_unsupported _) fun _ => Tame.bind (tame_alloc _) fun _ => tame_pure _
  · exact Tame.bind (tame_alloc _) fun _ => tame_pure _
theorem tame_setFlight (e : Value) (fr : Option Addr) : Tame (setFlight e fr) := by
  unfold setFlight
  refine Tame.bind (tame_field _ _) fun tb => ?_
  split
  · exact tame_setField _ _ _
  · exact tame_pure _
theorem tame_noteFrame (e : Value) (env : Env) : Tame (noteFrame e env) := by
  unfold noteFrame
  split
  · refine Tame.bind (tame_field _ _) fun head => ?_
    have fin : Tame (do setField e 1 (← EntryCells.newEntry head (← PySem.frameOf env) .none (rawInt ‹Addr›) .none (← entryPlaceOf ‹Addr› (head != .none)))) :=
      Tame.bind (tame_frameOf _) fun _ => Tame.bind (tame_entryPlace _ _) fun _ => Tame.bind (tame_newFields _ _) fun _ => tame_setField _ _ _
    split
    · refine Tame.bind (tame_field _ _) fun x => ?_
      split
      · exact tame_pure _
      · exact Tame.bind (tame_setField _ _ _) fun _ => fin
    · exact fin
  · exact tame_unsupported _
theorem tame_leaving (env : Env) (e : Value) : Tame (leaving env e) := Tame.bind (tame_noteFrame _ _) fun _ => tame_setFlight _ _
abbrev lamQ : Str := "_law_deed.<locals>.<lambda>"
abbrev TabOk (rest : List (Addr × Obj)) (ps : Array Value) : Prop :=
  (TriplesOk ps.toList) ∧
  (∀ pos c, codeAmong pos ps.toList = some c → ∃ c' oc vs tq, c = .ref c' ∧ (c', oc) ∈ rest ∧ oc.data = .fields vs ∧ vs[1]? = some (.str lamQ tq))
theorem TabOk.tri {rest : List (Addr × Obj)} {ps : Array Value} (h : TabOk rest ps) : TriplesOk ps.toList := h.1
theorem TabOk.code {rest : List (Addr × Obj)} {ps : Array Value} (h : TabOk rest ps) : ∀ pos c, codeAmong pos ps.toList = some c → ∃ c' oc vs tq, c = .ref c' ∧ (c', oc) ∈ rest ∧ oc.data = .fields vs ∧ vs[1]? = some (.str lamQ tq) := h.2
theorem TabOk.nil {rest : List (Addr × Obj)} : TabOk rest #[] := ⟨trivial, fun _ _ h => by cases h⟩
theorem TabOk.mono {rest rest' : List (Addr × Obj)} {ps : Array Value} (T : TabOk rest ps) (hs : ∀ p ∈ rest, p ∈ rest') : TabOk rest' ps :=
  ⟨T.tri, fun pos c e => by
    obtain ⟨c', oc, vs, tq, a, b, d⟩ := T.code pos c e
    exact ⟨c', oc, vs, tq, a, hs _ b, d⟩⟩
theorem tri_snoc (a b : Int) (c : Value) : ∀ (l : List Value), TriplesOk l → TriplesOk (l ++ [rawInt a, rawInt b, c]) := by
  intro l
  fun_induction TriplesOk l with
  | case1 => intro _; trivial
  | case2 _ _ _ _ _ rest ih => intro h; exact ih h
  | case3 => intro h; exact h.elim
theorem among_snoc (pos : Pos) (a b : Int) (c x : Value) : ∀ (l : List Value), TriplesOk l → codeAmong pos (l ++ [rawInt a, rawInt b, c]) = some x → codeAmong pos l = some x ∨ x = c := by
  intro l
  fun_induction TriplesOk l with
  | case1 =>
    intro _ h
    right
    simp only [List.nil_append, rawInt, codeAmong] at h
    split at h
    · exact (Option.some.inj h).symm
    · cases h
  | case2 i1 t1 i2 t2 cc rest ih =>
    intro h e
    simp only [List.cons_append, codeAmong] at e ⊢
    split
    · rename_i q; rw [if_pos q] at e; exact .inl e
    · rename_i q; rw [if_neg q] at e; exact ih h e
  | case3 => intro h; exact h.elim
def NewOff (news rst : List (Addr × Obj)) (c' : Addr) : Prop := ∀ b o, (b, o) ∈ news → (∀ p ∈ rst, p.1 ≠ b) → c' ≠ b
theorem NewOff.ne {news rst : List (Addr × Obj)} {c' b : Addr} {o : Obj} (h : NewOff news rst c') (hm : (b, o) ∈ news) (hr : ∀ p ∈ rst, p.1 ≠ b) : c' ≠ b := h b o hm hr
theorem pick_or {x : Addr × Obj} {l r : List (Addr × Obj)} (P : Pick x l r) (q : Addr × Obj) (hq : q ∈ l) (_ : q ∉ r) : q ∈ x :: r := P.2.2 q hq
section
variable {M : Model} {A : Around} {E : Value → Shared → Prop} {s : Shared} {h₀ : Heap} {L a : Addr} {m mg mb : Str → Option Value} {cn : Str} {cs : Scope} {cl : List (Str × Addr)} {news rest rst : List (Addr × Obj)}
  {p : Program} {loose : List Str} {mean : ExcName → Option Value} {params : Arguments} {body : Expr} {scope : Scope} {ps : Array Value} {pos : Pos} {firstLine : Nat} {clos : List (Str × Addr)}
theorem lam_sym {Q : Value → Shared → Prop} (F : Fr h₀ L s.heap m) (N₀ : News h₀ L s.heap news) (P : Pick (254, tabObj ps) news rest) (T : Top p loose mean mg mb h₀) (C : CodeHd h₀ 258 254) (TO : TabOk rst ps) (hsub : ∀ p ∈ rst, p ∈ rest) (hoff : ∀ p ∈ rest, p.1 ≠ 254)
    (hcl : closureFor scope (envX cn cs L a (.ref 258) cl) = pure clos)
    (h : ∀ f c' oc vs tq ctv ps' h' tk, Fr h₀ L h' m → News h₀ L h' ((f, kla_obj "<lambda>" lamQ params body scope clos ((mg "__name__").getD .none) c' ctv) :: (c', oc) :: (254, tabObj ps') :: rest) →
      TabOk ((c', oc) :: rst) ps' → oc.data = .fields vs → vs[1]? = some (.str lamQ tq) → NewOff news rst c' → (∀ q ∈ news, q.1 < f) → c' < f → Q (.ref f) { s with heap := h', toks := tk }) :
    wpAny M A (makeFunction "<lambda>" lamQ params (.expr body) scope (envX cn cs L a (.ref 258) cl) [] [] [] pos firstLine) Q E s := by
  have N := P.news N₀
  cases hc : codeAmong pos ps.toList with
  | none =>
    refine kla_nest F N T C rfl (UpdF.head hoff) TO.tri hc hcl fun f c' oc vs t ctv h' tk F' N' d1 d2 l1 l2 => ?_
    have lt : ∀ q ∈ news, q.1 < c' := fun q hq => by
      refine l1 q ?_
      by_cases e : q ∈ rest
      · exact .tail _ e
      · exact pick_or P q hq e
    refine h f c' oc vs t ctv _ h' tk F' N' ⟨?_, fun pos' x e => ?_⟩ d1 d2 (fun b o hb _ => Nat.ne_of_gt (lt _ hb)) (fun q hq => Nat.lt_trans (lt q hq) l2) l2
    · rw [Array.toList_append]; exact tri_snoc _ _ _ _ TO.tri
    · rw [Array.toList_append] at e
      rcases among_snoc _ _ _ _ _ _ TO.tri e with e | rfl
      · obtain ⟨c2, oc2, vs2, tq2, a1, a2, a3⟩ := TO.code _ _ e
        exact ⟨c2, oc2, vs2, tq2, a1, .tail _ a2, a3⟩
      · exact ⟨c', oc, vs, t, rfl, .head _, d1, d2⟩
  | some c =>
    obtain ⟨c', oc, vs, tq, rfl, hm, d1, d2⟩ := TO.code _ _ hc
    refine kla_hit F N T C rfl (.head _) TO.tri hc hcl fun f ctv h' tk F' N' l1 => ?_
    refine h f c' oc vs tq ctv ps h' tk F' (fun q hq => ?_) (TO.mono fun p hp => .tail _ hp) d1 d2 (fun b o hb hr => hr _ hm) (fun q hq => l1 q ?_) (l1 (c', oc) (.tail _ (hsub _ hm)))
    · rcases List.mem_cons.mp hq with rfl | hq
      · exact N' _ (.head _)
      rcases List.mem_cons.mp hq with rfl | hq
      · exact N' _ (.tail _ (.tail _ (hsub _ hm)))
      · exact N' _ (.tail _ hq)
    · by_cases e : q ∈ rest
      · exact .tail _ e
      · exact pick_or P q hq e
end
section
variable {prog : Program} {w : World} {A : Around} {E : Value → Shared → Prop} {s : Shared} {h₀ : Heap} {L : Addr} {m : Str → Option Value} {news rest : List (Addr × Obj)} {l t c cd tl R : Addr} {rws : List Row}
theorem rows_len {Q : Value → Shared → Prop} (S : Site w.params rest l t c cd tl R rws) (N : News h₀ L s.heap news) (hsub : ∀ p ∈ rest, p ∈ news)
    (h : Q (.int (rws.length : Int) (s.toks + 1)) { s with toks := s.toks + 1 + 1 }) : wpAny (model prog w) A (call (.builtin "len") [.ref R]) Q E s := by
  obtain ⟨vs, nR, y1, y2⟩ := S.rows
  exact len_sym N (hsub _ y1) y2.len (Nat.le_trans S.good.most (by decide)) h
theorem toks_len {Q : Value → Shared → Prop} (S : Site w.params rest l t c cd tl R rws) (N : News h₀ L s.heap news) (hsub : ∀ p ∈ rest, p ∈ news)
    (h : Q (.int (rws.length : Int) (s.toks + 1)) { s with toks := s.toks + 1 + 1 }) : wpAny (model prog w) A (call (.builtin "len") [.ref tl]) Q E s := by
  obtain ⟨vs, nR, y1, y2⟩ := S.toks
  exact len_sym N (hsub _ y1) y2.len (Nat.le_trans S.good.most (by decide)) h
theorem tok_last {value slice : PySem.Expr} {k : Int} {u : Tok} {Q : Value → Shared → Prop} (S : Site w.params rest l t c cd tl R rws)
    (N : News h₀ L s.heap news) (hsub : ∀ p ∈ rest, p ∈ news) (hk : k = -1)
    (h : ∀ a d pl pd a1 a2 a3 a4 b1 b2 b3 c1 c2 c3 c4,
      (a, instObj 127 d) ∈ rest → (d, tokDict w.params a1 a2 a3 a4 b1 b2 b3 (rowI rws ((rws.length : Int) - 1)) pl) ∈ rest → (pl, instObj 45 pd) ∈ rest → (pd, placeDict w.params c1 c2 c3 c4 (rowI rws ((rws.length : Int) - 1))) ∈ rest → Q (.ref a) s)
    (hs : subscripted slice false (.ref tl) (.int k u) = operate [.ref tl, .int k u] (getItem (.ref tl) (.int k u))) :
    wpAny (model prog w) A (subscriptTail value slice (.ref tl) (.int k u)) Q E s := by
  subst hk
  obtain ⟨vs, nR, y1, y2⟩ := S.toks
  have hpos := S.good.pos
  have hmost := S.good.most
  have q0 : (0 : Int) ≤ (rws.length : Int) - 1 := Int.le_sub_one_of_lt (ipos hpos)
  have q1 : (rws.length : Int) - 1 < rws.length := Int.sub_lt_self _ (by decide)
  have hlt : ((rws.length : Int) - 1).toNat < vs.length := Nat.lt_of_lt_of_eq (tnl q0 q1) y2.len.symm
  have hv : vs[((rws.length : Int) - 1).toNat]? = some vs[((rws.length : Int) - 1).toNat] := List.getElem?_eq_getElem hlt
  refine cps fun GG kk => ?_
  obtain ⟨a, d, pl, pd, a1, a2, a3, a4, b1, b2, b3, c1, c2, c3, c4, e, x1, x2, x3, x4⟩ := y2.at_ _ _ _ hv (rowI_get q0 q1)
  refine kk ?_
  have hl : s.heap.IsList tl vs.toArray := ⟨_, (N _ (hsub _ y1)).1, rfl, _, rfl⟩
  have hq := h a d pl pd a1 a2 a3 a4 b1 b2 b3 c1 c2 c3 c4 x1 x2 x3 x4
  · refine tail_any hl.typeIs slot_list_getitem.lookup (wpAny_getItem_list_neg hl (by decide) (by rw [List.size_toArray, y2.len]; exact Int.neg_le_neg (ipos hpos)) (by decide) (x := .ref a) ?_ hq) hs
    rw [List.size_toArray, y2.len]
    have e2 : (-1 + (rws.length : Int)).toNat = ((rws.length : Int) - 1).toNat := by omega
    rw [e2, List.getElem?_toArray, hv, e]
end
abbrev frs (l : List Env) : List Addr := l.filterMap (·.frame)
theorem mem_frs {env : Env} {outer : List Env} {L b : Addr} (hf : env.frame = some L) (hm : b ∈ frs (env :: outer)) : b = L ∨ b ∈ frs outer := by
  obtain ⟨e, he, h⟩ := List.mem_filterMap.mp hm
  rcases List.mem_cons.mp he with rfl | he
  · exact .inl (Option.some.inj (h.symm.trans hf))
  · exact .inr (List.mem_filterMap.mpr ⟨e, he, h⟩)
section
variable {A₀ A : Around} {base h₀ g : Heap} {outer : List Env} {L : Addr} {m : Str → Option Value} {env : Env} {R : Result → Shared → Prop} {K : Frag} {p : Program} {loose : List Str} {mean : ExcName → Option Value} {mg mb : Str → Option Value}
/-- a call is left: the callers' frames may have turned; no frame below -/
theorem back0 {v : Value} {s' : Shared} (FG : Fr h₀ L g m) (st : h₀.StaysIn g) (hf : env.frame = some L) (hl : LeaveS0 (frs [env]) h₀ L m g R v s') : R (.ok (.ret v)) s' := by
  obtain ⟨g', L', m', news', T', F', N', k⟩ := hl
  have nL₀ : h₀.get? L = none := kts_self FG
  obtain ⟨oL, es, ep, hL, hLd, r⟩ := FG.ns
  obtain ⟨sl, hs⟩ := T'.up hL
  refine k ⟨⟨_, es, ep, F'.keep _ _ hs, hLd, r⟩, fun b o e => F'.keep b o (T'.other b o (st b o e) (fun q => ?_)), FG.above⟩ fun p hp => ⟨(N' p hp).1, fun q => ?_, ?_⟩
  · rcases mem_frs hf q with z | z
    · rw [z, nL₀] at e; cases e
    · simp [frs] at z
  · have := (N' p hp).2.2; rw [q, hs] at this; cases this
  · cases q : h₀.get? p.1 with
    | none => rfl
    | some o =>
      obtain ⟨sl', hs'⟩ := T'.up (st _ _ q)
      have := (N' p hp).2.2
      rw [hs'] at this
      cases this
theorem backS {v : Value} {s' : Shared} {g₀ : Heap} (FG : Fr h₀ L g m) (st : h₀.StaysIn g) (hf : env.frame = some L) (B : Below A₀ base outer h₀) (XB : K.In base) (TB : Top p loose mean mg mb base) (D : KtsDicts (frs outer) h₀) (T0 : KtsTurn (frs outer) g₀ h₀)
    (hl : LeaveS (frs (env :: outer)) A₀ base outer K p loose mean mg mb g₀ h₀ L m g R v s') : R (.ok (.ret v)) s' := by
  have nL₀ : h₀.get? L = none := kts_self FG
  obtain ⟨oL, es, ep, hL, hLd, r⟩ := FG.ns
  rcases hl with ⟨L', m', news', F', N', k⟩ | ⟨g', L', m', news', T', F', N', k⟩
  · refine k ⟨⟨_, es, ep, F'.keep _ _ hL, hLd, r⟩, fun b o e => F'.keep b o (st b o e), FG.above⟩ fun p hp => ⟨(N' p hp).1, fun q => ?_, ?_⟩
    · have := (N' p hp).2.2; rw [q, hL] at this; cases this
    · cases q : h₀.get? p.1 with
      | none => rfl
      | some o => have := (N' p hp).2.2; rw [st _ _ q] at this; cases this
  obtain ⟨sl, hs⟩ := T'.up hL
  obtain ⟨T₁, S₁⟩ := kts_turn_at (h := s'.heap) (fs := frs outer) (g := h₀)
    (fun b hb => by obtain ⟨_, o, ho', _⟩ := B.frames.mem hb; exact ⟨o, ho'⟩)
    (fun b o e nmem => F'.keep b o (T'.other b o (st b o e) (fun q => by
      rcases mem_frs hf q with z | z
      · rw [z, nL₀] at e; cases e
      · exact nmem z)))
    (fun b o e hm => by obtain ⟨sl', hs'⟩ := T'.up (st b o e); exact ⟨sl', F'.keep _ _ hs'⟩)
  have B₃ : Below A₀ base outer (ktsHeap s'.heap (frs outer) h₀) := ⟨B.stack, fun b o e => T₁.other b o (B.stays b o e) (fun hm => by rw [(B.frames.mem hm).1] at e; cases e), B.frames.of_keeps fun b o e _ => by
    obtain ⟨sl', hs'⟩ := T₁.up e
    exact ⟨_, hs', rfl⟩⟩
  refine k _ (T0.trans T₁) ⟨⟨_, es, ep, F'.keep _ _ hs, hLd, r⟩, S₁, by rw [T₁.size]; exact FG.above⟩ (fun p hp => ⟨(N' p hp).1, fun q => ?_, ?_⟩) B₃ (XB.keeps B₃.stays) (TB.keeps B₃.stays) (D.turn T₁)
  · have := (N' p hp).2.2; rw [q, hs] at this; cases this
  · refine T₁.none_ _ ?_
    cases q : h₀.get? p.1 with
    | none => rfl
    | some o =>
      obtain ⟨sl', hs'⟩ := T'.up (st _ _ q)
      have := (N' p hp).2.2
      rw [hs'] at this
      cases this
end
section
variable {prog : Program} {w : World} {A₀ A : Around} {s : Shared} {base h₀ g₀ : Heap} {outer : List Env} {L : Addr} {m : Str → Option Value} {env : Env} {news : List (Addr × Obj)} {K : Frag} {p : Program} {loose : List Str} {mean : ExcName → Option Value} {mg mb : Str → Option Value}
  {R : Result → Shared → Prop} {name qual : Str} {params : Arguments} {body : List Stmt} {scope : Scope} {dV kV doc pm cdv ct oc : Value} {an od : Option Addr} {osl : Array (Option Value)} {f : Addr} {args : Args} {binds : List (Str × Value)}
theorem dict_frs (FG : Fr h₀ L g₀ m) (st : h₀.StaysIn g₀) (hf : env.frame = some L) (D : KtsDicts (frs outer) h₀) : KtsDicts (frs (env :: outer)) g₀ := fun b hb => by
  rcases mem_frs hf hb with rfl | hb
  · obtain ⟨oL, es, ep, hL, hLd, r⟩ := FG.ns
    exact ⟨oL, es, ep, hL, hLd⟩
  · obtain ⟨o, es', n', ho', hd'⟩ := D b hb
    exact ⟨o, es', n', st b o ho', hd'⟩
/-- into a def with cells, its caller the lowest frame: a try below may turn that frame -/
theorem enterC {m' : Str → Option Value} (hA : A.frames = some [env]) (hf : env.frame = some L) (hke : env.scope.kind = .function) (B : Below A₀ base [] h₀) (F : Fr h₀ L s.heap m) (X₀ : K.In h₀) (N : News h₀ L s.heap news) (T : Top p loose mean mg mb h₀)
    (ho : K.lookup f = some ⟨oc, od, .func (fnOf name qual params body scope dV kV doc pm an cdv ct), osl⟩) (hcd : codeIn K cdv qual = true) (hroom : A.depth < recursionLimit)
    (hbind : BindsTo s (fnOf name qual params body scope dV kV doc pm an cdv ct) args binds) (hkind : (binds.all fun y => scope.names.lookup y.1 == some .local || scope.names.lookup y.1 == some .cell) = true)
    (hnd : ((cellsFrom 0 scope.names []).map (·.1)).Nodup)
    (hm : ∀ L', (bindL (envOfC qual scope L' f cdv).kindOf binds fun _ => none) = m')
    (h : ∀ g L' h₁ tk cells, Fr h₀ L g m → Fr g L' h₁ m' → News g L' h₁ (cells ++ news) →
      CellsAre (bindC (envOfC qual scope L' f cdv).kindOf binds fun _ => none) (cellsFrom (L' + 1) scope.names []) cells → Below A base [env] g → K.In g → Top p loose mean mg mb g → KtsDicts (frs [env]) g → (∀ p ∈ news, p.1 < L') →
      wpAny (model prog w) (A.deeper (envOfC qual scope L' f cdv)) (execs body (envOfC qual scope L' f cdv))
        (fun fl s' => LeaveS0 (frs [env]) h₀ L m g R (match fl with | .ret v => v | _ => .none) s')
        (fun e s' => wpAny (model prog w) (A.deeper (envOfC qual scope L' f cdv)) (leaving (envOfC qual scope L' f cdv) e) (fun _ s'' => R (.error e) s'') (fun e' s'' => R (.error e') s'') s')
        { s with heap := h₁, toks := tk })
    (hco : scope.isCoroutine = false) (hgen : scope.isGenerator = false) (hk : scope.kind = .function) : codeAny (model prog w) A (.call (.ref f) args) R s := by
  obtain ⟨FG, BG, st, -⟩ := groundX (R := R) B F N hA hf hke
  have hlim := T.nolimit
  have D := dict_frs (outer := []) FG st hf ktsDicts_nil
  refine codeAny_call_function hroom ((X₀.keeps F.keep) _ _ ho) rfl hco hgen rfl (codeRec_of (X₀.keeps F.keep) hcd) (hbind _ _ _ _ ?_)
  refine wpAny_newFunctionEnv_cells hk (kindsX hkind _) fun env' he s' x => ?_
  subst he
  refine ⟨(hlim.keeps F.keep).keeps x.toInCall.keep, codeAny_func ?_⟩
  obtain ⟨h₁, tk, rfl, _⟩ := x.done
  have hk₁ := x.toInCall.keep
  obtain ⟨cells, NC, Y⟩ := Cl.news (h₀ := s.heap) (Nat.le_refl _) fun n c hm => ⟨x.cell n c (lookup_of_mem_nodup (cellsFrom_names scope.names 0 (s.heap.objs.size + 1) [] [] rfl ▸ hnd) hm), x.above n c hm⟩
  refine wpAny_mono (h _ s.heap.objs.size h₁ tk cells FG ⟨hm _ ▸ x.toInCall.ns, fun b o e => hk₁ b o (of_hideAll _ e), Nat.le_of_eq (hideAll_size _ _)⟩ (fun p hp => ?_) Y BG (X₀.keeps st) (T.keeps st) D (fun p hp => Heap.lt_size (N p hp).1)) (fun fl s' hl => back0 FG st hf hl) fun _ _ y => y
  rcases List.mem_append.mp hp with hp | hp
  · refine ⟨(NC p hp).1, (NC p hp).2.1, ?_⟩
    cases q : (hideAll s.heap (news.map (·.1))).get? p.1 with
    | none => rfl
    | some o => have := of_hideAll _ q; rw [(NC p hp).2.2] at this; cases this
  · exact ⟨hk₁ _ _ (N p hp).1, Nat.ne_of_lt (Heap.lt_size (N p hp).1), hideAll_none _ (List.mem_map_of_mem hp)⟩
/-- into a def that may catch; the caller any frame -/
theorem enterS (hA : A.frames = some (env :: outer)) (hf : env.frame = some L) (hke : env.scope.kind = .function) (B : Below A₀ base outer h₀) (F : Fr h₀ L s.heap m) (X₀ : K.In h₀) (N : News h₀ L s.heap news) (T : Top p loose mean mg mb h₀) (XB : K.In base) (TB : Top p loose mean mg mb base) (D : KtsDicts (frs outer) h₀)
    (T0 : KtsTurn (frs outer) g₀ h₀)
    (ho : K.lookup f = some ⟨oc, od, .func (fnOf name qual params body scope dV kV doc pm an cdv ct), osl⟩) (hcd : codeIn K cdv qual = true) (hroom : A.depth < recursionLimit)
    (hbind : BindsTo s (fnOf name qual params body scope dV kV doc pm an cdv ct) args binds) (hloc : ∀ y ∈ binds, scope.names.lookup y.1 = some .local)
    (h : ∀ g L' h₁ tk, Fr h₀ L g m → Fr g L' h₁ (fun y => binds.reverse.lookup y) → News g L' h₁ news → Below A base (env :: outer) g → K.In g → Top p loose mean mg mb g → KtsDicts (frs (env :: outer)) g → (∀ p ∈ news, p.1 < L') →
      wpAny (model prog w) (A.deeper (envOf qual scope L' f cdv)) (execs body (envOf qual scope L' f cdv))
        (fun fl s' => LeaveS (frs (env :: outer)) A₀ base outer K p loose mean mg mb g₀ h₀ L m g R (match fl with | .ret v => v | _ => .none) s')
        (fun e s' => wpAny (model prog w) (A.deeper (envOf qual scope L' f cdv)) (leaving (envOf qual scope L' f cdv) e) (fun _ s'' => R (.error e) s'') (fun e' s'' => R (.error e') s'') s')
        { s with heap := h₁, toks := tk })
    (hco : scope.isCoroutine = false) (hgen : scope.isGenerator = false) (hk : scope.kind = .function)
    (hcell : ∀ x ∈ scope.names, x.2 ≠ .cell) : codeAny (model prog w) A (.call (.ref f) args) R s := by
  have X := X₀.keeps F.keep
  obtain ⟨FG, BG, st, -⟩ := groundX (R := R) B F N hA hf hke
  refine codeAny_call_def (fd := fnOf name qual params body scope dV kV doc pm an cdv ct) (body := body) (binds := binds) hroom (X _ _ ho) rfl (T.nolimit.keeps F.keep) (codeRec_of X hcd) rfl hbind hcell hloc (fun h₁ hns hk₁ => ?_) hco hgen hk
  exact wpAny_mono (h _ s.heap.objs.size h₁ _ FG ⟨hns, fun b o e => hk₁ b o (of_hideAll _ e), Nat.le_of_eq (hideAll_size _ _)⟩
    (fun p hp => ⟨hk₁ _ _ (N p hp).1, Nat.ne_of_lt (Heap.lt_size (N p hp).1), hideAll_none _ (List.mem_map_of_mem hp)⟩) BG (X₀.keeps st) (T.keeps st) (dict_frs FG st hf D) (fun p hp => Heap.lt_size (N p hp).1)) (fun fl s' hl => backS FG st hf B XB TB D T0 hl) fun _ _ y => y
end
def RaisableOwn (E : Value → Shared → Prop) (v : Value) (s₁ : Shared) : Prop :=
  ∃ e t D hdct sn sub ab col k0 k1 k2 k3 k5, v = .ref e ∧ s₁.heap.get? e = some (errObj t D) ∧ s₁.heap.get? 87 = some (excClassObj "ReadError" "ReadError" 87 86 [.ref 74] errTail hdct sn sub ab col none k0 k1 k2 k3 k5 "Exception.__new__") ∧ E (.ref e) s₁
theorem tame_step {M : Model} {A : Around} {E : Value → Shared → Prop} {s : Shared} {t : Sem Unit} {Q : Unit → Shared → Prop} {e : Addr} {d : Option Addr} (T : Tame t) {P : Heap → Prop}
    (h : ∀ Q' : Unit → Shared → Prop, (∀ h', P h' → Q' () { s with heap := h' }) → wpAny M A t Q' E s) (hd : HasD e d s.heap) (hQ : ∀ h', P h' → HasD e d h' → Q () { s with heap := h' }) : wpAny M A t Q E s := by
  refine wpAny_mono (wpAny_tame T (h (fun _ s'' => ∃ h', s'' = { s with heap := h' } ∧ P h') (fun h' p => ⟨h', rfl, p⟩)) hd) (fun _ s'' z => ?_) (fun _ _ z => z.1)
  obtain ⟨⟨h', rfl, p⟩, d⟩ := z
  exact hQ h' p d
def RaisedE (base G : Heap) (l : List Env) (e t : Addr) (vs : List Value) (D : Addr) (news : List (Addr × Obj)) (h : Heap) : Prop :=
  RaisedS base G l e (.ref 87) t vs news h ∧ HasD e (some D) h
section
variable {M : Model} {A : Around} {E : Value → Shared → Prop} {s : Shared} {env : Env} {x : Expr} {pos : Pos}
theorem raise_own {Q : Flow → Shared → Prop} (hh : A.handled = none) (h : wpAny M A (eval x env) (RaisableOwn E) E s) : wpAny M A (exec (.Raise (some x) none pos) env) Q E s := by
  rw [arm_exec_Raise]
  show wpAny M A (do standAt pos; raiseStmt env (some (do let v ← eval x env; standAt pos; pure v)) none) Q E s
  refine wpAny_bind (wpAny_standAt ?_)
  unfold raiseStmt
  refine wpAny_bind (wpAny_bind (wpAny_mono h (fun v s₁ h₁ => wpAny_bind (wpAny_standAt (wpAny_pure ?_))) fun _ _ x => x))
  refine cps fun GG kk => ?_
  obtain ⟨e, t, D, hdct, sn, sub, ab, col, k0, k1, k2, k3, k5, rfl, he, hC, hE⟩ := h₁
  refine kk ?_
  have c1 : (Value.ref 87 :: errTail).contains (.type "BaseException") = true := rfl
  obtain ⟨hp, g, d, tk, os⟩ := s₁
  repeat (first | with_reducible refine wpAny_loadPart_at he ?_ | with_reducible refine wpAny_loadPart_at hC ?_ | (with_reducible refine wpAny_isSubtype_exc hC ?_; rw [c1]) | wp_step)
  exact wpAny_raiseNew_none hh hE
end
section
variable {M : Model} {A : Around} {E : Value → Shared → Prop} {s' : Shared} {base g g₂ : Heap} {outer : List Env} {L e t D : Addr} {m : Str → Option Value} {env : Env} {Q : Unit → Shared → Prop} {news : List (Addr × Obj)} {vs : List Value}
theorem leave_first (K : Below A base outer g) (hf : env.frame = some L) (hk : env.scope.kind = .function) (F : Fr g L s'.heap m) (N : News g L s'.heap ((e, errObj t D) :: (t, { cls := .type "tuple", data := .seq vs.toArray }) :: news)) (het : t ≠ e) (ho1 : ∀ q ∈ news, q.1 ≠ e) (ho2 : ∀ q ∈ news, q.1 ≠ t)
    (hQ : ∀ h', RaisedE base g outer e t vs D news h' → g.UpToSlots h' → Q () { s' with heap := h' }) : wpAny M (A.deeper env) (leaving env (.ref e)) Q E s' := by
  have K' := pushX (env := env) K F hf hk
  have he := N _ (.head _)
  have ht := N _ (.tail _ (.head _))
  have hin : ∀ v ∈ (env :: outer), ∀ b, v.frame = some b → b ∈ e :: t :: frs (env :: outer) := fun v hv b hb => .tail _ (.tail _ (List.mem_filterMap.mpr ⟨v, hv, hb⟩))
  have frOff : ∀ b o, s'.heap.get? b = some o → base.get? b = none ∨ True := fun _ _ _ => .inr trivial
  have ne1 : g.get? e = none := he.2.2
  have ne2 : g.get? t = none := ht.2.2
  have notIn : ∀ b, b ≠ e → b ≠ t → b ∉ frs (env :: outer) → b ∉ e :: t :: frs (env :: outer) := fun b h1 h2 h3 hm => by
    rcases List.mem_cons.mp hm with rfl | hm
    · exact h1 rfl
    rcases List.mem_cons.mp hm with rfl | hm
    · exact h2 rfl
    · exact h3 hm
  have st : base.StaysIn (hideAll s'.heap (e :: t :: frs (env :: outer))) := fun b o q => hideAll_get _ (K'.stays b o q) (notIn b
    (fun z => by have := fresh_of_stays K.stays ne1; rw [← z, q] at this; cases this) (fun z => by have := fresh_of_stays K.stays ne2; rw [← z, q] at this; cases this)
    (fun hm => by rw [(K'.frames.mem hm).1] at q; cases q))
  have sg : ∀ b o, g.get? b = some o → b ∉ frs outer → (hideAll s'.heap (e :: t :: frs (env :: outer))).get? b = some o := fun b o q nm => hideAll_get _ (F.keep b o q) (notIn b
    (fun z => by rw [z, ne1] at q; cases q) (fun z => by rw [z, ne2] at q; cases q)
    (fun hm => by
      rcases mem_frs hf hm with z | z
      · rw [z, kts_self F] at q; cases q
      · exact nm z))
  have hl : ∀ q ∈ news, (hideAll s'.heap (e :: t :: frs (env :: outer))).get? q.1 = some q.2 ∧ g.get? q.1 = none ∧ base.get? q.1 = none := fun q hq => by
    have n := N q (.tail _ (.tail _ hq))
    refine ⟨hideAll_get _ n.1 (notIn _ (ho1 q hq) (ho2 q hq) fun hm => ?_), n.2.2, fresh_of_stays K.stays n.2.2⟩
    rcases mem_frs hf hm with z | z
    · exact n.2.1 z
    · obtain ⟨o, ho, _⟩ := (K.frames.mem z).2
      rw [n.2.2] at ho; cases ho
  refine tame_step (P := fun h' => Heap.LeftW (hideAll s'.heap (e :: t :: frs (env :: outer))) (env :: outer) e (.ref 87) (.ref t) s'.heap h') (tame_leaving _ _) (fun Q' hq => wpAny_leaving_firstW K'.stack (funFrames_hide K'.frames hin) hf he.1 (fun b o q => of_hideAll _ q) (hideAll_none _ (.head _)) rfl rfl rfl hq) ⟨_, he.1, rfl⟩ fun h' hL hD => ?_
  obtain ⟨k1, ⟨_, _, k2⟩, k3, k4⟩ := hL
  refine hQ h' ⟨⟨⟨_, st, sg, hl, ⟨k1, hideAll_none _ (.head _), k2, k3⟩, hideAll_none _ (.tail _ (.head _))⟩, Heap.TupAt.of_slots ⟨_, _, ht.1, rfl, rfl⟩ k4⟩, hD⟩ ((Heap.UpToSlots.of_keeps F.keep).trans k4)
theorem leave_on (R : RaisedE base g₂ (env :: outer) e t vs D news s'.heap) (hf : env.frame = some L) (F : Fr g L g₂ m) (K : Below A base outer g) (hsm : g₂.UpToSlots s'.heap)
    (hQ : ∀ h', RaisedE base g outer e t vs D news h' → g.UpToSlots h' → Q () { s' with heap := h' }) : wpAny M (A.deeper env) (leaving env (.ref e)) Q E s' := by
  obtain ⟨⟨⟨B, hB, hBG, hl, hfl, hnew⟩, htup⟩, hD⟩ := R
  refine tame_step (P := fun h' => Heap.FlyingW B outer e (.ref 87) (.ref t) h' ∧ s'.heap.UpToSlots h') (tame_leaving _ _) (fun Q' hq => wpAny_leaves_onW (Around.frames_deeper K.stack) hf hfl fun h' x1 x2 => hq h' ⟨x1, x2⟩) hD fun h' hx hD' => ?_
  obtain ⟨x1, x2⟩ := hx
  refine hQ h' ⟨⟨⟨B, hB, fun b o q nm => hBG b o (F.keep b o q) (fun hm => ?_), fun q hq => ⟨(hl q hq).1, kts_none F.keep (hl q hq).2.1, (hl q hq).2.2⟩, x1, hnew⟩, htup.of_slots x2⟩, hD'⟩ ((Heap.UpToSlots.of_keeps F.keep).trans (hsm.trans x2))
  rcases mem_frs hf hm with z | z
  · rw [z, kts_self F] at q; cases q
  · exact nm z
end
section
variable {prog : Program} {w : World} {A₀ : Around} {E : Value → Shared → Prop} {s' : Shared} {base g g₀ G : Heap} {outer : List Env} {L a e t D : Addr} {m : Str → Option Value} {name : Str} {scope : Scope} {cd : Value}
  {vs : List Value} {n : Str} {b₀ : Stmt} {suite : List Stmt} {pos np : Pos} {rest : List ExceptHandler} {Q : Flow → Shared → Prop} {news : List (Addr × Obj)}
  {p : Program} {loose : List Str} {mean : ExcName → Option Value} {mg mb : Str → Option Value} {x : Str}
theorem caught_own (R : RaisedE base G (envOf name scope L a cd :: outer) e t vs D news s'.heap) (F : Fr g L G m) (K : Below A₀ base outer g) (hsm : G.UpToSlots s'.heap) (XB : (Mine.hd.heap_39 w.params).In base) (TB : Top p loose mean mg mb base)
    (DD : KtsDicts (outer.filterMap (·.frame)) g) (T0 : KtsTurn (outer.filterMap (·.frame)) g₀ g)
    (ex : nsIn (Mine.hd.heap_39 w.params) mainGlobals x = some (some (.ref 87)))
    (k : ∀ h' g' oe ws tk, KtsTurn (outer.filterMap (·.frame)) g₀ g' → Fr g' L h' (fun y => if y = n then some (.ref e) else m y) → News g' L h' ((e, oe) :: news) → oe.cls = .ref 87 → oe.dict = some D → oe.data = .fields ws → Below A₀ base outer g' → (Mine.hd.heap_39 w.params).In g' → Top p loose mean mg mb g' → KtsDicts (outer.filterMap (·.frame)) g' →
      wpAny (model prog w) ((A₀.deeper (envOf name scope L a cd)).mark (some (.ref e))) (execs (b₀ :: suite) (envOf name scope L a cd))
        (fun f s₄ => wpAny (model prog w) (A₀.deeper (envOf name scope L a cd)) (do bindName (envOf name scope L a cd) n .none; unbindBehindTheSuite (envOf name scope L a cd) n pos) (fun _ s₅ => Q f s₅) E s₄)
        (AsSuiteRaised (model prog w) ((A₀.deeper (envOf name scope L a cd)).mark (some (.ref e))) (envOf name scope L a cd) n pos (notedBy (model prog w) ((A₀.deeper (envOf name scope L a cd)).mark (some (.ref e))) (envOf name scope L a cd) (cameBackBy (model prog w) (A₀.deeper (envOf name scope L a cd)) (envOf name scope L a cd) E)))
        { s' with heap := h', toks := tk })
    (hk : scope.kind = .function) (hlo : (envOf name scope L a cd).kindOf n = some .local) (hx : (envOf name scope L a cd).kindOf x = some .globalImplicit) (hd : (x == ("__debug__" : Str)) = false) :
    wpAny (model prog w) (A₀.deeper (envOf name scope L a cd)) (noteFrame (.ref e) (envOf name scope L a cd))
      (fun _ s₂ => wpAny (model prog w) (A₀.deeper (envOf name scope L a cd)) (setFlight (.ref e) none) (fun _ s₃ =>
        wpAny (model prog w) (A₀.deeper (envOf name scope L a cd)) (handleBy (.ref e) (envOf name scope L a cd) (.ExceptHandler (some (.Name x np)) (some n) (b₀ :: suite) pos :: rest)) Q E s₃) E s₂) E s' := by
  obtain ⟨⟨⟨B, hB, hBG, hl, hfl, hnew⟩, htup⟩, hD⟩ := R
  have hL : B.get? L = none := by
    obtain ⟨_, ⟨L', _, hf, hn', _⟩, _⟩ := hfl.2.2.1
    obtain rfl : L = L' := Option.some.inj hf
    exact hn'
  refine tame_step (P := fun h' => Heap.HeldW B (envOf name scope L a cd :: outer) e (.ref 87) (.ref t) L h' ∧ s'.heap.UpToSlots h') (tame_noteFrame _ _) (fun Q' hq => wpAny_looks_onW (Around.frames_deeper K.stack) rfl hfl fun h₄ x1 x2 => hq h₄ ⟨x1, x2⟩) hD fun h₄ hx₄ hD₄ => ?_
  obtain ⟨hheld₄, hsm₄⟩ := hx₄
  refine tame_step (s := { s' with heap := h₄ }) (P := fun h' => Heap.FlyingW B (envOf name scope L a cd :: outer) e (.ref 87) (.ref t) h' ∧ h₄.UpToSlots h') (tame_setFlight _ _) (fun Q' hq => wpAny_landsW hheld₄ fun h₅ x1 x2 => hq h₅ ⟨x1, x2⟩) hD₄ fun h₅ hx₅ hD₅ => ?_
  obtain ⟨hheld, hsm₅'⟩ := hx₅
  have hsm₅ := hsm₄.trans hsm₅'
  obtain ⟨g₅, T₅, F₅, K₅⟩ := kts_ground K F hBG hheld.1 (hsm.trans hsm₅)
  have X₅ : (Mine.hd.heap_39 w.params).In g₅ := XB.keeps K₅.stays
  have P₅ : TopRead p loose mg mb g₅ := topRead_of (TB.keeps K₅.stays)
  obtain ⟨ob, hob, hobc⟩ := hheld.there
  refine cps fun GG kk => ?_
  obtain ⟨hdct, sn, sub, ab, col, k0, k1, k2, k3, k5, hC⟩ := errCls (X₅.keeps F₅.keep)
  refine kk ?_
  refine wpAny_handleBy_cons (codeAny_handlers_test (name_K F₅ X₅ P₅ ex ?_ hk hx hd)) (by intro q; cases q)
  refine wpAny_excMatches_sub_self hC hob hobc rfl (codeAny_handlers_suite_as ?_)
  refine tame_step (s := { s' with heap := h₅ }) (P := fun h' => Heap.FlyingW B (envOf name scope L a cd :: outer) e (.ref 87) (.ref t) h' ∧ h₅.UpToSlots h') (tame_setFlight _ _) (fun Q' hq => lands_againW hheld fun h₆ x1 x2 => hq h₆ ⟨x1, x2⟩) hD₅ fun h₆ hx₆ hD₆ => ?_
  obtain ⟨hfl₆, hsm₆⟩ := hx₆
  obtain ⟨g₆, T₆, F₆, K₆⟩ := kts_ground K F hBG hfl₆.1 ((hsm.trans hsm₅).trans hsm₆)
  refine cps fun GG kk => ?_
  obtain ⟨oe, ws, hoe, hoec, hoed, hoe0⟩ := hfl₆.first
  refine kk ?_
  have hdd : oe.dict = some D := by
    obtain ⟨o', ho', hd'⟩ := hD₆
    rw [hoe] at ho'
    cases ho'
    exact hd'
  have ne₆ : g₆.get? e = none := T₆.none_ _ (kts_fresh F hBG hfl₆.2.1 fun o ho m => by
    obtain ⟨_, o', ho', hd⟩ := K.frames.mem m
    rw [ho] at ho'
    cases ho'
    obtain ⟨sl, hs⟩ := ((hsm.trans hsm₅).trans hsm₆) _ _ (F.keep _ _ ho) hd
    rw [hoe] at hs
    cases hs
    exact hd _ hoed)
  have N₆ := News.more F₆ News.nil hoe (fun es n q => by rw [hoed] at q; cases q) ne₆
  have Nl : News g₆ L h₆ news := fun q hq => ⟨hfl₆.1 _ _ (hl q hq).1, (fun z => by have := (hl q hq).1; rw [z, hL] at this; cases this), T₆.none_ _ (kts_none F.keep (hl q hq).2.1)⟩
  have X₆ : (Mine.hd.heap_39 w.params).In g₆ := XB.keeps K₆.stays
  have P₆ : Top p loose mean mg mb g₆ := TB.keeps K₆.stays
  have D₆ : KtsDicts (outer.filterMap (·.frame)) g₆ := DD.turn T₆
  refine stN F₆ (news := (e, oe) :: news) (fun q hq => ?_) (fun h₇ F₇ N₇ => ?_) hk hlo
  · rcases List.mem_cons.mp hq with rfl | hq
    · exact N₆ _ (.head _)
    · exact Nl q hq
  · exact k h₇ g₆ oe ws _ (T0.trans T₆) F₇ N₇ hoec hdd hoed K₆ X₆ P₆ D₆
end
theorem canon_bga : Manifest.canonical "BaseException.__getattribute__" = "object.__getattribute__" := by decide +kernel
section
variable {prog : Program} {w : World} {A : Around} {E : Value → Shared → Prop} {s : Shared} {e : Addr} {oe od : Obj} {name : Str}
theorem err_method {pl : Sem Bool} {Q : Value × List Value → Shared → Prop} {f : Addr} (X : (Mine.hd.heap_39 w.params).In s.heap) (I : InstAt s.heap e oe 87 (some od)) (hga : findIn (Mine.hd.heap_39 w.params) (.ref 87) "__getattribute__" = some (some (.builtin "BaseException.__getattribute__"))) (hk : findIn (Mine.hd.heap_39 w.params) (.ref 87) "__getattr__" = some none)
    (hf : findIn (Mine.hd.heap_39 w.params) (.ref 87) name = some (some (.ref f))) (ht : typeIn (Mine.hd.heap_39 w.params) (.ref f) = some (.type "function")) (hs : lookIn name od = some none) (h : Q (.ref f, [.ref e]) s) :
    wpAny (model prog w) A (getMethod (.ref e) name pl) Q E s := by
  have hcan := canon_bga
  unfold getMethod specialOf
  refine wpAny_bind (wpAny_bind (I.type.here ((looks_findIn X hga).here ?_)))
  dsimp only
  rw [hcan, if_neg (by decide)]
  refine wpAny_bind (wpAny_bind (I.type.here ((looks_findIn X hk).here ?_)))
  refine wpAny_bind (wpAny_bind (I.type.here ((looks_findIn X hf).here (wpAny_bind ((looks_typeIn X ht).here ?_)))))
  rw [if_neg (by decide +kernel)]
  refine wpAny_bind (wpAny_loadPart I.at_ ?_)
  have hd := I.dict
  cases q : oe.dict with
  | none => exact wpAny_bind (wpAny_rule (wpAny_pure h))
  | some dx =>
    rw [q] at hd
    refine wpAny_bind (wpAny_bind (wpAny_loadPart hd ?_))
    rw [nsLook_of hs]
    exact wpAny_pure (wpAny_bind (wpAny_rule (wpAny_pure h)))
theorem err_get {expr : Bool} {Q : Value → Shared → Prop} {v : Value} (X : (Mine.hd.heap_39 w.params).In s.heap) (I : InstAt s.heap e oe 87 (some od)) (hga : findIn (Mine.hd.heap_39 w.params) (.ref 87) "__getattribute__" = some (some (.builtin "BaseException.__getattribute__"))) (hk : findIn (Mine.hd.heap_39 w.params) (.ref 87) "__getattr__" = some none)
    (hf : findObj (Mine.hd.heap_39 w.params) 87 (some od) name = some (.value v)) (hh : handedIn v = true) (h : ∀ tk, Q v { s with toks := tk }) :
    wpAny (model prog w) A (getAttr (.ref e) name expr) Q E s := by
  obtain ⟨hp, g, d, t, os⟩ := s
  have L0 := I.type (M := model prog w)
  have L1 := looks_findIn (M := model prog w) X hga
  have L2 := looks_findIn (M := model prog w) X hk
  have L3 := looks_find (M := model prog w) X I hf
  have FB := PySem.F.attrBase_Exception
  have f3 := FB.ga.bind (.ref e)
  have hx0 : (expr && onTheHeap (Value.builtin "BaseException.__getattribute__")) = false := by cases expr <;> rfl
  have hx2 : (Value.builtin "BaseException.__getattribute__" == Value.builtin "object.__getattribute__") = false := by decide +kernel
  have hx1 : (onTheHeap (Value.ref 87) && Value.builtin "BaseException.__getattribute__" == Value.builtin "object.__getattribute__") = false := by rw [hx2]; rfl
  unfold getAttr getAttrBy
  refine wpAny_bind (wpAny_mkText (wpAny_holding (wpAny_bind (L0.at (wpAny_bind (L1.at ?_))))))
  dsimp only
  rw [if_neg (by rw [hx1]; decide)]
  unfold getAttrByItsOwn
  repeat (any_goals (first | assumption | with_reducible refine L0.at ?_ | with_reducible refine L2.at ?_ | wp_step))
  have hsub : Looks (model prog w) hp (isInstance (.ref e) (.type "BaseException")) true := I.type.andThen (looks_mroIn X (err_mro rfl))
  have hE := PySem.F.entry_bexc_ga
  refine codeAny_call_builtin FB.ga.plain hE (@check_slot (model prog w) _ _ ⟨hp, g, d, t + 1, os⟩ "BaseException.__getattribute__" "BaseException" "__getattribute__" (.ref e) [.str name t] [] _ (by decide +kernel) (by decide +kernel) hsub (PySem.F.args_bexc_ga _ _) ?_)
  show wpAny _ _ (Builtin.«object.__getattribute__» ⟨[.ref e, .str name t], []⟩) _ _ _
  unfold Builtin.«object.__getattribute__»
  repeat (any_goals (first | assumption | with_reducible refine L0.at ?_ | with_reducible refine L3.at ?_ | wp_step))
  show wpAny _ _ (handedOut v) _ _ _
  rw [handedOut_of hh]
  exact wpAny_pure (h _)
end
theorem err_inst {h₀ h : Heap} {L e D : Addr} {oe od : Obj} {ws : Array Value} {news : List (Addr × Obj)} (N : News h₀ L h news) (h1 : (e, oe) ∈ news) (h2 : (D, od) ∈ news) (c1 : oe.cls = .ref 87) (c2 : oe.dict = some D) (c3 : oe.data = .fields ws) : InstAt h e oe 87 (some od) := by
  refine ⟨(N _ h1).1, c1, ?_, ?_⟩
  · obtain ⟨oc, dd, dt, sl⟩ := oe
    cases c3
    rfl
  · rw [c2]
    exact (N _ h2).1
section
variable {prog : Program} {w : World} {A : Around} {E : Value → Shared → Prop} {s : Shared} {h₀ : Heap} {L e D : Addr} {m : Str → Option Value} {oe : Obj} {ws : Array Value} {news : List (Addr × Obj)} {name : Str} {es : List DictEntry} {n : Nat}
theorem err_method_N {pl : Sem Bool} {Q : Value × List Value → Shared → Prop} {f : Addr} (F : Fr h₀ L s.heap m) (X₀ : (Mine.hd.heap_39 w.params).In h₀) (N : News h₀ L s.heap news) (c1 : oe.cls = .ref 87) (c2 : oe.dict = some D) (c3 : oe.data = .fields ws) (h1 : (e, oe) ∈ news) (h2 : (D, dictOf es n) ∈ news)
    (hga : findIn (Mine.hd.heap_39 w.params) (.ref 87) "__getattribute__" = some (some (.builtin "BaseException.__getattribute__"))) (hk : findIn (Mine.hd.heap_39 w.params) (.ref 87) "__getattr__" = some none)
    (hf : findIn (Mine.hd.heap_39 w.params) (.ref 87) name = some (some (.ref f))) (ht : typeIn (Mine.hd.heap_39 w.params) (.ref f) = some (.type "function")) (hs : getL name es = some none) (h : Q (.ref f, [.ref e]) s) :
    wpAny (model prog w) A (getMethod (.ref e) name pl) Q E s :=
  err_method (X₀.keeps F.keep) (err_inst N h1 h2 c1 c2 c3) hga hk hf ht (by rw [lookIn_dict, hs]) h
theorem err_get_N {expr : Bool} {Q : Value → Shared → Prop} {v : Value} (F : Fr h₀ L s.heap m) (X₀ : (Mine.hd.heap_39 w.params).In h₀) (N : News h₀ L s.heap news) (c1 : oe.cls = .ref 87) (c2 : oe.dict = some D) (c3 : oe.data = .fields ws) (h1 : (e, oe) ∈ news) (h2 : (D, dictOf es n) ∈ news)
    (hga : findIn (Mine.hd.heap_39 w.params) (.ref 87) "__getattribute__" = some (some (.builtin "BaseException.__getattribute__"))) (hk : findIn (Mine.hd.heap_39 w.params) (.ref 87) "__getattr__" = some none)
    (hh : hasDictIn (Mine.hd.heap_39 w.params) 87 = true) (ha : findIn (Mine.hd.heap_39 w.params) (.ref 87) name = some none) (hl : getL name es = some (some v)) (hv : handedIn v = true) (h : ∀ tk, Q v { s with toks := tk }) :
    wpAny (model prog w) A (getAttr (.ref e) name expr) Q E s :=
  err_get (X₀.keeps F.keep) (err_inst N h1 h2 c1 c2 c3) hga hk (findObj_own hh ha rfl (by rw [lookIn_dict, hl])) hv h
end
theorem allLt_sub {d : Addr} {l r : List (Addr × Obj)} (h : AllLt d l) (hs : ∀ p ∈ r, p ∈ l) : ∀ p ∈ r, p.1 ≠ d := fun p hp => allLt_ne h p (hs p hp)
theorem shaped1 {k : Str} (h1 : PyData.strOk k = true) : PySem.SeqAt.shaped (.tuple [.str k, .none]) = true := by
  simp [PySem.SeqAt.shaped, PyData.canLay0, PyData.canLayAll0, PyData.depth, PyData.depthAll, h1]
theorem shaped2 {k x : Str} (h1 : PyData.strOk k = true) (h2 : PyData.strOk x = true) : PySem.SeqAt.shaped (.tuple [.str k, .str x]) = true := by
  simp [PySem.SeqAt.shaped, PyData.canLay0, PyData.canLayAll0, PyData.depth, PyData.depthAll, h1, h2]
theorem shaped3 {k : Str} {i j : Int} (h1 : PyData.strOk k = true) : PySem.SeqAt.shaped (.tuple [.str k, .tuple [.int i, .int j]]) = true := by
  simp [PySem.SeqAt.shaped, PyData.canLay0, PyData.canLayAll0, PyData.depth, PyData.depthAll, h1]
theorem raisable_of {w : World} {E : Value → Shared → Prop} {s : Shared} {h₀ : Heap} {L e t D : Addr} {m : Str → Option Value} {news : List (Addr × Obj)} (F : Fr h₀ L s.heap m) (X₀ : (Mine.hd.heap_39 w.params).In h₀) (N : News h₀ L s.heap news) (h1 : (e, errObj t D) ∈ news) (hE : E (.ref e) s) : RaisableOwn E (.ref e) s := by
  refine cps fun GG kk => ?_
  obtain ⟨hdct, sn, sub, ab, col, k0, k1, k2, k3, k5, hC⟩ := errCls (X₀.keeps F.keep)
  refine kk ?_
  exact ⟨e, t, D, hdct, sn, sub, ab, col, k0, k1, k2, k3, k5, rfl, (N _ h1).1, hC, hE⟩
theorem leave_first_N {M : Model} {A : Around} {E : Value → Shared → Prop} {s' : Shared} {base g : Heap} {outer : List Env} {L e t D : Addr} {m : Str → Option Value} {env : Env} {Q : Unit → Shared → Prop} {led r1 news : List (Addr × Obj)} {vs : List Value}
    (hf : env.frame = some L) (hk : env.scope.kind = .function) (F : Fr g L s'.heap m) (N : News g L s'.heap led) (P1 : Pick (e, errObj t D) led r1) (P2 : Pick (t, { cls := .type "tuple", data := .seq vs.toArray }) r1 news) (K : Below A base outer g) (het : t ≠ e) (ho1 : ∀ q ∈ news, q.1 ≠ e) (ho2 : ∀ q ∈ news, q.1 ≠ t)
    (hQ : ∀ h', RaisedE base g outer e t vs D news h' → g.UpToSlots h' → Q () { s' with heap := h' }) : wpAny M (A.deeper env) (leaving env (.ref e)) Q E s' := by
  refine leave_first K hf hk F (fun q hq => ?_) het ho1 ho2 hQ
  rcases List.mem_cons.mp hq with rfl | hq
  · exact N _ P1.mem
  · rcases List.mem_cons.mp hq with rfl | hq
    · exact N _ (P1.sub _ P2.mem)
    · exact N _ (P1.sub _ (P2.sub _ hq))
theorem fin_b {Q : Value → Shared → Prop} {s : Shared} {b b' : Bool} (e : b = b') (h : Q (.bool b') s) : Q (.bool b) s := e ▸ h
theorem is_sign_c {prog : Program} {w : World} {p : Program} {loose : List Str} {mean : ExcName → Option Value} {mg mb : Str → Option Value}
  {dp un : Nat} {gd : Option (List Code)} {cn : Str} {cs : Scope} {a0 : Addr} {ccd : Value} {cl : List (Str × Addr)} {outer : List Env} {A₀ : Around} {base h₀ : Heap} {L : Addr} {m : Str → Option Value} {s : Shared} {Q E : Value → Shared → Prop}
  {a d pl : Addr} {a1 a2 a3 a4 b1 b2 b3 : Tok} {r : Row} {x : Str} {u : Tok} {news : List (Addr × Obj)}
  (B : Below A₀ base outer h₀) (F : Fr h₀ L s.heap m) (X : (Mine.hd.heap_39 w.params).In h₀) (N₀ : News h₀ L s.heap news) (T : Top p loose mean mg mb h₀) (hk : cs.kind = .function)
  (h1 : (a, instObj 127 d) ∈ news) (h2 : (d, tokDict w.params a1 a2 a3 a4 b1 b2 b3 r pl) ∈ news)
  (hd : dp + 1 < recursionLimit) (_ : un + 8 < cLine)
  (ret : ∀ h' tk', Fr h₀ L h' m → News h₀ L h' news → Q (.bool (r.kind == PySem.Str.ofString "sign" && r.text == x)) {s with heap := h', toks := tk'}) :
  wpAny (model prog w) (ktrTop dp un gd cn cs L a0 ccd cl outer) (call (.ref 110) [.ref a, .str x u]) Q E s := by
  have N : News h₀ L s.heap ((a, instObj 127 d) :: (d, tokDict w.params a1 a2 a3 a4 b1 b2 b3 r pl) :: news) := cb_drop N₀ (sub_of_cons h1 (sub_of_cons h2 fun _ h => h))
  refine wpAny_call ?_
  k_extra "my_enter"
  k_steps
  all_goals (refine' fin_b ?e (ret _ _ ?F ?N); (case F => k_asm); (case N => exact cb_drop (by k_asm) (by k_extra "my_sub")); (case e => simp [*]))
theorem peek_c {prog : Program} {w : World} {p : Program} {loose : List Str} {mean : ExcName → Option Value} {mg mb : Str → Option Value}
  {dp un : Nat} {gd : Option (List Code)} {cn : Str} {cs : Scope} {a0 : Addr} {ccd : Value} {cl : List (Str × Addr)} {outer : List Env} {A₀ : Around} {base h₀ : Heap} {L : Addr} {m : Str → Option Value} {s : Shared} {Q E : Value → Shared → Prop}
  {l t c cd tl R : Addr} {at_ : Int} {a1 a2 b1 : Tok} {rest news : List (Addr × Obj)} {rws : List Row}
  (S : Site w.params rest l t c cd tl R rws) (B : Below A₀ base outer h₀) (F : Fr h₀ L s.heap m) (X : (Mine.hd.heap_39 w.params).In h₀) (N₀ : News h₀ L s.heap news) (T : Top p loose mean mg mb h₀) (hk : cs.kind = .function)
  (hc : (cd, curDict w.params a1 a2 b1 tl at_) ∈ news) (hsub : ∀ p ∈ rest, p ∈ news) (ha0 : 0 ≤ at_) (ha1 : at_ < rws.length)
  (hd : dp + 2 < recursionLimit) (hu : un + 16 < cLine)
  (ok : ∀ h' tk' a d pl pd a1' a2' a3' a4' b1' b2' b3' c1' c2' c3' c4', (a, instObj 127 d) ∈ rest → (d, tokDict w.params a1' a2' a3' a4' b1' b2' b3' (rowI rws at_) pl) ∈ rest → (pl, instObj 45 pd) ∈ rest → (pd, placeDict w.params c1' c2' c3' c4' (rowI rws at_)) ∈ rest → Fr h₀ L h' m → News h₀ L h' news → Q (.ref a) {s with heap := h', toks := tk'}) :
  wpAny (model prog w) (ktrTop dp un gd cn cs L a0 ccd cl outer) (call (.ref 152) [.ref c]) Q E s := by
  have N1 : News h₀ L s.heap ((cd, curDict w.params a1 a2 b1 tl at_) :: (c, instObj 225 cd) :: news) := cb_drop N₀ (sub_of_cons hc (sub_of_cons (hsub _ S.cur) fun _ h => h))
  refine wpAny_call ?_
  k_extra "my_enter"
  k_steps
  exact ok _ _ _ _ _ _ _ _ _ _ _ _ _ _ _ _ _ (by assumption) (by assumption) (by assumption) (by assumption) (by k_asm) (cb_drop (by k_asm) (by k_extra "my_sub"))
theorem ahead_1 {x N : Int} (h : x < N) : (if N - 1 < x then N - 1 else x) = x := if_neg (Int.not_lt.mpr (Int.le_sub_one_of_lt h))
theorem ahead_2 {x N : Int} (h : ¬ x < N) : (if N - 1 < x then N - 1 else x) = N - 1 := if_pos (Int.lt_of_lt_of_le sub_hi (Int.not_lt.mp h))
theorem ahead_c {prog : Program} {w : World} {p : Program} {loose : List Str} {mean : ExcName → Option Value} {mg mb : Str → Option Value}
  {dp un : Nat} {gd : Option (List Code)} {cn : Str} {cs : Scope} {a0 : Addr} {ccd : Value} {cl : List (Str × Addr)} {outer : List Env} {A₀ : Around} {base h₀ : Heap} {L : Addr} {m : Str → Option Value} {s : Shared} {Q E : Value → Shared → Prop}
  {l t c cd tl R : Addr} {at_ : Int} {a1 a2 b1 : Tok} {rest news : List (Addr × Obj)} {rws : List Row} {far : Int} {u : Tok}
  (S : Site w.params rest l t c cd tl R rws) (B : Below A₀ base outer h₀) (F : Fr h₀ L s.heap m) (X : (Mine.hd.heap_39 w.params).In h₀) (N₀ : News h₀ L s.heap news) (T : Top p loose mean mg mb h₀) (hk : cs.kind = .function)
  (hc : (cd, curDict w.params a1 a2 b1 tl at_) ∈ news) (hsub : ∀ p ∈ rest, p ∈ news) (ha0 : 0 ≤ at_) (ha1 : at_ < rws.length) (hf0 : 0 ≤ far) (hf1 : far < 100)
  (hd : dp + 2 < recursionLimit) (hu : un + 16 < cLine)
  (ok : ∀ h' tk' a d pl pd a1' a2' a3' a4' b1' b2' b3' c1' c2' c3' c4', (a, instObj 127 d) ∈ rest → (d, tokDict w.params a1' a2' a3' a4' b1' b2' b3' (rowI rws (if (rws.length : Int) - 1 < at_ + far then (rws.length : Int) - 1 else at_ + far)) pl) ∈ rest → (pl, instObj 45 pd) ∈ rest → (pd, placeDict w.params c1' c2' c3' c4' (rowI rws (if (rws.length : Int) - 1 < at_ + far then (rws.length : Int) - 1 else at_ + far))) ∈ rest → Fr h₀ L h' m → News h₀ L h' news → Q (.ref a) {s with heap := h', toks := tk'}) :
  wpAny (model prog w) (ktrTop dp un gd cn cs L a0 ccd cl outer) (call (.ref 159) [.ref c, .int far u]) Q E s := by
  have N1 : News h₀ L s.heap ((cd, curDict w.params a1 a2 b1 tl at_) :: (c, instObj 225 cd) :: news) := cb_drop N₀ (sub_of_cons hc (sub_of_cons (hsub _ S.cur) fun _ h => h))
  refine wpAny_call ?_
  k_extra "my_enter"
  k_steps
  · have e := ahead_1 (x := at_ + far) (N := rws.length) (by assumption)
    exact ok _ _ _ _ _ _ _ _ _ _ _ _ _ _ _ _ _ (by assumption) (by rw [e]; assumption) (by assumption) (by rw [e]; assumption) (by k_asm) (cb_drop (by k_asm) (by k_extra "my_sub"))
  · have e := ahead_2 (x := at_ + far) (N := rws.length) (by assumption)
    exact ok _ _ _ _ _ _ _ _ _ _ _ _ _ _ _ _ _ (by assumption) (by rw [e]; assumption) (by assumption) (by rw [e]; assumption) (by k_asm) (cb_drop (by k_asm) (by k_extra "my_sub"))
theorem sign_c {prog : Program} {w : World} {p : Program} {loose : List Str} {mean : ExcName → Option Value} {mg mb : Str → Option Value}
  {dp un : Nat} {gd : Option (List Code)} {cn : Str} {cs : Scope} {a0 : Addr} {ccd : Value} {cl : List (Str × Addr)} {outer : List Env} {A₀ : Around} {base h₀ : Heap} {L : Addr} {m : Str → Option Value} {s : Shared} {Q E : Value → Shared → Prop}
  {l t c cd tl R : Addr} {at_ : Int} {a1 a2 b1 : Tok} {rest news : List (Addr × Obj)} {rws : List Row} {sg : Str} {u : Tok}
  (S : Site w.params rest l t c cd tl R rws) (B : Below A₀ base outer h₀) (F : Fr h₀ L s.heap m) (X : (Mine.hd.heap_39 w.params).In h₀) (N₀ : News h₀ L s.heap news) (T : Top p loose mean mg mb h₀) (hk : cs.kind = .function)
  (hc : (cd, curDict w.params a1 a2 b1 tl at_) ∈ news) (hsub : ∀ p ∈ rest, p ∈ news) (ha0 : 0 ≤ at_) (ha1 : at_ < rws.length)
  (hd : dp + 3 < recursionLimit) (hu : un + 24 < cLine)
  (ok : ∀ h' tk', Fr h₀ L h' m → News h₀ L h' news → Q (.bool ((rowI rws at_).kind == PySem.Str.ofString "sign" && (rowI rws at_).text == sg)) {s with heap := h', toks := tk'}) :
  wpAny (model prog w) (ktrTop dp un gd cn cs L a0 ccd cl outer) (call (.ref 173) [.ref c, .str sg u]) Q E s := by
  have N1 : News h₀ L s.heap ((cd, curDict w.params a1 a2 b1 tl at_) :: (c, instObj 225 cd) :: news) := cb_drop N₀ (sub_of_cons hc (sub_of_cons (hsub _ S.cur) fun _ h => h))
  refine wpAny_call ?_
  k_extra "my_enter"
  k_steps
  exact ok _ _ (by k_asm) (cb_drop (by k_asm) (by k_extra "my_sub"))
theorem end_c {prog : Program} {w : World} {p : Program} {loose : List Str} {mean : ExcName → Option Value} {mg mb : Str → Option Value}
  {dp un : Nat} {gd : Option (List Code)} {cn : Str} {cs : Scope} {a0 : Addr} {ccd : Value} {cl : List (Str × Addr)} {outer : List Env} {A₀ : Around} {base h₀ : Heap} {L : Addr} {m : Str → Option Value} {s : Shared} {Q E : Value → Shared → Prop}
  {l t c cd tl R : Addr} {at_ : Int} {a1 a2 b1 : Tok} {rest news : List (Addr × Obj)} {rws : List Row}
  (S : Site w.params rest l t c cd tl R rws) (B : Below A₀ base outer h₀) (F : Fr h₀ L s.heap m) (X : (Mine.hd.heap_39 w.params).In h₀) (N₀ : News h₀ L s.heap news) (T : Top p loose mean mg mb h₀) (hk : cs.kind = .function)
  (hc : (cd, curDict w.params a1 a2 b1 tl at_) ∈ news) (hsub : ∀ p ∈ rest, p ∈ news) (ha0 : 0 ≤ at_) (ha1 : at_ < rws.length)
  (hd : dp + 2 < recursionLimit) (hu : un + 16 < cLine)
  (ok : ∀ h' tk', Fr h₀ L h' m → News h₀ L h' news → Q (.bool ((rowI rws at_).kind == PySem.Str.ofString "end")) {s with heap := h', toks := tk'}) :
  wpAny (model prog w) (ktrTop dp un gd cn cs L a0 ccd cl outer) (call (.ref 180) [.ref c]) Q E s := by
  have N1 : News h₀ L s.heap ((cd, curDict w.params a1 a2 b1 tl at_) :: (c, instObj 225 cd) :: news) := cb_drop N₀ (sub_of_cons hc (sub_of_cons (hsub _ S.cur) fun _ h => h))
  refine wpAny_call ?_
  k_extra "my_enter"
  k_steps
  exact ok _ _ (by k_asm) (cb_drop (by k_asm) (by k_extra "my_sub"))
theorem skip_c {prog : Program} {w : World} {p : Program} {loose : List Str} {mean : ExcName → Option Value} {mg mb : Str → Option Value}
  {dp un : Nat} {gd : Option (List Code)} {cn : Str} {cs : Scope} {a0 : Addr} {ccd : Value} {cl : List (Str × Addr)} {outer : List Env} {A₀ : Around} {base h₀ : Heap} {L : Addr} {m : Str → Option Value} {s : Shared} {Q E : Value → Shared → Prop}
  {l t c cd tl R : Addr} {at_ : Int} {a1 a2 b1 : Tok} {rest news : List (Addr × Obj)} {rws : List Row} {r1 : List (Addr × Obj)} {sg : Str} {u : Tok}
  (S : Site w.params rest l t c cd tl R rws) (B : Below A₀ base outer h₀) (F : Fr h₀ L s.heap m) (X : (Mine.hd.heap_39 w.params).In h₀) (N₀ : News h₀ L s.heap news) (T : Top p loose mean mg mb h₀) (hk : cs.kind = .function)
  (P : Pick (cd, curDict w.params a1 a2 b1 tl at_) news r1) (hsub : ∀ p ∈ rest, p ∈ r1) (hoff : ∀ p ∈ r1, p.1 ≠ cd) (ha0 : 0 ≤ at_) (ha1 : at_ < rws.length)
  (hd : dp + 5 < recursionLimit) (hu : un + 40 < cLine)
  (yes : ∀ h' tk' b2, ((rowI rws at_).kind == PySem.Str.ofString "sign" && (rowI rws at_).text == sg) = true → Fr h₀ L h' m → News h₀ L h' ((cd, curDict w.params a1 a2 b2 tl (at_ + 1)) :: r1) → Q (.bool true) {s with heap := h', toks := tk'})
  (no : ∀ h' tk', ((rowI rws at_).kind == PySem.Str.ofString "sign" && (rowI rws at_).text == sg) = false → Fr h₀ L h' m → News h₀ L h' ((cd, curDict w.params a1 a2 b1 tl at_) :: r1) → Q (.bool false) {s with heap := h', toks := tk'}) :
  wpAny (model prog w) (ktrTop dp un gd cn cs L a0 ccd cl outer) (call (.ref 187) [.ref c, .str sg u]) Q E s := by
  have N := P.news N₀
  have offc := S.offc
  have hcur := S.cur
  have N1 : News h₀ L s.heap ((cd, curDict w.params a1 a2 b1 tl at_) :: (c, instObj 225 cd) :: r1) := cb_drop N (sub_of_cons mem_hd (sub_of_cons (mem_tl (hsub _ S.cur)) fun p hp => mem_tl hp))
  refine wpAny_call ?_
  k_extra "my_enter"
  k_steps
  · exact yes _ _ _ (by assumption) (by k_asm) (cb_drop (by k_asm) (by k_extra "my_sub"))
  · exact no _ _ (by assumption) (by k_asm) (cb_drop (by k_asm) (by k_extra "my_sub"))
theorem place_c {prog : Program} {w : World} {p : Program} {loose : List Str} {mean : ExcName → Option Value} {mg mb : Str → Option Value}
  {dp un : Nat} {gd : Option (List Code)} {cn : Str} {cs : Scope} {a0 : Addr} {ccd : Value} {cl : List (Str × Addr)} {outer : List Env} {A₀ : Around} {base h₀ : Heap} {L : Addr} {m : Str → Option Value} {s : Shared} {Q E : Value → Shared → Prop}
  {l t c cd tl R : Addr} {at_ : Int} {a1 a2 b1 : Tok} {rest news : List (Addr × Obj)} {rws : List Row}
  (S : Site w.params rest l t c cd tl R rws) (B : Below A₀ base outer h₀) (F : Fr h₀ L s.heap m) (X : (Mine.hd.heap_39 w.params).In h₀) (N₀ : News h₀ L s.heap news) (T : Top p loose mean mg mb h₀) (hk : cs.kind = .function)
  (hc : (cd, curDict w.params a1 a2 b1 tl at_) ∈ news) (hsub : ∀ p ∈ rest, p ∈ news) (ha0 : 0 ≤ at_) (ha1 : at_ < rws.length)
  (hd : dp + 2 < recursionLimit) (hu : un + 16 < cLine)
  (ok : ∀ h' tk' pl pd c1' c2' c3' c4', (pl, instObj 45 pd) ∈ rest → (pd, placeDict w.params c1' c2' c3' c4' (rowI rws at_)) ∈ rest → Fr h₀ L h' m → News h₀ L h' news → Q (.ref pl) {s with heap := h', toks := tk'}) :
  wpAny (model prog w) (ktrTop dp un gd cn cs L a0 ccd cl outer) (call (.ref 222) [.ref c]) Q E s := by
  have N1 : News h₀ L s.heap ((cd, curDict w.params a1 a2 b1 tl at_) :: (c, instObj 225 cd) :: news) := cb_drop N₀ (sub_of_cons hc (sub_of_cons (hsub _ S.cur) fun _ h => h))
  refine wpAny_call ?_
  k_extra "my_enter"
  k_steps
  exact ok _ _ _ _ _ _ _ _ (by assumption) (by assumption) (by k_asm) (cb_drop (by k_asm) (by k_extra "my_sub"))
theorem RaisedE.sub {base G : Heap} {l : List Env} {e t D : Addr} {vs : List Value} {news news' : List (Addr × Obj)} {h : Heap} (R : RaisedE base G l e t vs D news h) (hs : ∀ p ∈ news', p ∈ news) : RaisedE base G l e t vs D news' h := by
  obtain ⟨⟨⟨B, x1, x2, x3, x4, x5⟩, x6⟩, x7⟩ := R
  exact ⟨⟨⟨B, x1, x2, fun q hq => x3 q (hs q hq), x4, x5⟩, x6⟩, x7⟩
theorem allLt_take {d : Addr} {l r : List (Addr × Obj)} (h : AllLt d l) (hs : ∀ p ∈ r, p ∈ l) : AllLt d r := allLt_of fun p hp => ktn_ltOf h p (hs p hp)
theorem need_c {prog : Program} {w : World} {p : Program} {loose : List Str} {mean : ExcName → Option Value} {mg mb : Str → Option Value}
  {dp un : Nat} {gd : Option (List Code)} {cn : Str} {cs : Scope} {a0 : Addr} {ccd : Value} {cl : List (Str × Addr)} {outer : List Env} {A₀ : Around} {base h₀ : Heap} {L : Addr} {m : Str → Option Value} {s : Shared} {Q E : Value → Shared → Prop}
  {l t c cd tl R : Addr} {at_ : Int} {a1 a2 b1 : Tok} {rest news r1 : List (Addr × Obj)} {rws : List Row} {sg : Str} {u : Tok}
  (S : Site w.params rest l t c cd tl R rws) (B : Below A₀ base outer h₀) (F : Fr h₀ L s.heap m) (X : (Mine.hd.heap_39 w.params).In h₀) (N₀ : News h₀ L s.heap news) (T : Top p loose mean mg mb h₀) (hk : cs.kind = .function)
  (P : Pick (cd, curDict w.params a1 a2 b1 tl at_) news r1) (hsub : ∀ p ∈ rest, p ∈ r1) (hoff : ∀ p ∈ r1, p.1 ≠ cd) (ha0 : 0 ≤ at_) (ha1 : at_ < rws.length) (hsg : sg.length ≤ 100)
  (hd : dp + 8 < recursionLimit) (hu : un + 64 < cLine)
  (ok : ∀ h' tk' b2, ((rowI rws at_).kind == PySem.Str.ofString "sign" && (rowI rws at_).text == sg) = true → Fr h₀ L h' m → News h₀ L h' ((cd, curDict w.params a1 a2 b2 tl (at_ + 1)) :: r1) → Q .none {s with heap := h', toks := tk'})
  (bad : ∀ g' e te vs D ta tb what pl pd c1 c2 c3 c4 h' tk', ((rowI rws at_).kind == PySem.Str.ofString "sign" && (rowI rws at_).text == sg) = false → Fr h₀ L g' m → (pl, instObj 45 pd) ∈ rest → (pd, placeDict w.params c1 c2 c3 c4 (rowI rws at_)) ∈ rest →
    RaisedE base g' (envX cn cs L a0 ccd cl :: outer) e te vs D ((D, errDict w.params ta tb what pl) :: (pl, instObj 45 pd) :: (pd, placeDict w.params c1 c2 c3 c4 (rowI rws at_)) :: (cd, curDict w.params a1 a2 b1 tl at_) :: r1) h' → g'.UpToSlots h' → AllLt e ((cd, curDict w.params a1 a2 b1 tl at_) :: r1) → e < D → E (.ref e) {s with heap := h', toks := tk'}) :
  wpAny (model prog w) (ktrTop dp un gd cn cs L a0 ccd cl outer) (call (.ref 201) [.ref c, .str sg u]) Q E s := by
  have N := P.news N₀
  have offc := S.offc
  have good := S.good
  have hcur := S.cur
  have most := S.good.most
  have N1 : News h₀ L s.heap ((cd, curDict w.params a1 a2 b1 tl at_) :: (c, instObj 225 cd) :: r1) := cb_drop N (sub_of_cons (.head _) (sub_of_cons (.tail _ (hsub _ hcur)) fun p hp => .tail _ hp))
  refine wpAny_call ?_
  k_extra "my_enter"
  k_steps
  · refine' ok _ _ _ ?c ?F ?N
    case c => assumption
    case F => k_asm
    case N => exact cb_drop (by k_asm) (by k_extra "my_sub")
  · refine' bad _ _ _ _ _ _ _ _ _ _ _ _ _ _ _ _ ?c ?F ?m1 ?m2 ?R ?U ?lt ?l
    case c => assumption
    case R => exact RaisedE.sub (by assumption) (by k_extra "my_sub")
    case U => assumption
    case F => assumption
    case m1 => assumption
    case m2 => assumption
    case lt => exact allLt_take (by assumption) (by k_extra "my_sub")
    case l => first | exact Nat.lt_trans (by assumption) (by assumption) | ((refine ltN ?_); omega)
theorem need_end_c {prog : Program} {w : World} {p : Program} {loose : List Str} {mean : ExcName → Option Value} {mg mb : Str → Option Value}
  {dp un : Nat} {gd : Option (List Code)} {cn : Str} {cs : Scope} {a0 : Addr} {ccd : Value} {cl : List (Str × Addr)} {outer : List Env} {A₀ : Around} {base h₀ : Heap} {L : Addr} {m : Str → Option Value} {s : Shared} {Q E : Value → Shared → Prop}
  {l t c cd tl R : Addr} {at_ : Int} {a1 a2 b1 : Tok} {rest news r1 : List (Addr × Obj)} {rws : List Row}
  (S : Site w.params rest l t c cd tl R rws) (B : Below A₀ base outer h₀) (F : Fr h₀ L s.heap m) (X : (Mine.hd.heap_39 w.params).In h₀) (N₀ : News h₀ L s.heap news) (T : Top p loose mean mg mb h₀) (hk : cs.kind = .function)
  (P : Pick (cd, curDict w.params a1 a2 b1 tl at_) news r1) (hsub : ∀ p ∈ rest, p ∈ r1) (hoff : ∀ p ∈ r1, p.1 ≠ cd) (ha0 : 0 ≤ at_) (ha1 : at_ < rws.length) (htext : (rowI rws at_).text.length ≤ 100)
  (hd : dp + 8 < recursionLimit) (hu : un + 64 < cLine)
  (ok : ∀ h' tk' b2, ((rowI rws at_).kind == PySem.Str.ofString "end") = true → Fr h₀ L h' m → News h₀ L h' ((cd, curDict w.params a1 a2 b2 tl at_) :: r1) → Q .none {s with heap := h', toks := tk'})
  (bad : ∀ g' e te vs D ta tb what pl pd c1 c2 c3 c4 h' tk', ((rowI rws at_).kind == PySem.Str.ofString "end") = false → Fr h₀ L g' m → (pl, instObj 45 pd) ∈ rest → (pd, placeDict w.params c1 c2 c3 c4 (rowI rws at_)) ∈ rest →
    RaisedE base g' (envX cn cs L a0 ccd cl :: outer) e te vs D ((D, errDict w.params ta tb what pl) :: (pl, instObj 45 pd) :: (pd, placeDict w.params c1 c2 c3 c4 (rowI rws at_)) :: (cd, curDict w.params a1 a2 b1 tl at_) :: r1) h' → g'.UpToSlots h' → AllLt e ((cd, curDict w.params a1 a2 b1 tl at_) :: r1) → e < D → E (.ref e) {s with heap := h', toks := tk'}) :
  wpAny (model prog w) (ktrTop dp un gd cn cs L a0 ccd cl outer) (call (.ref 208) [.ref c]) Q E s := by
  have N := P.news N₀
  have offc := S.offc
  have good := S.good
  have hcur := S.cur
  have most := S.good.most
  have N1 : News h₀ L s.heap ((cd, curDict w.params a1 a2 b1 tl at_) :: (c, instObj 225 cd) :: r1) := cb_drop N (sub_of_cons (.head _) (sub_of_cons (.tail _ (hsub _ hcur)) fun p hp => .tail _ hp))
  refine wpAny_call ?_
  k_extra "my_enter"
  k_steps
  · refine' ok _ _ _ ?c ?F ?N
    case c => assumption
    case F => k_asm
    case N => exact cb_drop (by k_asm) (by k_extra "my_sub")
  · refine' bad _ _ _ _ _ _ _ _ _ _ _ _ _ _ _ _ ?c ?F ?m1 ?m2 ?R ?U ?lt ?l
    case c => assumption
    case R => exact RaisedE.sub (by assumption) (by k_extra "my_sub")
    case U => assumption
    case F => assumption
    case m1 => assumption
    case m2 => assumption
    case lt => exact allLt_take (by assumption) (by k_extra "my_sub")
    case l => first | exact Nat.lt_trans (by assumption) (by assumption) | ((refine ltN ?_); omega)
theorem name_c {prog : Program} {w : World} {p : Program} {loose : List Str} {mean : ExcName → Option Value} {mg mb : Str → Option Value}
  {dp un : Nat} {gd : Option (List Code)} {cn : Str} {cs : Scope} {a0 : Addr} {ccd : Value} {cl : List (Str × Addr)} {outer : List Env} {A₀ : Around} {base h₀ : Heap} {L : Addr} {m : Str → Option Value} {s : Shared} {Q E : Value → Shared → Prop}
  {l t c cd tl R : Addr} {at_ : Int} {a1 a2 b1 : Tok} {rest news r1 : List (Addr × Obj)} {rws : List Row}
  (S : Site w.params rest l t c cd tl R rws) (B : Below A₀ base outer h₀) (F : Fr h₀ L s.heap m) (X : (Mine.hd.heap_39 w.params).In h₀) (N₀ : News h₀ L s.heap news) (T : Top p loose mean mg mb h₀) (hk : cs.kind = .function)
  (P : Pick (cd, curDict w.params a1 a2 b1 tl at_) news r1) (hsub : ∀ p ∈ rest, p ∈ r1) (hoff : ∀ p ∈ r1, p.1 ≠ cd) (ha0 : 0 ≤ at_) (ha1 : at_ < rws.length)
  (hd : dp + 8 < recursionLimit) (hu : un + 64 < cLine)
  (ok : ∀ h' tk' b2 bt, ((rowI rws at_).kind == PySem.Str.ofString "name") = true → Fr h₀ L h' m → News h₀ L h' ((cd, curDict w.params a1 a2 b2 tl (at_ + 1)) :: r1) → Q (.str (rowI rws at_).text bt) {s with heap := h', toks := tk'})
  (bad : ∀ g' e te vs D ta tb what pl pd c1 c2 c3 c4 h' tk', ((rowI rws at_).kind == PySem.Str.ofString "name") = false → Fr h₀ L g' m → (pl, instObj 45 pd) ∈ rest → (pd, placeDict w.params c1 c2 c3 c4 (rowI rws at_)) ∈ rest →
    RaisedE base g' (envX cn cs L a0 ccd cl :: outer) e te vs D ((D, errDict w.params ta tb what pl) :: (pl, instObj 45 pd) :: (pd, placeDict w.params c1 c2 c3 c4 (rowI rws at_)) :: (cd, curDict w.params a1 a2 b1 tl at_) :: r1) h' → g'.UpToSlots h' → AllLt e ((cd, curDict w.params a1 a2 b1 tl at_) :: r1) → e < D → E (.ref e) {s with heap := h', toks := tk'}) :
  wpAny (model prog w) (ktrTop dp un gd cn cs L a0 ccd cl outer) (call (.ref 215) [.ref c]) Q E s := by
  have N := P.news N₀
  have offc := S.offc
  have good := S.good
  have hcur := S.cur
  have most := S.good.most
  have N1 : News h₀ L s.heap ((cd, curDict w.params a1 a2 b1 tl at_) :: (c, instObj 225 cd) :: r1) := cb_drop N (sub_of_cons (.head _) (sub_of_cons (.tail _ (hsub _ hcur)) fun p hp => .tail _ hp))
  refine wpAny_call ?_
  k_extra "my_enter"
  k_steps
  · refine' bad _ _ _ _ _ _ _ _ _ _ _ _ _ _ _ _ ?c ?F ?m1 ?m2 ?R ?U ?lt ?l
    case c => exact bne_t (by assumption)
    case R => exact RaisedE.sub (by assumption) (by k_extra "my_sub")
    case U => assumption
    case F => assumption
    case m1 => assumption
    case m2 => assumption
    case lt => exact allLt_take (by assumption) (by k_extra "my_sub")
    case l => first | exact Nat.lt_trans (by assumption) (by assumption) | ((refine ltN ?_); omega)
  · refine' ok _ _ _ _ ?c ?F ?N
    case c => exact bne_f (by assumption)
    case F => k_asm
    case N => exact cb_drop (by k_asm) (by k_extra "my_sub")
theorem told_c {prog : Program} {w : World} {p : Program} {loose : List Str} {mean : ExcName → Option Value} {mg mb : Str → Option Value}
  {dp un : Nat} {hd9 : Option Value} {gd : Option (List Code)} {cn : Str} {cs : Scope} {a0 : Addr} {ccd : Value} {cl : List (Str × Addr)} {outer : List Env} {A₀ : Around} {base h₀ : Heap} {L : Addr} {m : Str → Option Value} {s : Shared} {Q E : Value → Shared → Prop}
  {e D pl pd : Addr} {oe : Obj} {ws : Array Value} {ta tb c1 c2 c3 c4 : Tok} {what : Value} {r : Row} {news : List (Addr × Obj)}
  (k1 : oe.cls = .ref 87) (k2 : oe.dict = some D) (k3 : oe.data = .fields ws) (B : Below A₀ base outer h₀) (F : Fr h₀ L s.heap m) (X : (Mine.hd.heap_39 w.params).In h₀) (N₀ : News h₀ L s.heap news) (T : Top p loose mean mg mb h₀) (hk : cs.kind = .function)
  (h1 : (e, oe) ∈ news) (h2 : (D, errDict w.params ta tb what pl) ∈ news) (h3 : (pl, instObj 45 pd) ∈ news) (h4 : (pd, placeDict w.params c1 c2 c3 c4 r) ∈ news)
  (hd : dp + 4 < recursionLimit) (hu : un + 32 < cLine)
  (ret : ∀ T9 h' tk' x1 x2, Fr h₀ L h' m → News h₀ L h' ((T9, { cls := .type "tuple", data := .seq #[.int 7 x1, .int r.col x2] }) :: news) → (∀ p ∈ news, p.1 < T9) → Q (.ref T9) {s with heap := h', toks := tk'}) :
  wpAny (model prog w) ((ktrTop dp un gd cn cs L a0 ccd cl outer).mark hd9) (call (.ref 71) [.ref e]) Q E s := by
  have N : News h₀ L s.heap ((e, oe) :: (D, errDict w.params ta tb what pl) :: (pl, instObj 45 pd) :: (pd, placeDict w.params c1 c2 c3 c4 r) :: news) := cb_drop N₀ (sub_of_cons h1 (sub_of_cons h2 (sub_of_cons h3 (sub_of_cons h4 fun _ h => h))))
  refine wpAny_call ?_
  k_extra "my_enter"
  k_steps
  refine' ret _ _ _ _ _ ?F ?N ?l
  case F => k_asm
  case N => exact cb_drop (by k_asm) (by k_extra "my_sub")
  case l => exact ktn_ltOf (last4 (by assumption))
def InAsk : Prop := 9 = 9
/-- what a thunk tells: a value and the cursor at j, or a ReadError at r -/
def Thunk (prog : Program) (w : World) (p : Program) (loose : List Str) (mean : ExcName → Option Value) (mg mb : Str → Option Value) (base : Heap) (f : Addr) (news r1 : List (Addr × Obj)) (cd tl : Addr) (a1 a2 : Tok) (v : Tok → Value) (j : Int) (good bad : Prop) (r : Row) : Prop :=
  ∀ {dp un : Nat} {gd : Option (List Code)} {cn : Str} {cs : Scope} {L a0 : Addr} {ccd : Value} {cl : List (Str × Addr)} {outer : List Env} {A₀ : Around} {h₀ : Heap} {m : Str → Option Value} {s : Shared} {Q E : Value → Shared → Prop},
  Below A₀ base outer h₀ → Fr h₀ L s.heap m → (Mine.hd.heap_39 w.params).In h₀ → News h₀ L s.heap news → Top p loose mean mg mb h₀ → cs.kind = .function → dp + 12 < recursionLimit → un + 90 < cLine →
  (∀ tv b2 h' tk', good → Fr h₀ L h' m → News h₀ L h' ((cd, curDict w.params a1 a2 b2 tl j) :: r1) → Q (v tv) {s with heap := h', toks := tk'}) →
  (∀ g' e te vs D ta tb what pl pd c1 c2 c3 c4 h' tk', bad → Fr h₀ L g' m → (pl, instObj 45 pd) ∈ news → (pd, placeDict w.params c1 c2 c3 c4 r) ∈ news →
    RaisedE base g' (envX cn cs L a0 ccd cl :: outer) e te vs D ((D, errDict w.params ta tb what pl) :: news) h' → g'.UpToSlots h' → AllLt e news → e < D → E (.ref e) {s with heap := h', toks := tk'}) →
  wpAny (model prog w) (ktrTop dp un gd cn cs L a0 ccd cl outer) (call (.ref f) []) Q E s
def AskMark (_ : Tok → Value) (_ : Int) (_ _ : Prop) (_ : Row) : Prop := True
theorem asked_c {prog : Program} {w : World} {p : Program} {loose : List Str} {mean : ExcName → Option Value} {mg mb : Str → Option Value}
  {dp un : Nat} {gd : Option (List Code)} {cn : Str} {cs : Scope} {a0 : Addr} {ccd : Value} {cl : List (Str × Addr)} {outer : List Env} {A₀ : Around} {base h₀ g₀ : Heap} {L : Addr} {m : Str → Option Value} {s : Shared} {Q E : Value → Shared → Prop}
  {f l t c cd tl R : Addr} {news r1 rest : List (Addr × Obj)} {a1 a2 b1 : Tok} {i j : Int} {v : Tok → Value} {good bad : Prop} {r : Row} {rws : List Row}
  {name qual : Str} {params : Arguments} {body : Expr} {scope : Scope} {clo : List (Str × Addr)} {pm ctv : Value} {c' : Addr}
  (_ : AskMark v j good bad r) (_ : Site w.params rest l t c cd tl R rws) (B : Below A₀ base outer h₀) (F : Fr h₀ L s.heap m) (X : (Mine.hd.heap_39 w.params).In h₀) (N : News h₀ L s.heap news) (T : Top p loose mean mg mb h₀) (hk : cs.kind = .function)
  (_ : Pick (cd, curDict w.params a1 a2 b1 tl i) news r1) (hf : (f, kla_obj name qual params body scope clo pm c' ctv) ∈ news)
  (XB : (Mine.hd.heap_39 w.params).In base) (TB : Top p loose mean mg mb base) (DD : KtsDicts (frs outer) h₀) (T0 : KtsTurn (frs outer) g₀ h₀)
  (hd : dp + 14 < recursionLimit) (hu : un + 100 < cLine)
  (TH : Thunk prog w p loose mean mg mb base f news r1 cd tl a1 a2 v j good bad r)
  (given : ∀ D t1 tv b2 h' tk', good → Fr h₀ L h' m → News h₀ L h' ((D, { cls := .type "tuple", data := .seq #[.str (PySem.Str.ofString "given") t1, v tv] }) :: (cd, curDict w.params a1 a2 b2 tl j) :: r1) → Q (.ref D) {s with heap := h', toks := tk'})
  (refused : ∀ h₀' D T9 t1 x1 x2 h' tk', bad → KtsTurn (frs outer) g₀ h₀' → Fr h₀' L h' m → News h₀' L h' ((D, { cls := .type "tuple", data := .seq #[.str (PySem.Str.ofString "refused") t1, .ref T9] }) :: (T9, { cls := .type "tuple", data := .seq #[.int 7 x1, .int r.col x2] }) :: news) →
    Below A₀ base outer h₀' → (Mine.hd.heap_39 w.params).In h₀' → Top p loose mean mg mb h₀' → KtsDicts (frs outer) h₀' → Q (.ref D) {s with heap := h', toks := tk'}) :
  wpAny (model prog w) (ktrTop dp un gd cn cs L a0 ccd cl outer) (call (.ref 252) [.ref f]) Q E s := by
  have inask : InAsk := rfl
  k_extra "my_ask"
  k_steps
  · exact given _ _ _ _ _ _ (by assumption) (by k_asm) (by k_asm)
  · exact refused _ _ _ _ _ _ _ _ (by assumption) (by assumption) (by k_asm) (cb_drop (by k_asm) (by k_extra "my_sub")) (by assumption) (by assumption) (by assumption) (by assumption)
section
variable {prog : Program} {w : World} {A : Around} {E : Value → Shared → Prop} {s : Shared} {env : Env} {h₀ : Heap} {x : Str} {body : List Stmt} {Q : Flow → Shared → Prop}
theorem own_two {I r : Addr} {own : List (Addr × Obj)} {oI oR : Obj} (h1 : ∀ p ∈ own, p.1 ∈ [I, r]) {h : Heap} (hg : ∀ p ∈ own, h.get? p.1 = some p.2) (hI : h.get? I = some oI) (hR : h.get? r = some oR) :
    ∀ p ∈ own, p = (I, oI) ∨ p = (r, oR) := by
  intro p hp
  obtain ⟨a, o⟩ := p
  have e2 := hg _ hp
  rcases List.mem_cons.mp (h1 _ hp) with e | e
  · obtain rfl : a = I := e
    left; exact Prod.ext rfl (Option.some.inj (e2.symm.trans hI))
  · obtain rfl : a = r := List.mem_singleton.mp e
    right; exact Prod.ext rfl (Option.some.inj (e2.symm.trans hR))
theorem iter_list {L r : Addr} {zs : List Value} {c : Nat} {m₀ : Str → Option Value} {news : List (Addr × Obj)} (J : Nat → (Str → Option Value) → List (Addr × Obj) → Prop)
    (hh : A.handled = none) (hm : ∀ i m led, J i m led → (r, listOf zs.toArray c) ∈ led)
    (F : Fr h₀ L s.heap m₀) (N : News h₀ L s.heap news) (hL : env.locals = L) (hj : J 0 m₀ news)
    (turn : ∀ i v m₁ news₁ h tk I oI, zs[i]? = some v → (∀ p ∈ news₁, p.1 ≠ I) → J i m₁ news₁ → Fr h₀ L h (fun y => if y = x then some v else m₁ y) → News h₀ L h ((I, oI) :: news₁) →
      wpAny (model prog w) A (execs body env) (TurnPost h₀ L I oI (J (i + 1)) { s with heap := h, toks := tk } Q) E { s with heap := h, toks := tk })
    (done : ∀ m₁ news₁ h tk, J zs.length m₁ news₁ → Fr h₀ L h m₁ → News h₀ L h news₁ → Q .next { s with heap := h, toks := tk }) :
    wpAny (model prog w) A (pyIter (.ref r)) (fun it s₂ => LoopAtV prog w A h₀ env x body Q E it s₂) E s := by
  subst hL
  have hr := N _ (hm _ _ _ hj)
  have hl : s.heap.IsList r zs.toArray := ⟨_, hr.1, rfl, c, rfl⟩
  have hlt : r < s.heap.objs.size := Heap.lt_size hr.1
  refine wpAny_pyIter_list hl ?_
  have W := Walks.list (prog := prog) (w := w) hh s.heap.objs.size r (Nat.ne_of_lt hlt) zs.toArray
  have up : ∀ b o, s.heap.get? b = some o → (s.heap.push { cls := .type "list_iterator", data := .fields #[.ref r, .int 0 0] }).get? b = some o := fun b o e => Heap.get?_push_of_some _ e
  refine ⟨_, _, _, _, _, _, m₀, news, J, rfl, W, ?_, ?_, ?_, ⟨⟨_, Heap.get?_push_size _ rfl, rfl, rfl⟩, hl.push _⟩, F.push _, (fun p hp => ⟨up _ _ (N p hp).1, (N p hp).2⟩), hj, ?_, ?_⟩
  · intro hq
    rcases List.mem_cons.mp hq with e | e
    · exact absurd F.ns.lt (e ▸ Nat.lt_irrefl _)
    · exact hr.2.1 (List.mem_singleton.mp e).symm
  · intro b hb
    rw [List.mem_singleton.mp hb]
    exact next_is_new F
  · intro p hp hI
    exact absurd (Heap.lt_size (N p hp).1) ((List.mem_singleton.mp hI) ▸ Nat.lt_irrefl _)
  · intro i v m₁ news₁ s₁ own hs1 hin hv hJ hoff hown hget hfp hst F₁ N₁
    refine cps fun GG kk => ?_
    obtain ⟨hh', tk', rfl⟩ := hs1
    refine kk ?_
    have hI0 : h₀.get? s.heap.objs.size = none := next_is_new F
    obtain ⟨oI, hoI, -⟩ := hst.1
    have hIown : (s.heap.objs.size, oI) ∈ own := hfp _ (.head _) hI0 _ hoI
    have hR := N₁ _ (List.mem_append.mpr (.inr (hm _ _ _ hJ)))
    have hall := own_two hown hget hoI hR.1
    have N₂ : News h₀ env.locals hh' ((s.heap.objs.size, oI) :: news₁) := fun p hp => N₁ p ((List.mem_cons.mp hp).elim (fun h => List.mem_append.mpr (.inl (h ▸ hIown))) fun h => List.mem_append.mpr (.inr h))
    refine wpAny_mono (turn i v m₁ news₁ hh' tk' _ oI (by simpa using hv) (fun p hp e => hoff p hp (List.mem_singleton.mpr e)) hJ F₁ N₂) (fun f s₂ p => ?_) fun _ _ e => e
    have fin : TurnEnd h₀ env.locals s.heap.objs.size oI (J (i + 1)) { s with heap := hh', toks := tk' } s₂ → LoopStepU h₀ env.locals [s.heap.objs.size] own (J (i + 1)) { s with heap := hh', toks := tk' } .next s₂ := by
      rintro ⟨h', tk, m', news', e, F', N', ha, hj'⟩
      refine ⟨rfl, h', tk, m', news', e, F', fun p hp => N' p ?_, fun p hp hq => ha p hp (List.mem_singleton.mp hq), hj'⟩
      rcases List.mem_append.mp hp with hp | hp
      · rcases hall p hp with rfl | rfl
        · exact .head _
        · exact .tail _ (hm _ _ _ hj')
      · exact .tail _ hp
    cases f with
    | ret v => exact .ret p
    | brk => exact .brk p
    | next => exact .next (fin p)
    | cont => exact .cont (fin p)
  · rintro h' tk m' news' F' N' _ hJ
    exact done m' news' h' tk (by simpa using hJ) F' N'
end
theorem RowsAt.drop {led : List (Addr × Obj)} {vs : List Value} {rs : List Row} (h : RowsAt led vs rs) (k : Nat) : RowsAt led (vs.drop k) (rs.drop k) := by
  refine ⟨by rw [List.length_drop, List.length_drop, h.len], fun i v r a b => ?_⟩
  rw [List.getElem?_drop] at a b
  exact h.at_ _ v r a b
section
variable {prog : Program} {w : World} {A : Around} {E : Value → Shared → Prop} {s : Shared} {h₀ : Heap} {L : Addr} {m : Str → Option Value} {news rest : List (Addr × Obj)} {l t c cd tl R : Addr} {rws : List Row}
theorem rows_slice {value slice : PySem.Expr} {k : Int} {u : Tok} {Q : Value → Shared → Prop} (S : Site w.params rest l t c cd tl R rws) (F : Fr h₀ L s.heap m) (N : News h₀ L s.heap news) (hsub : ∀ p ∈ rest, p ∈ news) (h0 : 0 ≤ k)
    (h : ∀ D zs h', Fr h₀ L h' m → News h₀ L h' ((D, listOf (List.toArray zs) 0) :: news) → (∀ p ∈ news, p.1 < D) → RowsAt rest zs (rws.drop k.toNat) → Q (.ref D) { s with heap := h' })
    (hs : subscripted slice false (.ref R) (.ref s.heap.objs.size) = operate [.ref s.heap.objs.size, .ref R] (getItem (.ref R) (.ref s.heap.objs.size))) (ht : ∀ r, letTemporaryGo value (.ref R) r = pure ()) :
    wpAny (model prog w) A (subscriptTail value slice (.ref R) (.ref s.heap.objs.size)) Q E { s with heap := s.heap.push { cls := .type "slice", data := .fields #[.int k u, .none, .none] } } := by
  obtain ⟨vs, nR, y1, y2⟩ := S.rows
  have hl : s.heap.IsList R vs.toArray := ⟨_, (N _ (hsub _ y1)).1, rfl, nR, rfl⟩
  have most := S.good.most
  refine kmk_slice F N hl (lo := some k) (hi := none) (.int _ _) .none (fun D h' F' N' l1 => h D (vs.drop k.toNat) h' F' ?_ l1 (y2.drop _)) hs ht (by rw [List.size_toArray, sizeLine_eq, y2.len]; omega)
  have ek : k = (k.toNat : Int) := by omega
  rw [ek, slicePick_from' vs.toArray k.toNat] at N'
  simpa using N'
end
def InLaw : Prop := 3 = 3
def AtRows : Prop := 4 = 4
def AtCursor : Prop := 5 = 5
def AtAt : Prop := 6 = 6
theorem law_tape {h₀ h : Heap} {L t l : Addr} {tk : Tok} {n c : Nat} {vs : List Value} {ys : List Int} {z : Int} {r : List (Addr × Obj)} (_ : News h₀ L h ((t, listOf #[.ref l, .int 0 tk] n) :: (l, listOf vs.toArray c) :: r)) (hi : IntsAre vs (ys ++ [z])) (he : ys.length ≤ 50) : TapeIn [(l, listOf vs.toArray c)] l := by
  have e := hi.length
  have e2 : (ys ++ [z]).length = ys.length + 1 := by simp
  exact ⟨c, vs, _, mem_hd, hi, e, by omega, by omega⟩
def Stage1 (rest : List (Addr × Obj)) (l t R : Addr) (rws : List Row) : Prop :=
  (TapeIn rest l) ∧
  (∃ vs nR, (R, listOf (List.toArray vs) nR) ∈ rest ∧ RowsAt rest vs rws) ∧
  (∀ p ∈ rest, p.1 ≠ t) ∧
  (∀ p ∈ rest, p.1 ≠ 254) ∧
  (t ≠ 254) ∧
  (RowsGood rws)
theorem Stage1.of {rest : List (Addr × Obj)} {l t R : Addr} {rws : List Row} (h : (TapeIn rest l) ∧ (∃ vs nR, (R, listOf (List.toArray vs) nR) ∈ rest ∧ RowsAt rest vs rws) ∧ (∀ p ∈ rest, p.1 ≠ t) ∧ (∀ p ∈ rest, p.1 ≠ 254) ∧ (t ≠ 254) ∧ (RowsGood rws)) : Stage1 rest l t R rws := h
theorem Stage1.tape {rest : List (Addr × Obj)} {l t R : Addr} {rws : List Row} (h : Stage1 rest l t R rws) : TapeIn rest l := h.1
theorem Stage1.rows {rest : List (Addr × Obj)} {l t R : Addr} {rws : List Row} (h : Stage1 rest l t R rws) : ∃ vs nR, (R, listOf (List.toArray vs) nR) ∈ rest ∧ RowsAt rest vs rws := h.2.1
theorem Stage1.offt {rest : List (Addr × Obj)} {l t R : Addr} {rws : List Row} (h : Stage1 rest l t R rws) : ∀ p ∈ rest, p.1 ≠ t := h.2.2.1
theorem Stage1.offg {rest : List (Addr × Obj)} {l t R : Addr} {rws : List Row} (h : Stage1 rest l t R rws) : ∀ p ∈ rest, p.1 ≠ 254 := h.2.2.2.1
theorem Stage1.tg {rest : List (Addr × Obj)} {l t R : Addr} {rws : List Row} (h : Stage1 rest l t R rws) : t ≠ 254 := h.2.2.2.2.1
theorem Stage1.good {rest : List (Addr × Obj)} {l t R : Addr} {rws : List Row} (h : Stage1 rest l t R rws) : RowsGood rws := h.2.2.2.2.2
theorem law_stage {h₀ h : Heap} {L t l R : Addr} {k : Int} {tk : Tok} {n nR : Nat} {vs : List Value} {rws : List Row} {st r0 r1 : List (Addr × Obj)} (G : RowsGot st vs rws) (o1 : ∀ p ∈ st ++ r0, p.1 ≠ t) (o2 : ∀ p ∈ st ++ r0, p.1 ≠ R) (oA : Apart st r0) (hne : t ≠ R)
    (N : News h₀ L h ((t, tapeObj l k tk n) :: (R, listOf vs.toArray nR) :: (st ++ r0))) (P : Pick (254, tabObj #[]) r0 r1) (hT : TapeIn r1 l) (hg : ∀ p ∈ r1, p.1 ≠ 254) :
    ∃ rest, News h₀ L h ((t, tapeObj l k tk n) :: (254, tabObj #[]) :: rest) ∧ Stage1 rest l t R rws := by
  have hm : (254, tabObj #[]) ∈ st ++ r0 := List.mem_append.mpr (.inr P.mem)
  have hs : ∀ p ∈ st ++ r1, p ∈ st ++ r0 := sub_of_app (sub_appL fun _ h => h) (sub_appR P.sub)
  refine ⟨(R, listOf vs.toArray nR) :: (st ++ r1), cb_drop N (sub_of_cons mem_hd (sub_of_cons (mem_tl (mem_tl hm)) (sub_of_cons (mem_tl mem_hd) (sub_cons (sub_cons hs))))), ?_, ?_, ?_, ?_, ?_, G.good⟩
  · exact hT.mono (sub_cons (sub_appR fun _ h => h))
  · exact ⟨vs, nR, mem_hd, G.at_.mono (sub_cons (sub_appL fun _ h => h))⟩
  · exact List.forall_mem_cons.mpr ⟨Ne.symm hne, fun p hp => o1 p (hs p hp)⟩
  · refine List.forall_mem_cons.mpr ⟨fun e => o2 _ hm e.symm, forall_app (fun p hp e => oA p hp _ P.mem e.symm) hg⟩
  · exact fun e => o1 _ hm e.symm
/-- what the comprehension of the tokens keeps -/
def TokJ (P : Params) (base : List (Addr × Obj)) (rws : List Row) (i : Nat) (ys : List Value) (led : List (Addr × Obj)) : Prop :=
  ∃ toks, led = toks ++ base ∧ ToksAt P toks ys (rws.take i) ∧ ys.length = i ∧ Apart toks base
theorem RowsAt.get {led : List (Addr × Obj)} {vs : List Value} {rs : List Row} (h : RowsAt led vs rs) {i : Nat} (hi : i < vs.length) : ∃ a t1 t2 t3, vs[i]? = some (.ref a) ∧ i < rs.length ∧ (a, rowObj (rs.getD i ⟨endS, Str.ofString "", 0⟩) t1 t2 t3) ∈ led := by
  have hv : vs[i]? = some vs[i] := List.getElem?_eq_getElem hi
  have hi2 : i < rs.length := h.len ▸ hi
  refine cps fun GG kk => ?_
  obtain ⟨a, t1, t2, t3, e, hm⟩ := h.at_ i _ _ hv (List.getElem?_eq_getElem hi2)
  refine kk ?_
  refine ⟨a, t1, t2, t3, by rw [hv, e], hi2, ?_⟩
  rw [List.getD_eq_getElem?_getD, List.getElem?_eq_getElem hi2]
  exact hm
section
open PyProof.Rows.LCg
variable {prog : Program} {w : World} {A : Around} {E : Value → Shared → Prop} {h₀ : Heap} {L : Addr} {m : Str → Option Value} {env : Env}
theorem src_rows {elt : PySem.Expr} {x y z : Str} {scope : Scope} {cl : List (Str × Addr)} {Q : Value → Shared → Prop} {s₁ : Shared} {R l t : Addr} {k : Int} {tkk : Tok} {n : Nat} {rest : List (Addr × Obj)} {rws : List Row}
    (S1 : Stage1 rest l t R rws) (hh : A.handled = none) (F : Fr h₀ L s₁.heap m) (N : News h₀ L s₁.heap ((t, tapeObj l k tkk n) :: (254, tabObj #[]) :: rest))
    (turn : ∀ i ys toks aR t1 t2 t3 its, i < rws.length → ToksAt w.params toks ys (rws.take i) → ys.length = i → Apart toks ((t, tapeObj l k tkk n) :: (254, tabObj #[]) :: rest) → (aR, rowObj (rowI rws i) t1 t2 t3) ∈ rest → (∀ nw, (∀ p ∈ rest, p ∈ nw) → SrcAt h₀ R its nw) →
      ∀ I oI C oC D m₂ h tk (E' : Value → Shared → Prop), NsObj oC m₂ → m₂ x = some (.str (rowI rws i).kind t1) → m₂ y = some (.str (rowI rws i).text t2) → m₂ z = some (.int (rowI rws i).col t3) → Fr h₀ L h m → News h₀ L h ((I, oI) :: (C, oC) :: (D, lst ys) :: (toks ++ ((t, tapeObj l k tkk n) :: (254, tabObj #[]) :: rest))) →
        Off3 I C D (toks ++ ((t, tapeObj l k tkk n) :: (254, tabObj #[]) :: rest)) → ((@Ne Nat I C) ∧ (@Ne Nat I D) ∧ (@Ne Nat C D)) →
        wpAny (model prog w) A (eval elt (compEnvC scope cl C env)) (CompEnd h₀ L m { s₁ with heap := h, toks := tk } I oI C oC D (lst ys) (SrcAt h₀ R its) (fun v news' => TokJ w.params ((t, tapeObj l k tkk n) :: (254, tabObj #[]) :: rest) rws (i + 1) (ys ++ [v]) news')) E' { s₁ with heap := h, toks := tk })
    (fin : ∀ D ys toks h tk, ToksAt w.params toks ys rws → Apart toks ((t, tapeObj l k tkk n) :: (254, tabObj #[]) :: rest) → Fr h₀ L h m → News h₀ L h ((D, lst ys) :: (toks ++ ((t, tapeObj l k tkk n) :: (254, tabObj #[]) :: rest))) → (∀ p ∈ toks ++ ((t, tapeObj l k tkk n) :: (254, tabObj #[]) :: rest), p.1 ≠ D) → Q (.ref D) { s₁ with heap := h, toks := tk }) :
    Src3 prog w A h₀ L m env elt x y z scope cl Q (.ref R) s₁ := by
  obtain ⟨vs, nR, hm, hRA⟩ := S1.rows
  have most := S1.good.most
  have hlen := hRA.len
  refine Src3.of (its := vs.toArray) (J := TokJ w.params ((t, tapeObj l k tkk n) :: (254, tabObj #[]) :: rest) rws) hh F N (.inr ⟨_, mem_tl (mem_tl hm), rfl, _, rfl⟩) (by rw [List.size_toArray, sizeLine_eq, hlen]; exact Nat.le_trans most (by decide)) ⟨[], rfl, .nil, rfl, .nil⟩ ?_ ?_
  · intro g i ys led hi hJ0
    refine cps fun GG kk => ?_
    obtain ⟨toks, rfl, hta, hyl, hap⟩ := hJ0
    refine kk ?_
    have hi' : i < vs.length := by simpa using hi
    obtain ⟨aR, t1, t2, t3, hv, hir, hmR⟩ := hRA.get hi'
    refine ⟨aR, _, _, _, by simpa using hv, List.mem_append.mpr (.inr (mem_tl (mem_tl hmR))), ?_⟩
    exact turn i ys toks aR t1 t2 t3 _ hir hta hyl hap hmR fun nw hs => .inr ⟨_, hs _ hm, rfl, _, rfl⟩
  · rintro D ys led h tk ⟨toks, rfl, hta, hyl, hap⟩ F' N' off
    refine fin D ys toks h tk ?_ hap F' N' off
    have e : rws.take vs.toArray.size = rws := by rw [List.size_toArray, hlen, List.take_length]
    rw [e] at hta
    exact hta
theorem take_row {rws : List Row} {i : Nat} (h : i < rws.length) : rws.take (i + 1) = rws.take i ++ [rowI rws i] := by
  unfold rowI
  rw [List.take_succ, List.getElem?_eq_getElem h, Int.toNat_natCast, List.getD_eq_getElem?_getD, List.getElem?_eq_getElem h]; rfl
theorem tok_end {P : Params} {s₁ : Shared} {I C D T dT pl pd : Addr} {oI oC : Obj} {ys : List Value} {its : Array Value} {R : Addr} {led toks base rest : List (Addr × Obj)} {rws : List Row} {i : Nat} {h' : Heap} {tk : Nat} {a1 a2 a3 a4 b1 b2 b3 c1 c2 c3 c4 : Tok}
    (hS : ∀ nw, (∀ p ∈ rest, p ∈ nw) → SrcAt h₀ R its nw) (hrest : ∀ p ∈ rest, p ∈ base) (hi : i < rws.length) (hta : ToksAt P toks ys (rws.take i)) (hyl : ys.length = i) (hap : Apart toks base) (off : Off3 I C D (toks ++ base))
    (F : Fr h₀ L h' m) (N : News h₀ L h' led) (h1 : (T, instObj 127 dT) ∈ led) (h2 : (dT, tokDict P a1 a2 a3 a4 b1 b2 b3 (rowI rws i) pl) ∈ led) (h3 : (pl, instObj 45 pd) ∈ led) (h4 : (pd, placeDict P c1 c2 c3 c4 (rowI rws i)) ∈ led)
    (hI : (I, oI) ∈ led) (hC : (C, oC) ∈ led) (hD : (D, lst ys) ∈ led) (hr : ∀ p ∈ toks ++ base, p ∈ led)
    (n1 : ∀ p ∈ (I, oI) :: (C, oC) :: (D, lst ys) :: (toks ++ base), p.1 < T) (n2 : ∀ p ∈ (I, oI) :: (C, oC) :: (D, lst ys) :: (toks ++ base), p.1 < dT) (n3 : ∀ p ∈ (I, oI) :: (C, oC) :: (D, lst ys) :: (toks ++ base), p.1 < pl) (n4 : ∀ p ∈ (I, oI) :: (C, oC) :: (D, lst ys) :: (toks ++ base), p.1 < pd) :
    CompEnd h₀ L m s₁ I oI C oC D (lst ys) (SrcAt h₀ R its) (fun v news' => TokJ P base rws (i + 1) (ys ++ [v]) news') (.ref T) { s₁ with heap := h', toks := tk } := by
  have ne : ∀ {a : Addr}, (∀ p ∈ (I, oI) :: (C, oC) :: (D, lst ys) :: (toks ++ base), p.1 < a) → a ≠ I ∧ a ≠ C ∧ a ≠ D := fun h => ⟨Nat.ne_of_gt (h (I, oI) mem_hd), Nat.ne_of_gt (h (C, oC) (mem_tl mem_hd)), Nat.ne_of_gt (h (D, lst ys) (mem_tl (mem_tl mem_hd)))⟩
  have nb : ∀ {a : Addr}, (∀ p ∈ (I, oI) :: (C, oC) :: (D, lst ys) :: (toks ++ base), p.1 < a) → ∀ q ∈ base, q.1 ≠ a := fun h q hq => Nat.ne_of_lt (h q (mem_tl (mem_tl (mem_tl (List.mem_append.mpr (.inr hq))))))
  have sub : ∀ p ∈ toks, p ∈ (T, instObj 127 dT) :: (dT, tokDict P a1 a2 a3 a4 b1 b2 b3 (rowI rws i) pl) :: (pl, instObj 45 pd) :: (pd, placeDict P c1 c2 c3 c4 (rowI rws i)) :: toks := fun p hp => mem_tl (mem_tl (mem_tl (mem_tl hp)))
  refine CompEnd.intro F N (((T, instObj 127 dT) :: (dT, tokDict P a1 a2 a3 a4 b1 b2 b3 (rowI rws i) pl) :: (pl, instObj 45 pd) :: (pd, placeDict P c1 c2 c3 c4 (rowI rws i)) :: toks) ++ base) ?_ ?_ (hS _ fun p hp => List.mem_append.mpr (.inr (hrest p hp))) ?_
  · exact sub_of_cons hI (sub_of_cons hC (sub_of_cons hD (sub_of_cons h1 (sub_of_cons h2 (sub_of_cons h3 (sub_of_cons h4 hr))))))
  · exact ⟨ne n1, ne n2, ne n3, ne n4, off⟩
  · refine ⟨_, rfl, ?_, by rw [List.length_append, hyl]; rfl, .cons (nb n1) (.cons (nb n2) (.cons (nb n3) (.cons (nb n4) hap)))⟩
    rw [take_row hi]
    exact (hta.mono sub).snoc ⟨T, dT, pl, pd, a1, a2, a3, a4, b1, b2, b3, c1, c2, c3, c4, rfl, ⟨mem_hd, mem_tl mem_hd, mem_tl (mem_tl mem_hd), mem_tl (mem_tl (mem_tl mem_hd))⟩⟩
end
theorem allLt_mem {a : Addr} {l : List (Addr × Obj)} (h : AllLt a l) : ∀ p ∈ l, p.1 < a := fun p hp => ktn_ltOf h p hp
theorem allLt_up {a b : Addr} {l : List (Addr × Obj)} (h : AllLt a l) (hab : a < b) : AllLt b l := allLt_of fun p hp => Nat.lt_trans (ktn_ltOf h p hp) hab
theorem law_site {P : Params} {h₀ h' : Heap} {L t l R c cd tl : Addr} {k : Int} {tkk a1 a2 b : Tok} {n : Nat} {i : Int} {ys : List Value} {rest toks led : List (Addr × Obj)} {rws : List Row}
    (S1 : Stage1 rest l t R rws) (hta : ToksAt P toks ys rws) (hap : Apart toks ((t, tapeObj l k tkk n) :: (254, tabObj #[]) :: rest)) (off : ∀ p ∈ toks ++ ((t, tapeObj l k tkk n) :: (254, tabObj #[]) :: rest), p.1 ≠ tl)
    (N : News h₀ L h' led) (hc : (c, instObj 225 cd) ∈ led) (hcd : (cd, curDict P a1 a2 b tl i) ∈ led) (htl : (tl, PyProof.Rows.LCg.lst ys) ∈ led) (hr : ∀ p ∈ toks ++ ((t, tapeObj l k tkk n) :: (254, tabObj #[]) :: rest), p ∈ led)
    (q1 : tl < cd) (q2 : AllLt cd (toks ++ ((t, tapeObj l k tkk n) :: (254, tabObj #[]) :: rest))) (q3 : cd < c) :
    ∃ rest', News h₀ L h' ((t, tapeObj l k tkk n) :: (cd, curDict P a1 a2 b tl i) :: (254, tabObj #[]) :: rest') ∧ Site P rest' l t c cd tl R rws := by
  have bt : (t, tapeObj l k tkk n) ∈ toks ++ ((t, tapeObj l k tkk n) :: (254, tabObj #[]) :: rest) := List.mem_append.mpr (.inr mem_hd)
  have bg : (254, tabObj #[]) ∈ toks ++ ((t, tapeObj l k tkk n) :: (254, tabObj #[]) :: rest) := List.mem_append.mpr (.inr (mem_tl mem_hd))
  have hs : ∀ p ∈ toks ++ rest, p ∈ toks ++ ((t, tapeObj l k tkk n) :: (254, tabObj #[]) :: rest) := sub_of_app (sub_appL fun _ h => h) (sub_appR (sub_cons (sub_cons fun _ h => h)))
  have ltd : ∀ p ∈ toks ++ ((t, tapeObj l k tkk n) :: (254, tabObj #[]) :: rest), p.1 < cd := fun p hp => ktn_ltOf q2 p hp
  have hta' : ToksAt P ((c, instObj 225 cd) :: (tl, PyProof.Rows.LCg.lst ys) :: (toks ++ rest)) ys rws := hta.mono (sub_cons (sub_cons (sub_appL fun _ h => h)))
  obtain ⟨vs, nR, hm, hRA⟩ := S1.rows
  refine ⟨(c, instObj 225 cd) :: (tl, PyProof.Rows.LCg.lst ys) :: (toks ++ rest), fun p hp => N p (sub_of_cons (hr _ bt) (sub_of_cons hcd (sub_of_cons (hr _ bg) (sub_of_cons hc (sub_of_cons htl fun p hp => hr p (hs p hp))))) p hp), ?_⟩
  refine ⟨S1.tape.mono (sub_cons (sub_cons (sub_appR fun _ h => h))), mem_hd, ⟨ys, _, mem_tl mem_hd, hta'⟩, ⟨vs, nR, mem_tl (mem_tl (List.mem_append.mpr (.inr hm))), hRA.mono (sub_cons (sub_cons (sub_appR fun _ h => h)))⟩, ?_, ?_, ?_, Nat.ne_of_lt (ltd _ bt), S1.tg, Ne.symm (Nat.ne_of_lt (ltd _ bg)), S1.good⟩
  · refine List.forall_mem_cons.mpr ⟨Nat.ne_of_gt (Nat.lt_trans (ltd _ bt) q3), List.forall_mem_cons.mpr ⟨fun e => off _ bt e.symm, forall_app (fun p hp e => hap p hp _ mem_hd e.symm) S1.offt⟩⟩
  · exact List.forall_mem_cons.mpr ⟨Nat.ne_of_gt q3, List.forall_mem_cons.mpr ⟨Nat.ne_of_lt q1, fun p hp => Nat.ne_of_lt (ltd p (hs p hp))⟩⟩
  · refine List.forall_mem_cons.mpr ⟨Nat.ne_of_gt (Nat.lt_trans (ltd _ bg) q3), List.forall_mem_cons.mpr ⟨fun e => off _ bg e.symm, forall_app (fun p hp e => hap p hp _ (mem_tl mem_hd) e.symm) S1.offg⟩⟩
theorem bool_no {a : Bool} {P : Prop} (h : a = true) (h2 : a = false) : P := by rw [h] at h2; cases h2
theorem kinds_end {rws : List Row} {i : Int} (G : RowsGood rws) (h0 : 0 ≤ i) (h1 : i < rws.length) : (((rowI rws i).kind != PySem.Str.ofString "end") = true ∧ i < (rws.length : Int) - 1) ∨ (((rowI rws i).kind != PySem.Str.ofString "end") = false ∧ i = (rws.length : Int) - 1) := by
  by_cases h : i < (rws.length : Int) - 1
  · exact .inl ⟨by simpa using G.inner i h0 h, h⟩
  · have e : i = (rws.length : Int) - 1 := by omega
    exact .inr ⟨by rw [e]; simpa using G.last, e⟩
theorem take_c {prog : Program} {w : World} {p : Program} {loose : List Str} {mean : ExcName → Option Value} {mg mb : Str → Option Value}
  {dp un : Nat} {gd : Option (List Code)} {cn : Str} {cs : Scope} {a0 : Addr} {ccd : Value} {cl : List (Str × Addr)} {outer : List Env} {A₀ : Around} {base h₀ : Heap} {L : Addr} {m : Str → Option Value} {s : Shared} {Q E : Value → Shared → Prop}
  {l t c cd tl R : Addr} {at_ : Int} {a1 a2 b1 : Tok} {rest news r1 : List (Addr × Obj)} {rws : List Row}
  (S : Site w.params rest l t c cd tl R rws) (B : Below A₀ base outer h₀) (F : Fr h₀ L s.heap m) (X : (Mine.hd.heap_39 w.params).In h₀) (N₀ : News h₀ L s.heap news) (T : Top p loose mean mg mb h₀) (hk : cs.kind = .function)
  (P : Pick (cd, curDict w.params a1 a2 b1 tl at_) news r1) (hsub : ∀ p ∈ rest, p ∈ r1) (hoff : ∀ p ∈ r1, p.1 ≠ cd) (ha0 : 0 ≤ at_) (ha1 : at_ < rws.length)
  (hd : dp + 8 < recursionLimit) (hu : un + 64 < cLine)
  (ok : ∀ h' tk' a d pl pd a1' a2' a3' a4' b1' b2' b3' c1' c2' c3' c4' b2 j, ((at_ < (rws.length : Int) - 1 ∧ j = at_ + 1) ∨ (at_ = (rws.length : Int) - 1 ∧ j = at_)) → (a, instObj 127 d) ∈ rest → (d, tokDict w.params a1' a2' a3' a4' b1' b2' b3' (rowI rws at_) pl) ∈ rest → (pl, instObj 45 pd) ∈ rest → (pd, placeDict w.params c1' c2' c3' c4' (rowI rws at_)) ∈ rest → Fr h₀ L h' m → News h₀ L h' ((cd, curDict w.params a1 a2 b2 tl j) :: r1) → Q (.ref a) {s with heap := h', toks := tk'}) :
  wpAny (model prog w) (ktrTop dp un gd cn cs L a0 ccd cl outer) (call (.ref 166) [.ref c]) Q E s := by
  have N := P.news N₀
  have offc := S.offc
  have good := S.good
  have hcur := S.cur
  have most := S.good.most
  have N1 : News h₀ L s.heap ((cd, curDict w.params a1 a2 b1 tl at_) :: (c, instObj 225 cd) :: r1) := cb_drop N (sub_of_cons (.head _) (sub_of_cons (.tail _ (hsub _ hcur)) fun p hp => .tail _ hp))
  refine wpAny_call ?_
  k_extra "my_enter"
  have hends := kinds_end S.good ha0 ha1
  k_steps
  · have hlt : at_ < (rws.length : Int) - 1 := by
      rcases hends with ⟨_, h⟩ | ⟨h, _⟩
      · exact h
      · exact bool_no (a := (rowI rws at_).kind != PySem.Str.ofString "end") (by assumption) (by assumption)
    exact ok _ _ _ _ _ _ _ _ _ _ _ _ _ _ _ _ _ _ _ (.inl ⟨hlt, rfl⟩) (by assumption) (by assumption) (by assumption) (by assumption) (by k_asm) (cb_drop (by k_asm) (by k_extra "my_sub"))
  · have heq : at_ = (rws.length : Int) - 1 := by
      rcases hends with ⟨h, _⟩ | ⟨_, h⟩
      · exact bool_no (a := (rowI rws at_).kind != PySem.Str.ofString "end") (by assumption) (by assumption)
      · exact h
    exact ok _ _ _ _ _ _ _ _ _ _ _ _ _ _ _ _ _ _ _ (.inr ⟨heq, rfl⟩) (by assumption) (by assumption) (by assumption) (by assumption) (by k_asm) (cb_drop (by k_asm) (by k_extra "my_sub"))
/-- what the loop of the deeds keeps -/
def LawJ (P : Params) (t l c cd tl R : Addr) (n : Nat) (K : Int) (rws : List Row) (i : Nat) (m : Str → Option Value) (led : List (Addr × Obj)) : Prop :=
  ∃ k' tkk at' ta a1 a2 b ps rest, led = (t, tapeObj l k' tkk n) :: (cd, curDict P a1 a2 b tl at') :: (254, tabObj ps) :: rest ∧
    Names m [("tape", .ref t), ("rows", .ref R), ("cursor", .ref c), ("at", .int at' ta)] ∧ Site P rest l t c cd tl R rws ∧ TabOk rest ps ∧ 0 ≤ k' ∧ k' ≤ K + 4 * i ∧ 0 ≤ at' ∧ at' < rws.length
theorem law_turn {P : Params} {h₀ h' : Heap} {L t l c cd tl R I : Addr} {oI : Obj} {n i : Nat} {K k k' at' : Int} {tkk ta a1 a2 b : Tok} {rws : List Row} {m' : Str → Option Value} {ps : Array Value} {rest led : List (Addr × Obj)} {s₁ : Shared} {tk' : Nat}
    (F : Fr h₀ L h' m') (N : News h₀ L h' led) (hn : Names m' [("tape", .ref t), ("rows", .ref R), ("cursor", .ref c), ("at", .int at' ta)]) (S : Site P rest l t c cd tl R rws) (TO : TabOk rest ps)
    (ht : (t, tapeObj l k' tkk n) ∈ led) (hc : (cd, curDict P a1 a2 b tl at') ∈ led) (hg : (254, tabObj ps) ∈ led) (hI : (I, oI) ∈ led) (hr : ∀ p ∈ rest, p ∈ led)
    (e1 : t ≠ I) (e2 : cd ≠ I) (e3 : (254 : Addr) ≠ I) (e4 : ∀ p ∈ rest, p.1 ≠ I) (k0 : 0 ≤ k') (k1 : k' ≤ k + 4) (k2 : k ≤ K + 4 * i) (h0 : 0 ≤ at') (h1 : at' < rws.length) :
    TurnEnd h₀ L I oI (LawJ P t l c cd tl R n K rws (i + 1)) s₁ { s₁ with heap := h', toks := tk' } := by
  refine TurnEnd.intro (news' := (t, tapeObj l k' tkk n) :: (cd, curDict P a1 a2 b tl at') :: (254, tabObj ps) :: rest) F (cb_drop N (sub_of_cons hI (sub_of_cons ht (sub_of_cons hc (sub_of_cons hg hr))))) (List.forall_mem_cons.mpr ⟨e1, List.forall_mem_cons.mpr ⟨e2, List.forall_mem_cons.mpr ⟨e3, e4⟩⟩⟩) ⟨k', tkk, at', ta, a1, a2, b, ps, rest, rfl, hn, S, TO, k0, mul_up k1 k2, h0, h1⟩
abbrev lawNames (t R c : Addr) (at' : Int) (ta : Tok) : List (Str × Value) := [("tape", .ref t), ("rows", .ref R), ("cursor", .ref c), ("at", .int at' ta)]
section
variable {prog : Program} {w : World} {A : Around} {E : Value → Shared → Prop} {s : Shared} {env : Env} {h₀ : Heap} {x : Str} {body : List Stmt} {Q : Flow → Shared → Prop}
theorem law_loop {L r l t c cd tl R : Addr} {k v : Int} {t₀ u₀ v₀ tkk ta a1 a2 b : Tok} {n : Nat} {rws : List Row} {m₀ : Str → Option Value} {rest : List (Addr × Obj)}
    (S : Site w.params rest l t c cd tl R rws) (hh : A.handled = none) (N : News h₀ L s.heap ((t, tapeObj l k tkk n) :: (cd, curDict w.params a1 a2 b tl 0) :: (254, tabObj #[]) :: rest)) (F : Fr h₀ L s.heap m₀)
    (hr : IsRange s.heap r 0 (4 + v) 1 t₀ u₀ v₀) (hv0 : 0 ≤ v) (hv1 : v < 13) (hk0 : 0 ≤ k) (hL : env.locals = L) (hn : Names m₀ (lawNames t R c 0 ta))
    (turn : ∀ (i : Nat) k' tkk at' ta a1 a2 b ps rest m₁ h tk t' I oI, k' ≤ k + 4 * i → i < 17 → Names m₁ (lawNames t R c at' ta) → Site w.params rest l t c cd tl R rws → TabOk rest ps → 0 ≤ k' → 0 ≤ at' → at' < rws.length → t ≠ I → cd ≠ I → (254 : Addr) ≠ I → (∀ p ∈ rest, p.1 ≠ I) →
      Fr h₀ L h (fun y => if y = x then some (.int (0 + (i : Nat)) t') else kstB m₁ (lawNames t R c at' ta) y) → News h₀ L h ((t, tapeObj l k' tkk n) :: (cd, curDict w.params a1 a2 b tl at') :: (254, tabObj ps) :: (I, oI) :: rest) →
      wpAny (model prog w) A (execs body env) (TurnPost h₀ L I oI (LawJ w.params t l c cd tl R n k rws (i + 1)) { s with heap := h, toks := tk } Q) E { s with heap := h, toks := tk })
    (done : ∀ k' tkk at' ta a1 a2 b ps rest m₁ h tk, Names m₁ (lawNames t R c at' ta) → Site w.params rest l t c cd tl R rws → 0 ≤ at' → at' < rws.length → Fr h₀ L h (kstB m₁ (lawNames t R c at' ta)) →
      News h₀ L h ((t, tapeObj l k' tkk n) :: (cd, curDict w.params a1 a2 b tl at') :: (254, tabObj ps) :: rest) → Q .next { s with heap := h, toks := tk }) :
    wpAny (model prog w) A (pyIter (.ref r)) (fun it s₂ => LoopAtV prog w A h₀ env x body Q E it s₂) E s := by
  have pos := S.good.pos
  have v17 : 4 + v < ((17 : Nat) : Int) := Int.add_lt_add_left hv1 4
  refine iter_range (LawJ w.params t l c cd tl R n k rws) hh hr (small_one (by decide) (by decide) (Int.le_trans (by decide) (Int.add_nonneg (a := 4) (by decide) hv0)) (Int.lt_trans v17 (by decide))) (rangeSize_nat _ _) F N hL ⟨k, tkk, 0, ta, a1, a2, b, #[], rest, rfl, hn, S, .nil, hk0, kz4, Int.le_refl _, ipos pos⟩ ?_ ?_
  · intro i m₁ news₁ h tk t' I oI hi hnI hJ F' N'
    refine cps fun GG kk => ?_
    obtain ⟨k', tkk, at', ta, a1, a2, b, ps, rest, rfl, hm, S', TO', k0, k1, h0, h1⟩ := hJ
    refine kk ?_
    exact turn i k' tkk at' ta a1 a2 b ps rest m₁ h tk t' I oI k1 (tn_lt hi v17) hm S' TO' k0 h0 h1 (hnI _ mem_hd) (hnI _ (mem_tl mem_hd)) (hnI _ (mem_tl (mem_tl mem_hd))) (fun p hp => hnI p (mem_tl (mem_tl (mem_tl hp)))) (fr_names hm.all F')
      (cb_drop N' (sub_of_cons (mem_tl mem_hd) (sub_of_cons (mem_tl (mem_tl mem_hd)) (sub_of_cons (mem_tl (mem_tl (mem_tl mem_hd))) (sub_of_cons mem_hd (sub_cons (sub_cons (sub_cons (sub_cons fun _ h => h)))))))))
  · intro m₁ news₁ h tk hJ F' N'
    refine cps fun GG kk => ?_
    obtain ⟨k', tkk, at', ta, a1, a2, b, ps, rest, rfl, hm, S', TO', k0, k1, h0, h1⟩ := hJ
    refine kk ?_
    exact done k' tkk at' ta a1 a2 b ps rest m₁ h tk hm S' h0 h1 (fr_names0 hm.all F') N'
end
def lastAt (a n : Int) (i : Nat) : Int := if a + i ≤ n - 1 then a + i else n - 1
abbrev lastNames (R c : Addr) : List (Str × Value) := [("rows", .ref R), ("cursor", .ref c)]
/-- what the last loop keeps -/
def LastJ (P : Params) (c cd tl R r : Addr) (zs : List Value) (ps : Array Value) (a n : Int) (rest : List (Addr × Obj)) (i : Nat) (m : Str → Option Value) (led : List (Addr × Obj)) : Prop :=
  ∃ a1 a2 b, led = (cd, curDict P a1 a2 b tl (lastAt a n i)) :: (r, listOf zs.toArray 0) :: (254, tabObj ps) :: rest ∧ Names m (lastNames R c)
theorem rows_at_drop {led : List (Addr × Obj)} {zs : List Value} {rws : List Row} {a : Int} (h : RowsAt led zs (rws.drop a.toNat)) (h0 : 0 ≤ a) {i : Nat} {v : Value} (hv : zs[i]? = some v) :
    a + i < rws.length ∧ ∃ ra t1 t2 t3, v = .ref ra ∧ (ra, rowObj (rowI rws (a + i)) t1 t2 t3) ∈ led := by
  have hlt : i < zs.length := by
    rcases Nat.lt_or_ge i zs.length with h | h
    · exact h
    · rw [List.getElem?_eq_none h] at hv; cases hv
  have hl := h.len
  rw [List.length_drop] at hl
  obtain ⟨n, rfl⟩ := Int.eq_ofNat_of_zero_le h0
  have hb : ((n : Int) + i) < rws.length := Int.ofNat_lt.mpr (Nat.add_lt_of_lt_sub' (hl ▸ hlt))
  have e : (rws.drop n)[i]? = some (rowI rws ((n : Int) + i)) := by
    rw [List.getElem?_drop]
    exact rowI_get (Int.natCast_nonneg (n + i)) hb
  exact ⟨hb, h.at_ i v _ hv e⟩
section
variable {prog : Program} {w : World} {A : Around} {E : Value → Shared → Prop} {s : Shared} {env : Env} {h₀ : Heap} {x : Str} {body : List Stmt} {Q : Flow → Shared → Prop}
theorem law_last {L r l t c cd tl R : Addr} {a : Int} {a1 a2 b : Tok} {rws : List Row} {m₀ : Str → Option Value} {zs : List Value} {ps : Array Value} {rest led : List (Addr × Obj)}
    (S : Site w.params rest l t c cd tl R rws) (hh : A.handled = none) (N : News h₀ L s.heap ((r, listOf zs.toArray 0) :: led)) (F : Fr h₀ L s.heap m₀) (hcd : (cd, curDict w.params a1 a2 b tl a) ∈ led) (hgt : (254, tabObj ps) ∈ led) (hr : ∀ p ∈ rest, p ∈ led) (hoff : AllLt r led)
    (hzs : RowsAt rest zs (rws.drop a.toNat)) (h0 : 0 ≤ a) (h1 : a < rws.length) (hL : env.locals = L) (hn : Names m₀ (lastNames R c))
    (turn : ∀ (i : Nat) (k : Int) ra t1 t2 t3 a1 a2 b m₁ h tk I oI, Names m₁ (lastNames R c) → 0 ≤ k → k < rws.length → (ra, rowObj (rowI rws k) t1 t2 t3) ∈ rest → r ≠ I → cd ≠ I → cd ≠ r → (∀ p ∈ rest, p.1 ≠ I) → (∀ p ∈ rest, p.1 ≠ r) →
      Fr h₀ L h (fun y => if y = x then some (.ref ra) else kstB m₁ (lastNames R c) y) → News h₀ L h ((cd, curDict w.params a1 a2 b tl k) :: (ra, rowObj (rowI rws k) t1 t2 t3) :: (I, oI) :: (r, listOf zs.toArray 0) :: (254, tabObj ps) :: rest) →
      (∀ h' tk' m' a1 a2 b (j : Int) led', ((k < (rws.length : Int) - 1 ∧ j = k + 1) ∨ (k = (rws.length : Int) - 1 ∧ j = k)) → Names m' (lastNames R c) → Fr h₀ L h' m' → News h₀ L h' led' → (cd, curDict w.params a1 a2 b tl j) ∈ led' → (I, oI) ∈ led' → (r, listOf zs.toArray 0) ∈ led' → (254, tabObj ps) ∈ led' → (∀ p ∈ rest, p ∈ led') →
        TurnEnd h₀ L I oI (LastJ w.params c cd tl R r zs ps a rws.length rest (i + 1)) { s with heap := h, toks := tk } { s with heap := h', toks := tk' }) →
      wpAny (model prog w) A (execs body env) (TurnPost h₀ L I oI (LastJ w.params c cd tl R r zs ps a rws.length rest (i + 1)) { s with heap := h, toks := tk } Q) E { s with heap := h, toks := tk })
    (done : ∀ a1 a2 b m₁ h tk, Names m₁ (lastNames R c) → Fr h₀ L h (kstB m₁ (lastNames R c)) → News h₀ L h ((cd, curDict w.params a1 a2 b tl ((rws.length : Int) - 1)) :: (254, tabObj ps) :: rest) → Q .next { s with heap := h, toks := tk }) :
    wpAny (model prog w) A (pyIter (.ref r)) (fun it s₂ => LoopAtV prog w A h₀ env x body Q E it s₂) E s := by
  have hlen := hzs.len
  rw [List.length_drop] at hlen
  have crn : cd ≠ r := Nat.ne_of_lt (ktn_ltOf hoff _ hcd)
  have rrn : ∀ p ∈ rest, p.1 ≠ r := fun p hp => Nat.ne_of_lt (ktn_ltOf hoff _ (hr p hp))
  have N0 : News h₀ L s.heap ((cd, curDict w.params a1 a2 b tl (lastAt a rws.length 0)) :: (r, listOf zs.toArray 0) :: (254, tabObj ps) :: rest) := by
    have e : lastAt a rws.length 0 = a := by unfold lastAt; rw [show a + ((0 : Nat) : Int) = a from Int.add_zero a, if_pos (Int.le_sub_one_of_lt h1)]
    rw [e]
    exact cb_drop N (sub_of_cons (mem_tl hcd) (sub_of_cons mem_hd (sub_of_cons (mem_tl hgt) (sub_cons hr))))
  refine iter_list (c := 0) (LastJ w.params c cd tl R r zs ps a rws.length rest) hh (fun i m led h => by obtain ⟨_, _, _, rfl, _⟩ := h; exact mem_tl mem_hd) F N0 hL ⟨a1, a2, b, rfl, hn⟩ ?_ ?_
  · intro i v m₁ news₁ h tk I oI hv hnI hJ F' N'
    refine cps fun GG kk => ?_
    obtain ⟨a1, a2, b, rfl, hm⟩ := hJ
    refine kk ?_
    refine cps fun GG kk => ?_
    obtain ⟨hb, ra, t1, t2, t3, rfl, hmr⟩ := rows_at_drop hzs h0 hv
    refine kk ?_
    have e : lastAt a rws.length i = a + i := by unfold lastAt; rw [if_pos (Int.le_sub_one_of_lt hb)]
    rw [e] at N'
    refine turn i (a + i) ra t1 t2 t3 a1 a2 b m₁ h tk I oI hm (Int.add_nonneg h0 (Int.natCast_nonneg i)) hb hmr (hnI _ (mem_tl mem_hd)) (hnI _ mem_hd) crn (fun p hp => hnI p (mem_tl (mem_tl (mem_tl hp)))) rrn (fr_names hm.all F')
      (cb_drop N' (sub_of_cons (mem_tl mem_hd) (sub_of_cons (mem_tl (mem_tl (mem_tl (mem_tl hmr)))) (sub_of_cons mem_hd (sub_of_cons (mem_tl (mem_tl mem_hd)) (sub_cons (sub_cons (sub_cons fun _ h => h)))))))) ?_
    have cI : cd ≠ I := hnI _ mem_hd
    intro h' tk' m' a1 a2 b j led' hj hn' F'' N'' q1 q2 q3 q5 q4
    have ej : lastAt a rws.length (i + 1) = j := by
      unfold lastAt
      rw [show a + ((i + 1 : Nat) : Int) = a + i + 1 from (Int.add_assoc a i 1).symm]
      rcases hj with ⟨x1, x2⟩ | ⟨x1, x2⟩
      · rw [if_pos (Int.add_one_le_of_lt x1), x2]
      · rw [if_neg (x1 ▸ Int.not_le.mpr (Int.lt_succ _)), x2, x1]
    refine TurnEnd.intro (news' := (cd, curDict w.params a1 a2 b tl (lastAt a rws.length (i + 1))) :: (r, listOf zs.toArray 0) :: (254, tabObj ps) :: rest) F'' (cb_drop N'' (sub_of_cons q2 (sub_of_cons (ej ▸ q1) (sub_of_cons q3 (sub_of_cons q5 q4))))) ?_ ⟨a1, a2, b, rfl, hn'⟩
    exact List.forall_mem_cons.mpr ⟨cI, fun p hp => hnI p (mem_tl hp)⟩
  · intro m₁ news₁ h tk hJ F' N'
    refine cps fun GG kk => ?_
    obtain ⟨a1, a2, b, rfl, hm⟩ := hJ
    refine kk ?_
    have e : lastAt a rws.length zs.length = (rws.length : Int) - 1 := by
      unfold lastAt
      obtain ⟨n, rfl⟩ := Int.eq_ofNat_of_zero_le h0
      have q : ((n : Int) + zs.length) = rws.length := congrArg Int.ofNat (hlen ▸ Nat.add_sub_cancel' (Nat.le_of_lt (Int.ofNat_lt.mp h1)))
      rw [q, if_neg (Int.not_le.mpr (Int.sub_lt_self _ (by decide)))]
    rw [e] at N'
    exact done a1 a2 b m₁ h tk hm (fr_names0 hm.all F') (cb_drop N' (sub_of_cons mem_hd (sub_cons (sub_cons fun _ h => h))))
end
abbrev pairObj (i : Int) (tt : Tok) : Obj := { cls := .type "tuple", data := .seq #[.bool true, .int i tt] }
/-- a short statement walked apart: it binds one bool -/
theorem cut_bool {M : Model} {A : Around} {E : Value → Shared → Prop} {s : Shared} {h₀ : Heap} {L : Addr} {m : Str → Option Value} {news : List (Addr × Obj)} {t : Sem Flow} {Q : Flow → Shared → Prop} (x : Str) (b : Bool) (_ : Fr h₀ L s.heap m) (_ : News h₀ L s.heap news)
    (walk : wpAny M A t (fun f s' => f = .next ∧ ∃ h' tk, s' = { s with heap := h', toks := tk } ∧ Fr h₀ L h' (fun y => if y = x then some (.bool b) else m y) ∧ News h₀ L h' news) E s)
    (cont : ∀ h' tk, Fr h₀ L h' (fun y => if y = x then some (.bool b) else m y) → News h₀ L h' news → Q .next { s with heap := h', toks := tk }) : wpAny M A t Q E s := by
  refine wpAny_mono walk (fun f s' z => ?_) fun _ _ z => z
  obtain ⟨rfl, h', tk, rfl, F, N⟩ := z
  exact cont h' tk F N
theorem fr_bool {h₀ h : Heap} {L : Addr} {m : Str → Option Value} {x : Str} {b b' : Bool} (F : Fr h₀ L h (fun y => if y = x then some (.bool b) else m y)) (e : b = b') : Fr h₀ L h (fun y => if y = x then some (.bool b') else m y) := e ▸ F
theorem good_end {rws : List Row} {i : Int} (G : RowsGood rws) (h0 : 0 ≤ i) (h1 : i < rws.length) : ((rowI rws i).kind = endS ∧ i = (rws.length : Int) - 1) ∨ ((rowI rws i).kind ≠ endS ∧ i < (rws.length : Int) - 1) := by
  by_cases h : i < (rws.length : Int) - 1
  · exact .inr ⟨G.inner i h0 h, h⟩
  · have : i = (rws.length : Int) - 1 := Int.le_antisymm (Int.le_sub_one_of_lt h1) (Int.not_lt.mp h)
    exact .inl ⟨this ▸ G.last, this⟩
theorem tt_eq {X : Bool} (h : X = true) : (true == X) = true := by rw [h]; rfl
theorem ff_eq {X : Bool} (h : X = false) : (false == X) = true := by rw [h]; rfl
theorem col_eq1 {rws : List Row} {x n : Int} (h : x ≤ n) : ((rowI rws x).col == (rowI rws (if n < x then n else x)).col) = true := by
  rw [if_neg (Int.not_lt.mpr h)]; exact beq_self_eq_true _
theorem col_eq2 {rws : List Row} {x n : Int} (h : n ≤ x) : ((rowI rws n).col == (rowI rws (if n < x then n else x)).col) = true := by
  by_cases e : n < x
  · rw [if_pos e]; exact beq_self_eq_true _
  · rw [if_neg e, Int.le_antisymm (Int.not_lt.mp e) h]; exact beq_self_eq_true _
theorem min_lt {x n : Int} (h : x ≤ n) : (if n < x then n else x) = x := if_neg (Int.not_lt.mpr h)
theorem min_ge {x n : Int} (h : x = n) : (if n < x + 1 then n else x + 1) = x := by rw [if_pos (h ▸ Int.lt_succ _)]; exact h.symm
theorem ne_s {a L : Addr} (h : a < L) : a ≠ L + 1 := Nat.ne_of_lt (Nat.lt_succ_of_lt h)
theorem ne_ss {a L : Addr} (h : a < L) : a ≠ L + 1 + 1 := Nat.ne_of_lt (Nat.lt_succ_of_lt (Nat.lt_succ_of_lt h))
theorem ne_lt {a D : Addr} {o : Obj} {l : List (Addr × Obj)} (h : AllLt D l) (hm : (a, o) ∈ l) : D ≠ a := Nat.ne_of_gt (ktn_ltOf h _ hm)
theorem at_le {i n : Int} (h : i < n - 1) : i + 1 ≤ n - 1 := h
theorem at_on {i n : Int} (h0 : 0 ≤ i) (h : i < n - 1) : 0 ≤ i + 1 ∧ i + 1 < n := ⟨zp1 h0, Int.lt_of_le_of_lt h (Int.sub_lt_self _ (by decide))⟩
theorem min_j {x n j : Int} (h : (x < n ∧ j = x + 1) ∨ (x = n ∧ j = x)) : (if n < x + 1 then n else x + 1) = j := by
  rcases h with ⟨a, rfl⟩ | ⟨rfl, rfl⟩
  · exact if_neg (Int.not_lt.mpr a)
  · exact if_pos (Int.lt_succ _)
theorem j_ar {x n j : Int} (h0 : 0 ≤ x) (h : (x < n - 1 ∧ j = x + 1) ∨ (x = n - 1 ∧ j = x)) : 0 ≤ j ∧ j < n := by
  rcases h with ⟨a, rfl⟩ | ⟨a, rfl⟩
  · exact at_on h0 a
  · exact ⟨h0, a ▸ Int.sub_lt_self _ (by decide)⟩
theorem kk3 {k : Int} : k ≤ k + 1 + 1 + 1 ∧ k + 1 + 1 + 1 ≤ k + 4 := ⟨ka3, Int.le_trans kb3 (Int.add_le_add_left (by decide) k)⟩
theorem kk4 {k : Int} : k ≤ k + 1 + 1 + 1 + 1 ∧ k + 1 + 1 + 1 + 1 ≤ k + 4 := ⟨Int.le_trans ka3 ka1, Int.le_of_eq (by simp only [Int.add_assoc]; rfl)⟩
def deedM (x1 x2 x3 x4 x5 x6 x7 x8 x9 x10 : Value) : Str → Option Value := fun y => if y = PySem.Str.ofString "refused" then some x10 else if y = PySem.Str.ofString "is_there" then some x9 else if y = PySem.Str.ofString "name" then some x8 else if y = PySem.Str.ofString "column" then some x7 else if y = PySem.Str.ofString "text" then some x6 else if y = PySem.Str.ofString "kind" then some x5 else if y = PySem.Str.ofString "way" then some x4 else if y = PySem.Str.ofString "at" then some x3 else if y = PySem.Str.ofString "rows" then some x2 else if y = PySem.Str.ofString "tape" then some x1 else none
theorem fr_deed {h₀ h : Heap} {L : Addr} {x1 x2 x3 x4 x5 x6 x7 x8 x9 x10 : Value} (F : Fr h₀ L h (deedM x1 x2 x3 x4 x5 x6 x7 x8 x9 x10)) : Fr h₀ L h (deedM x1 x2 x3 x4 x5 x6 x7 x8 x9 x10) := F
theorem deed_end {P : Params} {h₀ : Heap} {L : Addr} {m : Str → Option Value} {s : Shared} {Q : Value → Shared → Prop} {l t c cd tl R D I : Addr} {oI : Obj} {k k' i j : Int} {a1 a2 b2 tkk tt : Tok} {n tk' : Nat} {ps' : Array Value} {rest rest' led : List (Addr × Obj)} {rws : List Row} {b : Bool} {h' : Heap}
  (ret : ∀ D at' tt k' tkk b2 ps' rest' h' tk', Fr h₀ L h' m → News h₀ L h' ((D, pairObj at' tt) :: (t, tapeObj l k' tkk n) :: (cd, curDict P a1 a2 b2 tl at') :: (254, tabObj ps') :: (I, oI) :: rest') →
    (∀ p ∈ rest, p ∈ rest') → Site P rest' l t c cd tl R rws → TabOk rest' ps' → k ≤ k' → k' ≤ k + 4 → 0 ≤ at' → at' < rws.length → D ≠ t → D ≠ cd → D ≠ 254 → D ≠ I → (∀ p ∈ rest', p.1 ≠ I) → Q (.ref D) {s with heap := h', toks := tk'})
  (TO : TabOk rest' ps') (F : Fr h₀ L h' m) (N : News h₀ L h' ((D, { cls := .type "tuple", data := .seq #[.bool b, .int i tt] }) :: led)) (hb : b = true) (ht : (t, tapeObj l k' tkk n) ∈ led) (hc : (cd, curDict P a1 a2 b2 tl j) ∈ led) (hij : i = j) (hg : (254, tabObj ps') ∈ led) (hI : (I, oI) ∈ led) (hr : ∀ p ∈ rest', p ∈ led)
  (hsub : ∀ p ∈ rest, p ∈ rest') (S : Site P rest' l t c cd tl R rws) (hk : k ≤ k' ∧ k' ≤ k + 4) (hj : 0 ≤ j ∧ j < rws.length) (lD : AllLt D led) (offI : ∀ p ∈ rest', p.1 ≠ I) : Q (.ref D) {s with heap := h', toks := tk'} := by
  subst hb
  subst hij
  exact ret D i tt k' tkk b2 ps' rest' h' tk' F (fun p hp => N p (sub_of_cons mem_hd (sub_of_cons (mem_tl ht) (sub_of_cons (mem_tl hc) (sub_of_cons (mem_tl hg) (sub_of_cons (mem_tl hI) (sub_cons hr))))) p hp)) hsub S TO hk.1 hk.2 hj.1 hj.2 (ne_lt lD ht) (ne_lt lD hc) (ne_lt lD hg) (ne_lt lD hI) offI
theorem deed_c {prog : Program} {w : World} {p : Program} {loose : List Str} {mean : ExcName → Option Value} {mg mb : Str → Option Value}
  {dp un : Nat} {gd : Option (List Code)} {cn : Str} {cs : Scope} {a : Addr} {ccd : Value} {cl : List (Str × Addr)} {A₀ : Around} {base h₀ : Heap} {L : Addr} {m : Str → Option Value} {s : Shared} {Q E : Value → Shared → Prop}
  {l t c cd tl R I : Addr} {oI : Obj} {k at_ : Int} {tk tka a1 a2 b1 : Tok} {n : Nat} {ps : Array Value} {rest : List (Addr × Obj)} {rws : List Row}
  (B : Below A₀ base [] h₀) (F : Fr h₀ L s.heap m) (X : (Mine.hd.heap_39 w.params).In h₀) (T : Top p loose mean mg mb h₀) (hk : cs.kind = .function)
  (N : News h₀ L s.heap ((t, tapeObj l k tk n) :: (cd, curDict w.params a1 a2 b1 tl at_) :: (254, tabObj ps) :: (I, oI) :: rest))
  (offI : ∀ p ∈ rest, p.1 ≠ I) (tI : t ≠ I) (cI : cd ≠ I) (gI : (254 : Addr) ≠ I)
  (S : Site w.params rest l t c cd tl R rws) (TO : TabOk rest ps) (C : CodeHd h₀ 258 254) (XB : (Mine.hd.heap_39 w.params).In base) (TB : Top p loose mean mg mb base)
  (hk0 : 0 ≤ k) (hk1 : k < 900) (ha0 : 0 ≤ at_) (ha1 : at_ < rws.length)
  (hd : dp + 20 < recursionLimit) (hu : un + 160 < cLine)
  (ret : ∀ D at' tt k' tkk b2 ps' rest' h' tk', Fr h₀ L h' m → News h₀ L h' ((D, pairObj at' tt) :: (t, tapeObj l k' tkk n) :: (cd, curDict w.params a1 a2 b2 tl at') :: (254, tabObj ps') :: (I, oI) :: rest') →
    (∀ p ∈ rest, p ∈ rest') → Site w.params rest' l t c cd tl R rws → TabOk rest' ps' → k ≤ k' → k' ≤ k + 4 → 0 ≤ at' → at' < rws.length → D ≠ t → D ≠ cd → D ≠ 254 → D ≠ I → (∀ p ∈ rest', p.1 ≠ I) → Q (.ref D) {s with heap := h', toks := tk'}) :
  wpAny (model prog w) (ktrTop dp un gd cn cs L a ccd cl []) (call (.ref 259) [.ref t, .ref c, .ref R, .int at_ tka]) Q E s := by
  have ny : NotYet := rfl
  have nz : AtIf := rfl
  have offt := S.offt
  have offc := S.offc
  have offg := S.offg
  have tc := S.tc
  have tg := S.tg
  have cg := S.cg
  have good := S.good
  have hcur := S.cur
  have htape := S.tape
  have most := S.good.most
  have hends := good_end S.good ha0 ha1
  have hok : PyData.strOk (rowI rws at_).text = true := S.good.oks _ (rowI_mem ha0 ha1)
  have htext : (rowI rws at_).text.length ≤ 100 := S.good.texts _ (rowI_mem ha0 ha1)
  have es : ((rowI rws at_).kind == PySem.Str.ofString "sign") = true → at_ < (rws.length : Int) - 1 := fun e => by
    rcases hends with ⟨h1, h2⟩ | ⟨h1, h2⟩
    · rw [h1] at e; exact absurd e (by decide)
    · exact h2
  have en : ((rowI rws at_).kind == PySem.Str.ofString "name") = true → at_ < (rws.length : Int) - 1 := fun e => by
    rcases hends with ⟨h1, h2⟩ | ⟨h1, h2⟩
    · rw [h1] at e; exact absurd e (by decide)
    · exact h2
  have ee : ((rowI rws at_).kind != PySem.Str.ofString "end") = true → at_ < (rws.length : Int) - 1 := fun e => by
    rcases hends with ⟨h1, h2⟩ | ⟨h1, h2⟩
    · rw [h1] at e; exact absurd e (by decide)
    · exact h2
  have ef : ((rowI rws at_).kind != PySem.Str.ofString "end") = false → at_ = (rws.length : Int) - 1 := fun e => by
    rcases hends with ⟨h1, h2⟩ | ⟨h1, h2⟩
    · exact h2
    · exact absurd (by simpa using e) h1
  refine wpAny_call ?_
  k_dflt (refine' enterC (m' := fun y => if y = PySem.Str.ofString "at" then some (.int at_ tka) else if y = PySem.Str.ofString "rows" then some (.ref R) else if y = PySem.Str.ofString "tape" then some (.ref t) else none) (by exact rfl) (by exact rfl) (by assumption) (by k_asm) (by k_asm) (by k_asm) (by k_asm) (by k_asm) (by k_is) (by k_is) (by k_extra "my_room") (by exact BindsTo.of_eq (binds := [(_, _), (_, _), (_, _), (_, _)]) rfl) (by exact rfl) (by decide +kernel) (by intro _; exact rfl) ?_ (by exact rfl) (by exact rfl) (by exact rfl); k_whole)
  intro g' L' h' tk' cells' FG' F' N' Y' B' X' T' D' l1
  k_lt l1
  have o1 : ∀ p ∈ rest, p.1 ≠ L' + 1 := fun p hp => Nat.ne_of_lt (Nat.lt_succ_of_lt (ktn_ltOf l1.2.2.2.2 p hp))
  have o2 : ∀ p ∈ rest, p.1 ≠ L' + 1 + 1 := fun p hp => Nat.ne_of_lt (Nat.lt_succ_of_lt (Nat.lt_succ_of_lt (ktn_ltOf l1.2.2.2.2 p hp)))
  have u1 := ne_s l1.1
  have u2 := ne_ss l1.1
  have u3 := ne_s l1.2.1
  have u4 := ne_ss l1.2.1
  have u5 := ne_s l1.2.2.1
  have u6 := ne_ss l1.2.2.1
  have u7 := ne_s l1.2.2.2.1
  have u8 := ne_ss l1.2.2.2.1
  have C1 := C.keeps FG'.keep
  k_cells Y'
  (try simp only [List.cons_append, List.nil_append] at N')
  (try dsimp only)
  (try k_lift B')
  k_extra "my_fold"
  k_steps
  refine Hold.out ?_
  refine cut_bool "is_there" ((rowI rws at_).kind == PySem.Str.ofString "sign" && (rowI rws at_).text == sg) (by k_asm) (by k_asm) ?walk ?cont
  case walk =>
    rename NotYet => ny
    clear ny
    k_steps
    all_goals first | k_asm | (refine' fr_bool (x := "is_there") ?hF ?he; (case hF => k_asm); (case he => simp [*]))
  case cont =>
    intro h3 tk3 F3 N3
    dsimp only
    k_steps
    refine Hold.out ?_
    rename AtIf => nz
    clear nz
    have F5 := fr_deed (by assumption)
    have atite : AtIte := rfl
    k_steps
    refine Hold.out ?_
    refine both ?_ ?_
    · rename AtIte => atite
      clear atite
      k_steps
      all_goals (refine' deed_end ret (by assumption) (by k_asm) (by k_asm) (by first | rfl | exact beq_self_eq_true _ | exact tt_eq (by assumption) | exact ff_eq (by assumption) | exact col_eq1 (by k_extra "my_num") | exact col_eq2 (by k_extra "my_num") | fail) (by k_extra "my_memb") (by k_extra "my_memb") (by first | rfl | exact Int.add_zero _ | exact min_j hjT | exact min_lt (at_le (ee (by assumption))) | exact min_ge (ef (by assumption)) | fail) (by k_extra "my_memb") (by k_extra "my_memb") (by k_extra "my_sub") (by k_extra "my_sub") (by (refine Site.mono S ?_ ?_ ?_ ?_; k_extra "my_sub"; k_extra "my_off"; k_extra "my_off"; k_extra "my_off")) (by first | exact kk3 | exact kk4) (by k_extra "my_ar") (by assumption) (by k_extra "my_off"))
    rename AtIte => atite
    clear atite
    have nz : AtIf := rfl
    k_steps
    refine Hold.out ?_
    rename AtIf => nz
    clear nz
    have atite : AtIte := rfl
    k_steps
    refine Hold.out ?_
    refine both ?_ ?_
    · rename AtIte => atite
      clear atite
      k_steps
      all_goals (refine' deed_end ret (by assumption) (by k_asm) (by k_asm) (by first | rfl | exact beq_self_eq_true _ | exact tt_eq (by assumption) | exact ff_eq (by assumption) | exact col_eq1 (by k_extra "my_num") | exact col_eq2 (by k_extra "my_num") | fail) (by k_extra "my_memb") (by k_extra "my_memb") (by first | rfl | exact Int.add_zero _ | exact min_j hjT | exact min_lt (at_le (ee (by assumption))) | exact min_ge (ef (by assumption)) | fail) (by k_extra "my_memb") (by k_extra "my_memb") (by k_extra "my_sub") (by k_extra "my_sub") (by (refine Site.mono S ?_ ?_ ?_ ?_; k_extra "my_sub"; k_extra "my_off"; k_extra "my_off"; k_extra "my_off")) (by first | exact kk3 | exact kk4) (by k_extra "my_ar") (by assumption) (by k_extra "my_off"))
    rename AtIte => atite
    clear atite
    have nz : AtIf := rfl
    k_steps
    refine Hold.out ?_
    rename AtIf => nz
    clear nz
    have atite : AtIte := rfl
    k_steps
    refine Hold.out ?_
    refine both ?_ ?_
    · rename AtIte => atite
      clear atite
      k_steps
      all_goals (refine' deed_end ret (by assumption) (by k_asm) (by k_asm) (by first | rfl | exact beq_self_eq_true _ | exact tt_eq (by assumption) | exact ff_eq (by assumption) | exact col_eq1 (by k_extra "my_num") | exact col_eq2 (by k_extra "my_num") | fail) (by k_extra "my_memb") (by k_extra "my_memb") (by first | rfl | exact Int.add_zero _ | exact min_j hjT | exact min_lt (at_le (ee (by assumption))) | exact min_ge (ef (by assumption)) | fail) (by k_extra "my_memb") (by k_extra "my_memb") (by k_extra "my_sub") (by k_extra "my_sub") (by (refine Site.mono S ?_ ?_ ?_ ?_; k_extra "my_sub"; k_extra "my_off"; k_extra "my_off"; k_extra "my_off")) (by first | exact kk3 | exact kk4) (by k_extra "my_ar") (by assumption) (by k_extra "my_off"))
    rename AtIte => atite
    clear atite
    have nz : AtIf := rfl
    k_steps
    refine Hold.out ?_
    rename AtIf => nz
    clear nz
    have atite : AtIte := rfl
    k_steps
    refine Hold.out ?_
    refine both ?_ ?_
    · rename AtIte => atite
      clear atite
      k_steps
      all_goals (refine' deed_end ret (by assumption) (by k_asm) (by k_asm) (by first | rfl | exact beq_self_eq_true _ | exact tt_eq (by assumption) | exact ff_eq (by assumption) | exact col_eq1 (by k_extra "my_num") | exact col_eq2 (by k_extra "my_num") | fail) (by k_extra "my_memb") (by k_extra "my_memb") (by first | rfl | exact Int.add_zero _ | exact min_j hjT | exact min_lt (at_le (ee (by assumption))) | exact min_ge (ef (by assumption)) | fail) (by k_extra "my_memb") (by k_extra "my_memb") (by k_extra "my_sub") (by k_extra "my_sub") (by (refine Site.mono S ?_ ?_ ?_ ?_; k_extra "my_sub"; k_extra "my_off"; k_extra "my_off"; k_extra "my_off")) (by first | exact kk3 | exact kk4) (by k_extra "my_ar") (by assumption) (by k_extra "my_off"))
    rename AtIte => atite
    clear atite
    have nz : AtIf := rfl
    k_steps
    refine Hold.out ?_
    rename AtIf => nz
    clear nz
    have atite : AtIte := rfl
    k_steps
    refine Hold.out ?_
    refine both ?_ ?_
    · rename AtIte => atite
      clear atite
      k_steps
      all_goals (refine' deed_end ret (by assumption) (by k_asm) (by k_asm) (by first | rfl | exact beq_self_eq_true _ | exact tt_eq (by assumption) | exact ff_eq (by assumption) | exact col_eq1 (by k_extra "my_num") | exact col_eq2 (by k_extra "my_num") | fail) (by k_extra "my_memb") (by k_extra "my_memb") (by first | rfl | exact Int.add_zero _ | exact min_j hjT | exact min_lt (at_le (ee (by assumption))) | exact min_ge (ef (by assumption)) | fail) (by k_extra "my_memb") (by k_extra "my_memb") (by k_extra "my_sub") (by k_extra "my_sub") (by (refine Site.mono S ?_ ?_ ?_ ?_; k_extra "my_sub"; k_extra "my_off"; k_extra "my_off"; k_extra "my_off")) (by first | exact kk3 | exact kk4) (by k_extra "my_ar") (by assumption) (by k_extra "my_off"))
    rename AtIte => atite
    clear atite
    have nz : AtIf := rfl
    k_steps
    refine Hold.out ?_
    rename AtIf => nz
    clear nz
    have atite : AtIte := rfl
    k_steps
    refine Hold.out ?_
    refine both ?_ ?_
    · rename AtIte => atite
      clear atite
      k_steps
      all_goals (refine' deed_end ret (by assumption) (by k_asm) (by k_asm) (by first | rfl | exact beq_self_eq_true _ | exact tt_eq (by assumption) | exact ff_eq (by assumption) | exact col_eq1 (by k_extra "my_num") | exact col_eq2 (by k_extra "my_num") | fail) (by k_extra "my_memb") (by k_extra "my_memb") (by first | rfl | exact Int.add_zero _ | exact min_j hjT | exact min_lt (at_le (ee (by assumption))) | exact min_ge (ef (by assumption)) | fail) (by k_extra "my_memb") (by k_extra "my_memb") (by k_extra "my_sub") (by k_extra "my_sub") (by (refine Site.mono S ?_ ?_ ?_ ?_; k_extra "my_sub"; k_extra "my_off"; k_extra "my_off"; k_extra "my_off")) (by first | exact kk3 | exact kk4) (by k_extra "my_ar") (by assumption) (by k_extra "my_off"))
    rename AtIte => atite
    clear atite
    have nz : AtIf := rfl
    k_steps
    refine Hold.out ?_
    rename AtIf => nz
    clear nz
    have atite : AtIte := rfl
    k_steps
    refine Hold.out ?_
    refine both ?_ ?_
    · rename AtIte => atite
      clear atite
      have amk : AskMark (fun _ => Value.none) (at_ + 1) (((rowI rws at_).kind == PySem.Str.ofString "sign" && (rowI rws at_).text == sg) = true) (((rowI rws at_).kind == PySem.Str.ofString "sign" && (rowI rws at_).text == sg) = false) (rowI rws at_) := trivial
      k_steps
      all_goals first | exact okT 0 _ _ _ (by assumption) (by k_asm) (cb_drop (by k_asm) (by k_extra "my_sub")) | exact okT _ _ _ _ (by assumption) (by k_asm) (cb_drop (by k_asm) (by k_extra "my_sub")) | exact badT _ _ _ _ _ _ _ _ _ _ _ _ _ _ _ _ (by assumption) (by k_asm) (by k_extra "my_memb") (by k_extra "my_memb") (RaisedE.sub (by assumption) (by k_extra "my_sub")) (by assumption) (allLt_take (by assumption) (by k_extra "my_sub")) (by assumption) | skip
      all_goals (refine' deed_end ret (by assumption) (by k_asm) (by k_asm) (by first | rfl | exact beq_self_eq_true _ | exact tt_eq (by assumption) | exact ff_eq (by assumption) | exact col_eq1 (by k_extra "my_num") | exact col_eq2 (by k_extra "my_num") | fail) (by k_extra "my_memb") (by k_extra "my_memb") (by first | rfl | exact Int.add_zero _ | exact min_j hjT | exact min_lt (at_le (ee (by assumption))) | exact min_ge (ef (by assumption)) | fail) (by k_extra "my_memb") (by k_extra "my_memb") (by k_extra "my_sub") (by k_extra "my_sub") (by (refine Site.mono S ?_ ?_ ?_ ?_; k_extra "my_sub"; k_extra "my_off"; k_extra "my_off"; k_extra "my_off")) (by first | exact kk3 | exact kk4) (by k_extra "my_ar") (by assumption) (by k_extra "my_off"))
    rename AtIte => atite
    clear atite
    have nz : AtIf := rfl
    k_steps
    refine Hold.out ?_
    rename AtIf => nz
    clear nz
    have atite : AtIte := rfl
    k_steps
    refine Hold.out ?_
    refine both ?_ ?_
    · rename AtIte => atite
      clear atite
      have amk : AskMark (fun _ => Value.none) (at_) (((rowI rws at_).kind == PySem.Str.ofString "end") = true) (((rowI rws at_).kind == PySem.Str.ofString "end") = false) (rowI rws at_) := trivial
      k_steps
      all_goals first | exact okT 0 _ _ _ (by assumption) (by k_asm) (cb_drop (by k_asm) (by k_extra "my_sub")) | exact okT _ _ _ _ (by assumption) (by k_asm) (cb_drop (by k_asm) (by k_extra "my_sub")) | exact badT _ _ _ _ _ _ _ _ _ _ _ _ _ _ _ _ (by assumption) (by k_asm) (by k_extra "my_memb") (by k_extra "my_memb") (RaisedE.sub (by assumption) (by k_extra "my_sub")) (by assumption) (allLt_take (by assumption) (by k_extra "my_sub")) (by assumption) | skip
      all_goals (refine' deed_end ret (by assumption) (by k_asm) (by k_asm) (by first | rfl | exact beq_self_eq_true _ | exact tt_eq (by assumption) | exact ff_eq (by assumption) | exact col_eq1 (by k_extra "my_num") | exact col_eq2 (by k_extra "my_num") | fail) (by k_extra "my_memb") (by k_extra "my_memb") (by first | rfl | exact Int.add_zero _ | exact min_j hjT | exact min_lt (at_le (ee (by assumption))) | exact min_ge (ef (by assumption)) | fail) (by k_extra "my_memb") (by k_extra "my_memb") (by k_extra "my_sub") (by k_extra "my_sub") (by (refine Site.mono S ?_ ?_ ?_ ?_; k_extra "my_sub"; k_extra "my_off"; k_extra "my_off"; k_extra "my_off")) (by first | exact kk3 | exact kk4) (by k_extra "my_ar") (by assumption) (by k_extra "my_off"))
    rename AtIte => atite
    clear atite
    have nz : AtIf := rfl
    k_steps
    refine Hold.out ?_
    rename AtIf => nz
    clear nz
    have atite : AtIte := rfl
    k_steps
    refine Hold.out ?_
    refine both ?_ ?_
    · rename AtIte => atite
      clear atite
      have amk : AskMark (fun tv => Value.str (rowI rws at_).text tv) (at_ + 1) (((rowI rws at_).kind == PySem.Str.ofString "name") = true) (((rowI rws at_).kind == PySem.Str.ofString "name") = false) (rowI rws at_) := trivial
      k_steps
      all_goals first | exact okT 0 _ _ _ (by assumption) (by k_asm) (cb_drop (by k_asm) (by k_extra "my_sub")) | exact okT _ _ _ _ (by assumption) (by k_asm) (cb_drop (by k_asm) (by k_extra "my_sub")) | exact badT _ _ _ _ _ _ _ _ _ _ _ _ _ _ _ _ (by assumption) (by k_asm) (by k_extra "my_memb") (by k_extra "my_memb") (RaisedE.sub (by assumption) (by k_extra "my_sub")) (by assumption) (allLt_take (by assumption) (by k_extra "my_sub")) (by assumption) | skip
      all_goals (refine' deed_end ret (by assumption) (by k_asm) (by k_asm) (by first | rfl | exact beq_self_eq_true _ | exact tt_eq (by assumption) | exact ff_eq (by assumption) | exact col_eq1 (by k_extra "my_num") | exact col_eq2 (by k_extra "my_num") | fail) (by k_extra "my_memb") (by k_extra "my_memb") (by first | rfl | exact Int.add_zero _ | exact min_j hjT | exact min_lt (at_le (ee (by assumption))) | exact min_ge (ef (by assumption)) | fail) (by k_extra "my_memb") (by k_extra "my_memb") (by k_extra "my_sub") (by k_extra "my_sub") (by (refine Site.mono S ?_ ?_ ?_ ?_; k_extra "my_sub"; k_extra "my_off"; k_extra "my_off"; k_extra "my_off")) (by first | exact kk3 | exact kk4) (by k_extra "my_ar") (by assumption) (by k_extra "my_off"))
    rename AtIte => atite
    clear atite
    have nz : AtIf := rfl
    k_steps
    refine Hold.out ?_
    rename AtIf => nz
    clear nz
    have atite : AtIte := rfl
    k_steps
    refine Hold.out ?_
    refine both ?_ ?_
    · rename AtIte => atite
      clear atite
      k_steps
      all_goals (refine' deed_end ret (by assumption) (by k_asm) (by k_asm) (by first | rfl | exact beq_self_eq_true _ | exact tt_eq (by assumption) | exact ff_eq (by assumption) | exact col_eq1 (by k_extra "my_num") | exact col_eq2 (by k_extra "my_num") | fail) (by k_extra "my_memb") (by k_extra "my_memb") (by first | rfl | exact Int.add_zero _ | exact min_j hjT | exact min_lt (at_le (ee (by assumption))) | exact min_ge (ef (by assumption)) | fail) (by k_extra "my_memb") (by k_extra "my_memb") (by k_extra "my_sub") (by k_extra "my_sub") (by (refine Site.mono S ?_ ?_ ?_ ?_; k_extra "my_sub"; k_extra "my_off"; k_extra "my_off"; k_extra "my_off")) (by first | exact kk3 | exact kk4) (by k_extra "my_ar") (by assumption) (by k_extra "my_off"))
    rename AtIte => atite
    clear atite
    k_steps
    all_goals (refine' deed_end ret (by assumption) (by k_asm) (by k_asm) (by first | rfl | exact beq_self_eq_true _ | exact tt_eq (by assumption) | exact ff_eq (by assumption) | exact col_eq1 (by k_extra "my_num") | exact col_eq2 (by k_extra "my_num") | fail) (by k_extra "my_memb") (by k_extra "my_memb") (by first | rfl | exact Int.add_zero _ | exact min_j hjT | exact min_lt (at_le (ee (by assumption))) | exact min_ge (ef (by assumption)) | fail) (by k_extra "my_memb") (by k_extra "my_memb") (by k_extra "my_sub") (by k_extra "my_sub") (by (refine Site.mono S ?_ ?_ ?_ ?_; k_extra "my_sub"; k_extra "my_off"; k_extra "my_off"; k_extra "my_off")) (by first | exact kk3 | exact kk4) (by k_extra "my_ar") (by assumption) (by k_extra "my_off"))
theorem law_t : PySem.Challenge.rw_pb0412_01.Holds := Mine.hd (by
  k_go0
  (all_goals try k_fold)
  have inlaw : InLaw := rfl
  have atrows : AtRows := rfl
  have atcursor : AtCursor := rfl
  have atat : AtAt := rfl
  k_steps
  refine Hold.out ?_
  rename AtRows => atrows
  clear atrows
  rename News _ _ _ _ => N1
  have hT := law_tape N1 (by assumption) (by simp; omega)
  k_steps
  refine Hold.out ?_
  rename AtCursor => atcursor
  clear atcursor
  rename News _ _ _ _ => N1
  obtain ⟨rest, N2, S1⟩ := law_stage GR oR1 oR2 oR3 neR N1 (by k_extra "my_pick") (by k_extra "my_tape") (by k_all)
  clear N1 oR1 oR2 oR3 GR hT
  k_steps
  refine src_rows S1 rfl (by k_asm) N2 ?turn ?fin
  case turn =>
    intro i ys toks aR t1 t2 t3 its hi hta hyl hap hmR hsrc I oI C oC D m₂ h tk E' hC hx hy hz F' N' off ne
    k_steps
    exact tok_end hsrc (fun p hp => mem_tl (mem_tl hp)) hi hta hyl hap off (by k_asm) (by k_asm) (by k_extra "my_memb") (by k_extra "my_memb") (by k_extra "my_memb") (by k_extra "my_memb") (by k_extra "my_memb") (by k_extra "my_memb") (by k_extra "my_memb") (by k_extra "my_sub") (by k_extra "my_new") (by k_extra "my_new") (by k_extra "my_new") (by k_extra "my_new")
  case fin =>
    intro D ys toks h tk hta hap F' N' off
    dsimp only
    k_steps
    refine Hold.out ?_
    rename AtAt => atat
    clear atat
    rename News _ _ _ _ => N3
    obtain ⟨rest2, N4, S⟩ := law_site S1 hta hap off N3 mem_hd (mem_tl mem_hd) (mem_tl (mem_tl mem_hd)) (sub_cons (sub_cons (sub_cons fun _ h => h))) (by k_extra "my_lt") (And.right (by assumption)) (by k_extra "my_lt")
    clear N3 S1 hta hap off
    have htape := S.tape
    have offt := S.offt
    have tc := S.tc
    have tg := S.tg
    have good := S.good
    have most := S.good.most
    have pos := S.good.pos
    k_steps
    refine Hold.out ?_
    refine law_loop S rfl (by k_asm) (by k_asm) (by assumption) (by assumption) (by assumption) (by k_extra "my_num") (by exact rfl) (by k_extra "my_names") ?turn ?done
    case turn =>
      clear S htape offt tc tg good most pos
      intro i k' tkk at' ta a1 a2 b ps rest m₁ h tk t' I oI hk1 hi hm S TO hk0 hat0 hat1 e1 e2 e3 e4 F' N'
      k_steps
      · exact absurd rfl (by assumption)
      · exact law_turn (by k_asm) (by k_asm) (by k_extra "my_names") SD TOD (by k_extra "my_memb") (by k_extra "my_memb") (by k_extra "my_memb") (by k_extra "my_memb") (by k_extra "my_sub") e1 e2 e3 offID (Int.le_trans hk0 hkD0) hkD1 hk1 hat0 hat1
    case done =>
      clear S htape offt tc tg good most pos
      intro k' tkk at' ta a1 a2 b ps rest m₁ h tk hm S hat0 hat1 F' N'
      have curS := S.cur
      have good := S.good
      have most := S.good.most
      have pos := S.good.pos
      have offc := S.offc
      have cg := S.cg
      have tc := S.tc
      dsimp only
      k_steps
      refine Hold.out ?_
      refine law_last S rfl (by k_asm) (by k_asm) (mem_tl mem_hd) (mem_tl (mem_tl mem_hd)) (sub_cons (sub_cons (sub_cons fun _ h => h))) (by exact l1S) hzs hat0 hat1 (by exact rfl) (by k_extra "my_names") ?turn ?done
      case turn =>
        intro i k ra t1 t2 t3 a1 a2 b m₁ h tk I oI hm hk0 hk1 hmr e1 e2 e3 e4 e5 F' N' fin
        have hbne : ((rowI rws k).text != (rowI rws k).text) = false := by simp
        k_steps
        exact fin _ _ _ _ _ _ _ _ hjT (by k_extra "my_names") F' N' (by k_extra "my_memb") (by k_extra "my_memb") (by k_extra "my_memb") (by k_extra "my_memb") (by k_extra "my_sub")
      case done =>
        intro a1 a2 b m₁ h tk hm F' N'
        have hlast : ((rowI rws ((rws.length : Int) - 1)).kind == PySem.Str.ofString "end") = true := by rw [good.last]; decide
        have hlast2 : ((rowI rws ((rws.length : Int) - 1)).kind != PySem.Str.ofString "end") = false := by rw [good.last]; decide
        have hlast3 : ((rowI rws (if (rws.length : Int) - 1 < (rws.length : Int) - 1 + 0 then (rws.length : Int) - 1 else (rws.length : Int) - 1 + 0)).kind == PySem.Str.ofString "end") = true := by rw [Int.add_zero, if_neg (Int.lt_irrefl _), good.last]; decide
        dsimp only
        repeat (first | (k_unfold; (try dsimp only)) | walk1 | (dsimp only; walk1))
        · rename Fr _ _ _ _ => kFr
          rw [beq_self_eq_true]
          refine goodW_bool kFr (by assumption) (raisesW_false ?_) ?_
          · wrow_none_raised
          · wrow_post
        · exact ⟨GrownAt.of (by k_asm) (by k_extra "my_memb"), trivial⟩)
end Mine
theorem PySem.Challenge.cw_pb0412_01_holds : PySem.Challenge.rw_pb0412_01.Holds := by
  exact Mine.law_t
