import PyProof.Rows.All
import Wide.All
import OpenK.AllK
import Wide.FinOn
import PySem.Challenge.RW_pq0479_01
open PySem PySem.W PyProof.Rows PySem.Spec PySem.Calls
set_option Elab.async false
set_option linter.all false
namespace Mine
theorem words : True := by
  k_with "r1" => (((try simp only [depth_under_make, depth_under_kw, depth_in1, depth_deeper, depth_caller]); (try dsimp only [ktrTop]); omega))
  k_with "r2" => (((simp only [units_in1, units_deeper, Around.mark_units, units_caller]); (try dsimp only [ktrTop]); omega))
  k_with "r3" => ((refine wpAny_call ?_; (first | (refine' code_defY ?qzk6 ?qze1 ?qze2 ?qze3 ?qzk1 ?qzk2 ?qzk3 ?qzk4 ?qzk5 ?qzkA ?qzkF ?qzkK ?qzk7 ?qzk8 ?qzk9 ?qzkz ?qzkB ?_ ?qzc2 ?qzc3 ?qzc4 ?qzc5; (case qzkA => exact rfl); (case qzkF => exact rfl); (case qzkK => assumption); (case qzk1 => k_asm); (case qzk2 => k_asm); (case qzk3 => k_asm); (case qzk4 => k_asm); (case qzk5 => k_asm); (case qzk6 => k_dflt k_is); (case qze1 => ((conv => lhs; whnf); try exact rfl)); (case qze2 => ((conv => lhs; whnf); try exact rfl)); (case qze3 => ((conv => lhs; whnf); try exact rfl)); (case qzk7 => k_dflt k_is); (case qzk8 => k_room); (case qzk9 => first | exact BindsTo.of_eq rfl | exact binds_K (by k_in) rfl (by k_dflt k_is) rfl rfl rfl); (case qzkz => exact rfl); (case qzc5 => decide); (case qzkB => exact locs rfl); (case qzc2 => exact rfl); (case qzc3 => exact rfl); (case qzc4 => exact rfl); k_whole; intro g' L' h' tk' FG' F' N' B' X' T'; (try dsimp only); (try k_lift B'); (try k_fold)) | (refine' code_defT ?qzk6 ?qze1 ?qze2 ?qze3 ?qzk1 ?qzk2 ?qzk3 ?qzk4 ?qzk5 ?qzkA ?qzkF ?qzkK ?qzk7 ?qzk8 ?qzk9 ?qzkB ?_ ?qzc2 ?qzc3 ?qzc4 ?qzc5; (case qzkA => exact rfl); (case qzkF => exact rfl); (case qzkK => assumption); (case qzk1 => k_asm); (case qzk2 => k_asm); (case qzk3 => k_asm); (case qzk4 => k_asm); (case qzk5 => k_asm); (case qzk6 => k_dflt k_is); (case qze1 => ((conv => lhs; whnf); try exact rfl)); (case qze2 => ((conv => lhs; whnf); try exact rfl)); (case qze3 => ((conv => lhs; whnf); try exact rfl)); (case qzk7 => k_dflt k_is); (case qzk8 => k_room); (case qzk9 => first | exact BindsTo.of_eq rfl | exact binds_K (by k_in) rfl (by k_dflt k_is) rfl rfl rfl); (case qzc5 => decide); (case qzkB => exact locs rfl); (case qzc2 => exact rfl); (case qzc3 => exact rfl); (case qzc4 => exact rfl); k_whole; intro g' L' h' tk' FG' F' N' B' X' T'; (try dsimp only); (try k_lift B'); (try k_fold)))))
  k_with "r4" => (first | ktr_member | exact List.mem_cons_self | (refine' List.mem_cons_of_mem _ ?_; k_mem))
  k_with "r5" => (first | exact selfSub | exact nilSub | (refine' tailSub ?_; k_allIn))
  k_with "r6" => (first | assumption | with_reducible exact selfSub | with_reducible exact nilSub | (refine' consSub ?qza ?qzb; (case qza => k_mem); (case qzb => ktr_rel)) | k_allIn)
  k_with "r7" => (first | assumption | (refine ltN ?_; omega) | exact ltAll (by assumption) | exact ltAll (And.right (by assumption)) | exact ltAll (And.right (And.right (by assumption))) | exact ltAll (And.right (And.right (And.right (by assumption)))) | exact ltAll (And.right (And.right (And.right (And.right (by assumption))))) | (refine' newsSub ?qzn ?qzx; (case qzn => assumption); (case qzx => ktr_rel)))
  k_with "r8" => ((k_here; (with_reducible show wpAny _ _ (subscriptTail _ _ (Value.ref _) (Value.ref _)) _ _ _); (refine' slice1 ?qzf ?qzn ?qzm ?qzl ?_ ?qzs ?qzg; (case qzf => k_asm); (case qzn => k_asm); (case qzm => k_mem); (case qzl => exact Nat.le_of_ble_eq_true rfl); (case qzs => with_unfolding_all rfl); (case qzg => (intro _; with_unfolding_all rfl))); intro r' h' F' N' l1; (try k_lt l1)))
  k_with "r9" => ((k_here; (with_reducible show wpAny _ _ (call (Value.ref 73) [Value.int _ _]) _ _ _); k_dflt (refine' mask_c ?qzb ?qzf ?qzx ?qzn ?qzt ?qzk ?qzd ?qzu ?qzp0 ?_; (case qzb => k_asm); (case qzf => k_asm); (case qzx => k_asm); (case qzn => k_asm); (case qzt => k_asm); (case qzk => first | exact rfl | assumption); (case qzd => k_room); (case qzu => k_units); (case qzp0 => assumption); k_whole); intro h' tk' t' F' N'))
  k_with "r10" => ((k_here; (with_reducible show wpAny _ _ (call (Value.ref 81) [Value.int _ _, Value.int _ _, Value.int _ _]) _ _ _); k_dflt (refine' vec_c ?qzb ?qzf ?qzx ?qzn ?qzt ?qzk ?qzd ?qzu ?qzp0 ?qzp1 ?qzp2 ?_; (case qzb => k_asm); (case qzf => k_asm); (case qzx => k_asm); (case qzn => k_asm); (case qzt => k_asm); (case qzk => first | exact rfl | assumption); (case qzd => k_room); (case qzu => k_units); (case qzp0 => assumption); (case qzp1 => assumption); (case qzp2 => assumption); k_whole); intro r' h' tk' t1' t2' t3' n' F' N' l1; (try k_lt l1)))
  k_with "r11" => ((k_here; (with_reducible show wpAny _ _ (call (Value.ref 158) [Value.ref _, Value.int _ _, Value.bool _]) _ _ _); k_dflt (refine' extend_c ?qzb ?qzf ?qzx ?qzn ?qzt ?qzk ?qzd ?qzu ?qzp0 ?qzp1 ?qzp2 ?qzp3 ?_; (case qzb => k_asm); (case qzf => k_asm); (case qzx => k_asm); (case qzn => k_asm); (case qzt => k_asm); (case qzk => first | exact rfl | assumption); (case qzd => k_room); (case qzu => k_units); (case qzp3 => k_mem); (case qzp0 => assumption); (case qzp1 => assumption); (case qzp2 => assumption); k_whole); intro r' h' tk' t1' t2' t3' n' F' N' l1; (try k_lt l1)))
  k_with "r12" => ((k_here; (with_reducible show wpAny _ _ (call (Value.ref 913) [Value.ref _, Value.int _ _, Value.bool _]) _ _ _); k_dflt (refine' number_c ?qzb ?qzf ?qzx ?qzn ?qzt ?qzk ?qzd ?qzu ?qzp0 ?qzp1 ?qzp2 ?qzp3 ?qzp4 ?qzp5 ?_; (case qzb => k_asm); (case qzf => k_asm); (case qzx => k_asm); (case qzn => k_asm); (case qzt => k_asm); (case qzk => first | exact rfl | assumption); (case qzd => k_room); (case qzu => k_units); (case qzp3 => k_mem); (case qzp4 => k_mem); (case qzp0 => assumption); (case qzp1 => assumption); (case qzp2 => assumption); (case qzp5 => assumption); k_whole); intro r' h' tk' t0' t1' t2' t3' n' F' N' l1; (try k_lt l1)))
  k_with "r13" => ((k_here; (with_reducible show wpAny _ _ (call (Value.ref 1053) [_, Value.ref _]) _ _ _); k_dflt (refine' etype_num ?qzb ?qzf ?qzx ?qzn ?qzt ?qzk ?qzd ?qzu ?qzp0 ?qzp1 ?_; (case qzb => k_asm); (case qzf => k_asm); (case qzx => k_asm); (case qzn => k_asm); (case qzt => k_asm); (case qzk => first | exact rfl | assumption); (case qzd => k_room); (case qzu => k_units); (case qzp0 => k_mem); (case qzp1 => k_mem); k_whole); intro r' h' tk' t1' n' F' N' l1; (try k_lt l1)))
  k_with "r14" => ((k_here; (with_reducible show wpAny _ _ (call (Value.ref 1074) [_, Value.ref _, Value.int _ _, Value.bool _]) _ _ _); k_dflt (refine' build_num ?qzb ?qzf ?qzx ?qzn ?qzt ?qzk ?qzd ?qzu ?qzp0 ?qzp1 ?qzp2 ?qzp3 ?qzp4 ?qzp5 ?_; (case qzb => k_asm); (case qzf => k_asm); (case qzx => k_asm); (case qzn => k_asm); (case qzt => k_asm); (case qzk => first | exact rfl | assumption); (case qzd => k_room); (case qzu => k_units); (case qzp3 => k_mem); (case qzp4 => k_mem); (case qzp0 => assumption); (case qzp1 => assumption); (case qzp2 => assumption); (case qzp5 => assumption); k_whole); intro r' h' tk' t0' t1' t2' t3' n' F' N' l1; (try k_lt l1)))
  k_with "r15" => ((k_here; (with_reducible show wpAny _ _ (call (Value.ref 1081) [_, Value.ref _]) _ _ _); k_dflt (refine' self_num ?qzb ?qzf ?qzx ?qzn ?qzt ?qzk ?qzd ?qzu ?qzp0 ?qzp1 ?qzp2 ?qzp3 ?qzp4 ?qzp5 ?_; (case qzb => k_asm); (case qzf => k_asm); (case qzx => k_asm); (case qzn => k_asm); (case qzt => k_asm); (case qzk => first | exact rfl | assumption); (case qzd => k_room); (case qzu => k_units); (case qzp3 => k_mem); (case qzp4 => k_mem); (case qzp0 => assumption); (case qzp1 => assumption); (case qzp2 => assumption); (case qzp5 => assumption); k_whole); intro r' c' h' tk' t0' t1' t2' t3' n' n2' F' N' l1 l2; (try k_lt l1); (try k_lt2 l2)))
  k_with "r16" => ((k_here; (with_reducible show wpAny _ _ (call (Value.ref 1095) [_, Value.ref _, Value.int _ _]) _ _ _); k_dflt (refine' cvec_c ?qzb ?qzf ?qzx ?qzn ?qzt ?qzk ?qzd ?qzu ?qzp0 ?_; (case qzb => k_asm); (case qzf => k_asm); (case qzx => k_asm); (case qzn => k_asm); (case qzt => k_asm); (case qzk => first | exact rfl | assumption); (case qzd => k_room); (case qzu => k_units); (case qzp0 => k_mem); k_whole); intro r' h' tk' t1' t2' t3' n' F' N' l1; (try k_lt l1)))
  k_with "r17" => ((first | (refine' code_defY ?qzk6 ?qze1 ?qze2 ?qze3 ?qzk1 ?qzk2 ?qzk3 ?qzk4 ?qzk5 ?qzkA ?qzkF ?qzkK ?qzk7 ?qzk8 ?qzk9 ?qzkz ?qzkB ?_ ?qzc2 ?qzc3 ?qzc4 ?qzc5; (case qzkA => exact rfl); (case qzkF => exact rfl); (case qzkK => first | exact rfl | assumption); (case qzk1 => k_asm); (case qzk2 => k_asm); (case qzk3 => k_asm); (case qzk4 => k_asm); (case qzk5 => k_asm); (case qzk6 => k_dflt k_is); (case qze1 => ((conv => lhs; whnf); try exact rfl)); (case qze2 => ((conv => lhs; whnf); try exact rfl)); (case qze3 => ((conv => lhs; whnf); try exact rfl)); (case qzk7 => k_dflt k_is); (case qzk8 => k_room); (case qzk9 => first | exact BindsTo.of_eq rfl | exact binds_K (by k_in) rfl (by k_dflt k_is) rfl rfl rfl); (case qzkz => exact rfl); (case qzc5 => decide); (case qzkB => exact locs rfl); (case qzc2 => exact rfl); (case qzc3 => exact rfl); (case qzc4 => exact rfl); k_whole; intro g' L' h' tk' FG' F' N' B' X' T'; (try dsimp only); (try k_lift B'); (try k_fold)) | (refine' code_defT ?qzk6 ?qze1 ?qze2 ?qze3 ?qzk1 ?qzk2 ?qzk3 ?qzk4 ?qzk5 ?qzkA ?qzkF ?qzkK ?qzk7 ?qzk8 ?qzk9 ?qzkB ?_ ?qzc2 ?qzc3 ?qzc4 ?qzc5; (case qzkA => exact rfl); (case qzkF => exact rfl); (case qzkK => first | exact rfl | assumption); (case qzk1 => k_asm); (case qzk2 => k_asm); (case qzk3 => k_asm); (case qzk4 => k_asm); (case qzk5 => k_asm); (case qzk6 => k_dflt k_is); (case qze1 => ((conv => lhs; whnf); try exact rfl)); (case qze2 => ((conv => lhs; whnf); try exact rfl)); (case qze3 => ((conv => lhs; whnf); try exact rfl)); (case qzk7 => k_dflt k_is); (case qzk8 => k_room); (case qzk9 => first | exact BindsTo.of_eq rfl | exact binds_K (by k_in) rfl (by k_dflt k_is) rfl rfl rfl); (case qzc5 => decide); (case qzkB => exact locs rfl); (case qzc2 => exact rfl); (case qzc3 => exact rfl); (case qzc4 => exact rfl); k_whole; intro g' L' h' tk' FG' F' N' B' X' T'; (try dsimp only); (try k_lift B'); (try k_fold))))
  k_with "r18" => (first | assumption | exact selfSub | exact nilSub | (refine' tailSub ?_; k_allIn))
  k_with "r19" => ((k_here; (with_reducible show wpAny _ _ (call (Value.ref _) _) _ _ _); k_dflt (refine wpAny_call ?_; k_enter)))
  k_with "r20" => ((k_here; (with_reducible show wpAny _ _ (subscriptTail _ _ (Value.ref _) (Value.int _ _)) _ _ _); k_dflt (refine' item_tupleT ?qzt ?qza ?qzb ?qzc ?qzd ?_; (case qzt => exact News.isTup (by k_asm) (by k_mem)); (case qza => decide); (case qzb => decide); (case qzc => rfl); (case qzd => rfl); k_whole)))
  k_with "r21" => ((k_here; (with_reducible show wpAny _ _ (call (Value.ref 123) [Value.ref _, Value.bool _]) _ _ _); k_dflt (refine' toint_c ?qzb ?qzf ?qzx ?qzn ?qzt ?qzk ?qzd ?qzu ?qzp0 ?qzp1 ?_; (case qzb => k_asm); (case qzf => k_asm); (case qzx => k_asm); (case qzn => k_asm); (case qzt => k_asm); (case qzk => first | exact rfl | assumption); (case qzd => k_room); (case qzu => k_units); (case qzp0 => k_mem); (case qzp1 => assumption); k_whole); intro h' tk' t' F' N'))
  k_with "r22" => (first | assumption | exact List.forall_mem_nil _ | (refine' List.forall_mem_cons.mpr ⟨?qza, ?qzb⟩; (case qza => k_ne); (case qzb => k_all)))
  k_with "r23" => ((k_here; (with_reducible show wpAny _ _ (call (Value.ref 1102) [_, Value.ref _]) _ _ _); (with_reducible rename ConstOk _ _ _ _ _ _ _ _ _ _ _ _ _ _ _ _  => hC23); k_dflt (refine' hC23 _ _ _ _ _ _ _ _ _ _ _ _ _ _ _ _ _ _ ?qzb ?qzf ?qzx ?qzn ?qzt ?qzk ?qzd ?qzu ?_; (case qzb => k_asm); (case qzf => k_asm); (case qzx => k_asm); (case qzn => k_asm); (case qzt => k_asm); (case qzk => first | exact rfl | assumption); (case qzd => k_room); (case qzu => k_units); k_whole); intro r' c' h' tk' t1' t2' t3' n1' n2' tn' F' N' l1 l2; (try k_lt l1); (try k_lt2 l2)))
  k_with "r24" => (first | (refine' Del.head ?qza; (case qza => k_all)) | (refine' Del.tail ?qza ?qzb; (case qza => k_ne); (case qzb => k_updF)))
  k_with "r25" => (first | assumption | exact List.forall_mem_nil _ | exact allNe (by tb_rel) | (refine' List.forall_mem_cons.mpr ⟨?qza, ?qzb⟩; (case qza => k_ne); (case qzb => k_all)))
  k_with "r26" => ((k_here; (with_reducible show wpAny _ _ (exec (Stmt.For (Expr.Name _ _) _ _ [] _) _) _ _ _); (rename Fr _ _ _ _ => lF'); refine' forOne lF' ?_ (by intro _; rfl)))
  k_with "r27" => (((first | (refine' OneAt.tup ?qzoh ?qzox ?qzop ?qzoe ?qzof ?qzon ?qzom ?_; (case qzon => k_asm); (case qzom => k_mem)) | (refine' OneAt.lst ?qzoh ?qzox ?qzop ?qzoe ?qzof ?qzon ?qzom ?_; (case qzon => k_asm); (case qzom => k_mem))); (case qzoh => exact rfl); (case qzox => exact rfl); (case qzop => exact rfl); (case qzoe => passes_own); (case qzof => k_asm); intro I' it' h' tk' l1 F' N'; (try k_lt l1); (try dsimp only [envOf] at F' N')))
  k_with "r28" => (first | (refine' OneEnd.nx ?qzqf ?qzqn ?qzqi ?qzqa ?qzqd ?_; (case qzqf => k_asm); (case qzqn => k_asm); (case qzqi => k_mem); (case qzqa => k_mem); (case qzqd => k_updF); intro h' tk' F' N'; (try dsimp only [envOf] at F' N'); (try dsimp only)) | refine' OneEnd.rt ?_)
  k_with "r29" => ((k_here; (with_reducible show wpAny _ _ (call (Value.ref 864) [Value.int _ _, _]) _ _ _); k_dflt (refine' cw_c ?qzb ?qzf ?qzx ?qzn ?qzt ?qzk ?qzd ?qzu ?qzp0 ?_; (case qzb => k_asm); (case qzf => k_asm); (case qzx => k_asm); (case qzn => k_asm); (case qzt => k_asm); (case qzk => first | exact rfl | assumption); (case qzd => k_room); (case qzu => k_units); (case qzp0 => assumption); k_whole); intro h' tk' t' F' N'))
  k_with "r30" => ((k_here; (with_reducible show wpAny _ _ (call (Value.ref 885) [Value.ref _]) _ _ _); k_dflt (refine' ij_c ?qzb ?qzf ?qzx ?qzn ?qzt ?qzk ?qzd ?qzu ?qzp0 ?_; (case qzb => k_asm); (case qzf => k_asm); (case qzx => k_asm); (case qzn => k_asm); (case qzt => k_asm); (case qzk => first | exact rfl | assumption); (case qzd => k_room); (case qzu => k_units); (case qzp0 => k_mem); k_whole); intro r' h' tk' t1' t2' n' F' N' l1; (try k_lt l1)))
  k_with "r31" => ((k_here; (with_reducible show wpAny _ _ (exec (Stmt.For (Expr.Name _ _) _ _ [] _) _) _ _ _); (rename Fr _ _ _ _ => lF'); k_dflt (refine' forOne lF' ?_ (by intro _; rfl))))
  k_with "r32" => (k_dflt ((first | (refine' OneAt.tup ?qzoh ?qzox ?qzop ?qzoe ?qzof ?qzon ?qzom ?_; (case qzon => k_asm); (case qzom => k_mem)) | (refine' OneAt.lst ?qzoh ?qzox ?qzop ?qzoe ?qzof ?qzon ?qzom ?_; (case qzon => k_asm); (case qzom => k_mem))); (case qzoh => exact rfl); (case qzox => exact rfl); (case qzop => exact rfl); (case qzoe => passes_own); (case qzof => k_asm); intro I' it' h' tk' l1 F' N'; (try k_lt l1); (try dsimp only [envOf] at F' N')))
  k_with "r33" => (k_dflt first | (refine' OneEnd.nx ?qzqf ?qzqn ?qzqi ?qzqa ?qzqd ?_; (case qzqf => k_asm); (case qzqn => k_asm); (case qzqi => k_mem); (case qzqa => k_mem); (case qzqd => k_updF); intro h' tk' F' N'; (try dsimp only [envOf] at F' N'); (try dsimp only)) | refine' OneEnd.rt ?_)
  k_with "r34" => ((k_here; (with_reducible show wpAny _ _ (call (Value.ref 1018) [_, Value.ref _]) _ _ _); k_dflt (refine' jp_c ?qzb ?qzf ?qzx ?qzn ?qzt ?qzk ?qzd ?qzu ?qzp0 ?qzp1 ?qzp2 ?qzp3 ?_; (case qzb => k_asm); (case qzf => k_asm); (case qzx => k_asm); (case qzn => k_asm); (case qzt => k_asm); (case qzk => first | exact rfl | assumption); (case qzd => k_room); (case qzu => k_units); (case qzp0 => k_mem); (case qzp1 => k_mem); (case qzp2 => k_mem); (case qzp3 => k_mem); k_whole); intro r' h' tk' n' F' N' l1; (try k_lt l1)))
  k_with "r35" => ((k_here; (with_reducible show wpAny _ _ (call (Value.ref 1032) [_, Value.ref _]) _ _ _); k_dflt (refine' jwcat_c ?qzb ?qzf ?qzx ?qzn ?qzt ?qzk ?qzd ?qzu ?qzp0 ?qzp1 ?qzp2 ?qzp3 ?_; (case qzb => k_asm); (case qzf => k_asm); (case qzx => k_asm); (case qzn => k_asm); (case qzt => k_asm); (case qzk => first | exact rfl | assumption); (case qzd => k_room); (case qzu => k_units); (case qzp0 => k_mem); (case qzp1 => k_mem); (case qzp2 => k_mem); (case qzp3 => k_mem); k_whole); intro h' tk' t' F' N'))
  k_with "r36" => ((k_here; (with_reducible show wpAny _ _ (call (Value.ref 1109) [_, Value.ref _]) _ _ _); (with_reducible rename DCall _ _ _ _ _ _ _ _ 1109 _ _ _ _ => hC36); k_dflt (refine' useD hC36 ?qzub ?qzuf ?qzux ?qzun ?qzud ?qzum ?qzus ?qzut ?qzuk ?qzue ?qzuu ?_; (case qzub => k_asm); (case qzuf => k_asm); (case qzux => k_asm); (case qzun => k_asm); (case qzud => k_updF); (case qzum => k_mem); (case qzus => ktr_rel); (case qzut => k_asm); (case qzuk => first | exact rfl | assumption); (case qzue => k_room); (case qzuu => k_units); k_whole; intro r' h' tk' tn' ext' F' N' l1 R'; (obtain ⟨he, t', hr⟩ := R'); (subst he); (subst hr); clear l1; (simp only [List.nil_append] at N'))))
  k_with "r37" => ((k_here; (with_reducible show wpAny _ _ (call (Value.ref 1025) [_, Value.ref _]) _ _ _); (with_reducible rename DCall _ _ _ _ _ _ _ _ 1025 _ _ _ _ => hC37); k_dflt (refine' useD hC37 ?qzub ?qzuf ?qzux ?qzun ?qzud ?qzum ?qzus ?qzut ?qzuk ?qzue ?qzuu ?_; (case qzub => k_asm); (case qzuf => k_asm); (case qzux => k_asm); (case qzun => k_asm); (case qzud => k_updF); (case qzum => k_mem); (case qzus => ktr_rel); (case qzut => k_asm); (case qzuk => first | exact rfl | assumption); (case qzue => k_room); (case qzuu => k_units); k_whole; intro r' h' tk' tn' ext' F' N' l1 R'; (obtain ⟨he, t', hr⟩ := R'); (subst he); (subst hr); clear l1; (simp only [List.nil_append] at N'))))
  k_with "r38" => ((k_here; (with_reducible show wpAny _ _ (call (Value.ref 151) [Value.ref _]) _ _ _); k_dflt (refine' concat_c ?qzb ?qzf ?qzx ?qzn ?qzt ?qzk ?qzd ?qzu ?qzp0 ?qzp1 ?_; (case qzb => k_asm); (case qzf => k_asm); (case qzx => k_asm); (case qzn => k_asm); (case qzt => k_asm); (case qzk => first | exact rfl | assumption); (case qzd => k_room); (case qzu => k_units); (case qzp0 => k_mem); (case qzp1 => k_mem); k_whole); intro r' h' tk' t1' t2' t3' n' F' N' l1; (try k_lt l1)))
  k_with "r39" => ((k_here; (with_reducible show wpAny _ _ (call (Value.ref 605) [Value.ref _, _]) _ _ _); k_dflt (refine' ev_const ?qzb ?qzf ?qzx ?qzn ?qzt ?qzk ?qzd ?qzu ?qzp0 ?_; (case qzb => k_asm); (case qzf => k_asm); (case qzx => k_asm); (case qzn => k_asm); (case qzt => k_asm); (case qzk => first | exact rfl | assumption); (case qzd => k_room); (case qzu => k_units); (case qzp0 => k_mem); k_whole); intro r' h' tk' t1' t2' t3' n' F' N' l1; (try k_lt l1)))
  k_with "r40" => (k_dflt (refine' comp1 ?qzlc ?qzlk ?qzln ?_ (by intro _; rfl); (case qzlc => exact rfl); (case qzlk => exact rfl); (case qzln => decide)))
  k_with "r41" => (first | assumption | (refine ltN ?_; omega) | exact ltAll (by assumption) | exact ltAll (And.right (by assumption)) | exact ltAll (And.right (And.right (by assumption))) | exact ltAll (And.right (And.right (And.right (by assumption)))) | exact ltAll (And.right (And.right (And.right (And.right (by assumption))))) | exact ltAll (And.right (And.right (And.right (And.right (And.right (by assumption)))))) | exact ltAll (And.right (And.right (And.right (And.right (And.right (And.right (by assumption))))))) | exact ltAll (And.right (And.right (And.right (And.right (And.right (And.right (And.right (by assumption)))))))) | exact ltAll (And.right (And.right (And.right (And.right (And.right (And.right (And.right (And.right (by assumption))))))))) | exact ltAll (And.right (And.right (And.right (And.right (And.right (And.right (And.right (And.right (And.right (by assumption)))))))))) | exact ltAll (And.right (And.right (And.right (And.right (And.right (And.right (And.right (And.right (And.right (And.right (by assumption))))))))))) | exact ltAll (And.right (And.right (And.right (And.right (And.right (And.right (And.right (And.right (And.right (And.right (And.right (by assumption)))))))))))) | exact ltAll (And.right (And.right (And.right (And.right (And.right (And.right (And.right (And.right (And.right (And.right (And.right (And.right (by assumption))))))))))))) | exact ltAll (And.right (And.right (And.right (And.right (And.right (And.right (And.right (And.right (And.right (And.right (And.right (And.right (And.right (by assumption)))))))))))))) | exact ltAll (And.right (And.right (And.right (And.right (And.right (And.right (And.right (And.right (And.right (And.right (And.right (And.right (And.right (And.right (by assumption))))))))))))))) | exact ltAll (And.right (And.right (And.right (And.right (And.right (And.right (And.right (And.right (And.right (And.right (And.right (And.right (And.right (And.right (And.right (by assumption)))))))))))))))) | exact ltAll (And.right (And.right (And.right (And.right (And.right (And.right (And.right (And.right (And.right (And.right (And.right (And.right (And.right (And.right (And.right (And.right (by assumption))))))))))))))))) | exact ltAll (And.right (And.right (And.right (And.right (And.right (And.right (And.right (And.right (And.right (And.right (And.right (And.right (And.right (And.right (And.right (And.right (And.right (by assumption)))))))))))))))))) | (refine' newsSub ?qzn ?qzx; (case qzn => assumption); (case qzx => ktr_rel)))
  k_with "r42" => ((k_here; (with_reducible show wpAny _ _ (call (Value.ref 605) [Value.ref _, _]) _ _ _); k_dflt (refine' ev_cat ?qzb ?qzf ?qzx ?qzn ?qzt ?qzk ?qzd ?qzu ?qzp0 ?qzp1 ?qzp2 ?_; (case qzb => k_asm); (case qzf => k_asm); (case qzx => k_asm); (case qzn => k_asm); (case qzt => k_asm); (case qzk => first | exact rfl | assumption); (case qzd => k_room); (case qzu => k_units); (case qzp0 => k_mem); (case qzp1 => k_mem); (case qzp2 => k_mem); k_whole); intro r' h' tk' t1' t2' t3' n' F' N' l1; (try k_lt l1)))
  k_with "r43" => ((k_here; (with_reducible show wpAny _ _ (call (Value.ref 1032) [_, Value.ref _]) _ _ _); (with_reducible rename DCall _ _ _ _ _ _ _ _ 1032 _ _ _ _ => hC43); k_dflt (refine' useD hC43 ?qzub ?qzuf ?qzux ?qzun ?qzud ?qzum ?qzus ?qzut ?qzuk ?qzue ?qzuu ?_; (case qzub => k_asm); (case qzuf => k_asm); (case qzux => k_asm); (case qzun => k_asm); (case qzud => k_updF); (case qzum => k_mem); (case qzus => ktr_rel); (case qzut => k_asm); (case qzuk => first | exact rfl | assumption); (case qzue => k_room); (case qzuu => k_units); k_whole; intro r' h' tk' tn' ext' F' N' l1 R'; (obtain ⟨he, t', hr⟩ := R'); (subst he); (subst hr); clear l1; (simp only [List.nil_append] at N'))))
  k_with "r44" => ((k_here; (with_reducible show wpAny _ _ (call (Value.ref 857) [Value.ref _]) _ _ _); k_dflt (refine' folded_c ?qzb ?qzf ?qzx ?qzn ?qzt ?qzk ?qzd ?qzu ?qzp0 ?qzp1 ?qzp2 ?_; (case qzb => k_asm); (case qzf => k_asm); (case qzx => k_asm); (case qzn => k_asm); (case qzt => k_asm); (case qzk => first | exact rfl | assumption); (case qzd => k_room); (case qzu => k_units); (case qzp0 => k_mem); (case qzp1 => k_mem); (case qzp2 => k_mem); k_whole); intro r' h' tk' t0' t1' t2' t3' n' F' N' l1; (try k_lt l1)))
  k_with "r45" => ((k_here; (with_reducible show wpAny _ _ (binaryOp Operator.Mult (Value.ref _) (Value.int 1 _)) _ _ _); k_dflt (refine' mul_tup1 ?qzml ?_; (case qzml => exact News.get (by k_asm) (by k_mem)))))
  k_with "r46" => ((k_here; (with_reducible show wpAny _ _ (call (Value.ref 1039) [_, Value.ref _]) _ _ _); k_dflt (refine' jvcat_c ?qzb ?qzf ?qzx ?qzn ?qzt ?qzk ?qzd ?qzu ?qzp0 ?qzp1 ?qzp2 ?qzp3 ?_; (case qzb => k_asm); (case qzf => k_asm); (case qzx => k_asm); (case qzn => k_asm); (case qzt => k_asm); (case qzk => first | exact rfl | assumption); (case qzd => k_room); (case qzu => k_units); (case qzp0 => k_mem); (case qzp1 => k_mem); (case qzp2 => k_mem); (case qzp3 => k_mem); k_whole); intro r' h' tk' t0' t1' t2' t3' n' F' N' l1; (try k_lt l1)))
  k_with "r47" => ((k_here; (with_reducible show wpAny _ _ (call (Value.ref 1039) [_, Value.ref _]) _ _ _); (with_reducible rename DCall _ _ _ _ _ _ _ _ 1039 _ _ _ _ => hC47); k_dflt (refine' useD hC47 ?qzub ?qzuf ?qzux ?qzun ?qzud ?qzum ?qzus ?qzut ?qzuk ?qzue ?qzuu ?_; (case qzub => k_asm); (case qzuf => k_asm); (case qzux => k_asm); (case qzun => k_asm); (case qzud => k_updF); (case qzum => k_mem); (case qzus => ktr_rel); (case qzut => k_asm); (case qzuk => first | exact rfl | assumption); (case qzue => k_room); (case qzuu => k_units); k_whole; intro r' h' tk' tn' ext' F' N' l1 R'; (obtain ⟨a', t0', t1', t2', t3', n', he, hr⟩ := R'); (subst he); (subst hr); (obtain ⟨lA, lB⟩ := l1 _ List.mem_cons_self); clear l1; (simp only [List.nil_append, List.cons_append] at N'); (try k_lt lB); (try k_lt2 lA))))
  k_with "r48" => ((k_here; (with_reducible show wpAny _ _ (call (Value.ref 1053) [_, Value.ref _]) _ _ _); (with_reducible rename DCall _ _ _ _ _ _ _ _ 1053 _ _ _ _ => hC48); k_dflt (refine' useD hC48 ?qzub ?qzuf ?qzux ?qzun ?qzud ?qzum ?qzus ?qzut ?qzuk ?qzue ?qzuu ?_; (case qzub => k_asm); (case qzuf => k_asm); (case qzux => k_asm); (case qzun => k_asm); (case qzud => k_updF); (case qzum => k_mem); (case qzus => ktr_rel); (case qzut => k_asm); (case qzuk => first | exact rfl | assumption); (case qzue => k_room); (case qzuu => k_units); k_whole; intro r' h' tk' tn' ext' F' N' l1 R'; (obtain ⟨a', t', n', he, hr⟩ := R'); (subst he); (subst hr); (obtain ⟨lA, lB⟩ := l1 _ List.mem_cons_self); clear l1; (simp only [List.nil_append, List.cons_append] at N'); (try k_lt lB); (try k_lt2 lA))))
  k_with "r49" => ((k_here; (with_reducible show wpAny _ _ (call (Value.ref 1074) [_, Value.ref _, Value.int _ _, Value.bool _]) _ _ _); (with_reducible rename DCall _ _ _ _ _ _ _ _ 1074 _ _ _ _ => hC49); k_dflt (refine' useD hC49 ?qzub ?qzuf ?qzux ?qzun ?qzud ?qzum ?qzus ?qzut ?qzuk ?qzue ?qzuu ?_; (case qzub => k_asm); (case qzuf => k_asm); (case qzux => k_asm); (case qzun => k_asm); (case qzud => k_updF); (case qzum => k_mem); (case qzus => ktr_rel); (case qzut => k_asm); (case qzuk => first | exact rfl | assumption); (case qzue => k_room); (case qzuu => k_units); k_whole; intro r' h' tk' tn' ext' F' N' l1 R'; (obtain ⟨a', t0', t1', t2', t3', n', he, hr⟩ := R'); (subst he); (subst hr); (obtain ⟨lA, lB⟩ := l1 _ List.mem_cons_self); clear l1; (simp only [List.nil_append, List.cons_append] at N'); (try k_lt lB); (try k_lt2 lA))))
  k_with "r50" => ((k_here; (with_reducible show wpAny _ _ (call (Value.ref 1074) [_, Value.ref _, Value.int _ _, Value.bool _]) _ _ _); (with_reducible rename BCall _ _ _ _ _ _ _ _ _ _ _ _ => hC50); k_dflt (refine' useD (hC50 _) ?qzub ?qzuf ?qzux ?qzun ?qzud ?qzum ?qzus ?qzut ?qzuk ?qzue ?qzuu ?_; (case qzub => k_asm); (case qzuf => k_asm); (case qzux => k_asm); (case qzun => k_asm); (case qzud => k_updF); (case qzum => k_mem); (case qzus => ktr_rel); (case qzut => k_asm); (case qzuk => first | exact rfl | assumption); (case qzue => k_room); (case qzuu => k_units); k_whole; intro r' h' tk' tn' ext' F' N' l1 R'; (obtain ⟨a', t0', t1', t2', t3', n', he, hr⟩ := R'); (subst he); (subst hr); (obtain ⟨lA, lB⟩ := l1 _ List.mem_cons_self); clear l1; (simp only [List.nil_append, List.cons_append] at N'); (try k_lt lB); (try k_lt2 lA))))
  k_with "r51" => ((k_here; (with_reducible show wpAny _ _ (call (Value.ref 1081) [_, Value.ref _]) _ _ _); (with_reducible rename DCall _ _ _ _ _ _ _ _ 1081 _ _ _ _ => hC51); k_dflt (refine' useD hC51 ?qzub ?qzuf ?qzux ?qzun ?qzud ?qzum ?qzus ?qzut ?qzuk ?qzue ?qzuu ?_; (case qzub => k_asm); (case qzuf => k_asm); (case qzux => k_asm); (case qzun => k_asm); (case qzud => k_updF); (case qzum => k_mem); (case qzus => ktr_rel); (case qzut => k_asm); (case qzuk => first | exact rfl | assumption); (case qzue => k_room); (case qzuu => k_units); k_whole; intro r' h' tk' tn' ext' F' N' l1 R'; (obtain ⟨a', c', t0', t1', t2', t3', n', n2', he, hr, lC⟩ := R'); (subst he); (subst hr); (obtain ⟨lA, lB⟩ := l1 _ (List.mem_cons_of_mem _ List.mem_cons_self)); clear l1; (simp only [List.nil_append, List.cons_append] at N'); (try k_lt lB); (try k_lt2 lA); (try k_lt2 lC))))
  k_with "r52" => ((k_here; k_dflt (first | (refine' exc_set0 ?qzf ?qzx ?qzn ?qzt ?qzh ?_; (case qzf => k_asm); (case qzx => k_asm); (case qzn => k_asm); (case qzt => k_is); (case qzh => k_all); k_whole; intro h' d' F' N' l1 l2; (try k_lt l1); (try k_lt2 l2)) | (refine' exc_set1 ?qzf ?qzx ?qzn ?qzi ?qzd ?qzt ?qzl ?qze ?qzu ?qzz ?_; (case qzf => k_asm); (case qzx => k_asm); (case qzn => k_asm); (case qzi => (refine' exc_inst ?qzi0 ?qzi1 ?qzi2; (case qzi0 => k_asm); (case qzi1 => k_mem); (case qzi2 => k_mem))); (case qzd => exact rfl); (case qzt => k_is); (case qzl => k_get); (case qze => k_put); (case qzu => k_upd); (case qzz => exact Nat.le_of_ble_eq_true rfl); k_whole; intro h' F' N'; (try k_sweep)))))
  k_with "r53" => ((k_here; k_dflt (first | (refine' leave_onD ?qzlk ?qzlf ?qzlr ?qzlu ?_; (case qzlr => assumption); (case qzlf => assumption); (case qzlk => assumption); (case qzlu => assumption); k_whole; intro h' R' U'; (try dsimp only at R' U' ⊢)) | (refine' leave_heldD ?qzlr ?qzlu ?_; (case qzlr => assumption); (case qzlu => assumption); k_whole; intro h' R' U'; (try dsimp only at R' U' ⊢)) | (refine' leave_firstX ?qzlk ?qzlf ?qzln ?qzlm ?qzld ?_; (case qzln => k_asm); (case qzlf => assumption); (case qzlk => assumption); (case qzlm => k_mem); (case qzld => k_updF); k_whole; intro h' R' U'; (try dsimp only at R' U' ⊢)))))
  k_with "r54" => (k_dflt (refine' RaisePost.mk ?qzrf ?qzrx ?qzrn ?qzrm ?_; (case qzrn => k_asm); (case qzrf => k_asm); (case qzrx => k_asm); (case qzrm => k_mem)))
  k_with "r55" => ((k_here; k_dflt (refine' raise_D ?qzhh ?_; (case qzhh => exact rfl))))
  k_with "r56" => ((k_here; (with_reducible show wpAny _ _ (call (Value.ref 52) [Value.str _ _, Value.int _ _]) _ _ _); k_dflt (refine' make2_c ?qzb ?qzf ?qzx ?qzn ?qzt ?qzk ?qzd ?qzu  ?_; (case qzb => k_asm); (case qzf => k_asm); (case qzx => k_asm); (case qzn => k_asm); (case qzt => k_asm); (case qzk => first | exact rfl | assumption); (case qzd => k_room); (case qzu => k_units); k_whole); intro e' x' t' h' tk' k1' k2' k3' t3' o' F' N' l1 l3 l4 l2 l5; (try k_lt l1); (try k_lt l3); (try k_lt l4); (try k_lt2 l2); (try k_lt2 l5)))
  k_with "r57" => ((k_here; (with_reducible show wpAny _ _ (call (Value.ref 1109) [_, Value.ref _]) _ _ _); (with_reducible rename XCall _ _ _ _ _ _ _ _ 1109 _ _ _ _ _ _ => hC57); k_dflt (refine' useX hC57 ?qzub ?qzuf ?qzux ?qzun ?qzud ?qzum ?qzus ?qzut ?qzuk ?qzue ?qzuu ?qzuy ?qzuz ?_; (case qzub => k_asm); (case qzuf => k_asm); (case qzux => k_asm); (case qzun => k_asm); (case qzud => k_updF); (case qzum => k_mem); (case qzus => ktr_rel); (case qzut => k_asm); (case qzuk => first | exact rfl | assumption); (case qzue => k_room); (case qzuu => k_units); (case qzuy => assumption); (case qzuz => assumption); k_whole; intro G' e' x' h' tk' tn' k1' k2' k3' t1' t2' t3' FG' R' U' ne'; (try dsimp only))))
  k_with "r58" => ((k_here; (with_reducible show wpAny _ _ (call (Value.ref 1025) [_, Value.ref _]) _ _ _); (with_reducible rename XCall _ _ _ _ _ _ _ _ 1025 _ _ _ _ _ _ => hC58); k_dflt (refine' useX hC58 ?qzub ?qzuf ?qzux ?qzun ?qzud ?qzum ?qzus ?qzut ?qzuk ?qzue ?qzuu ?qzuy ?qzuz ?_; (case qzub => k_asm); (case qzuf => k_asm); (case qzux => k_asm); (case qzun => k_asm); (case qzud => k_updF); (case qzum => k_mem); (case qzus => ktr_rel); (case qzut => k_asm); (case qzuk => first | exact rfl | assumption); (case qzue => k_room); (case qzuu => k_units); (case qzuy => assumption); (case qzuz => assumption); k_whole; intro G' e' x' h' tk' tn' k1' k2' k3' t1' t2' t3' FG' R' U' ne'; (try dsimp only))))
  k_with "r59" => ((k_here; (with_reducible show wpAny _ _ (call (Value.ref 1032) [_, Value.ref _]) _ _ _); (with_reducible rename XCall _ _ _ _ _ _ _ _ 1032 _ _ _ _ _ _ => hC59); k_dflt (refine' useX hC59 ?qzub ?qzuf ?qzux ?qzun ?qzud ?qzum ?qzus ?qzut ?qzuk ?qzue ?qzuu ?qzuy ?qzuz ?_; (case qzub => k_asm); (case qzuf => k_asm); (case qzux => k_asm); (case qzun => k_asm); (case qzud => k_updF); (case qzum => k_mem); (case qzus => ktr_rel); (case qzut => k_asm); (case qzuk => first | exact rfl | assumption); (case qzue => k_room); (case qzuu => k_units); (case qzuy => assumption); (case qzuz => assumption); k_whole; intro G' e' x' h' tk' tn' k1' k2' k3' t1' t2' t3' FG' R' U' ne'; (try dsimp only))))
  k_with "r60" => ((k_here; (with_reducible show wpAny _ _ (call (Value.ref 1053) [_, Value.ref _]) _ _ _); (with_reducible rename XCall _ _ _ _ _ _ _ _ 1053 _ _ _ _ _ _ => hC60); k_dflt (refine' useX hC60 ?qzub ?qzuf ?qzux ?qzun ?qzud ?qzum ?qzus ?qzut ?qzuk ?qzue ?qzuu ?qzuy ?qzuz ?_; (case qzub => k_asm); (case qzuf => k_asm); (case qzux => k_asm); (case qzun => k_asm); (case qzud => k_updF); (case qzum => k_mem); (case qzus => ktr_rel); (case qzut => k_asm); (case qzuk => first | exact rfl | assumption); (case qzue => k_room); (case qzuu => k_units); (case qzuy => assumption); (case qzuz => assumption); k_whole; intro G' e' x' h' tk' tn' k1' k2' k3' t1' t2' t3' FG' R' U' ne'; (try dsimp only))))
  k_with "r61" => ((k_here; (with_reducible show wpAny _ _ (call (Value.ref 1081) [_, Value.ref _]) _ _ _); (with_reducible rename XCall _ _ _ _ _ _ _ _ 1081 _ _ _ _ _ _ => hC61); k_dflt (refine' useX hC61 ?qzub ?qzuf ?qzux ?qzun ?qzud ?qzum ?qzus ?qzut ?qzuk ?qzue ?qzuu ?qzuy ?qzuz ?_; (case qzub => k_asm); (case qzuf => k_asm); (case qzux => k_asm); (case qzun => k_asm); (case qzud => k_updF); (case qzum => k_mem); (case qzus => ktr_rel); (case qzut => k_asm); (case qzuk => first | exact rfl | assumption); (case qzue => k_room); (case qzuu => k_units); (case qzuy => assumption); (case qzuz => assumption); k_whole; intro G' e' x' h' tk' tn' k1' k2' k3' t1' t2' t3' FG' R' U' ne'; (try dsimp only))))
  k_with "r62" => ((k_here; k_dflt (refine' fin_D ?qzlr ?qzlf ?qzlk ?qzlu ?qzlx ?qzlt ?_; (case qzlr => assumption); (case qzlf => assumption); (case qzlk => assumption); (case qzlu => assumption); (case qzlx => assumption); (case qzlt => assumption); k_whole); intro h' g' T' oe' oT' F' fo' N' ne0 nE' nT' B' X' P'; (have qE' := nE' _ (List.mem_cons_of_mem _ List.mem_cons_self)); (have qT' := nT' _ (List.mem_cons_of_mem _ List.mem_cons_self)); (dsimp only at qE' qT'); (have qE2 := Ne.symm qE'); (have qT2 := Ne.symm qT'); (try dsimp only); (try k_lift B')))
  k_with "r63" => (k_dflt (refine' FinEnd.nx ?qzef ?qzen ?qzem ?_; (case qzen => k_asm); (case qzef => k_asm); (case qzem => exact rfl); intro h' R' U'; (try dsimp only)))
  k_with "r64" => ((k_here; (with_reducible show wpAny _ _ (call (Value.ref 1102) [_, Value.ref _]) _ _ _); (with_reducible rename XCall _ _ _ _ _ _ _ _ 1102 _ _ _ _ _ _ => hC64); k_dflt (refine' useX hC64 ?qzub ?qzuf ?qzux ?qzun ?qzud ?qzum ?qzus ?qzut ?qzuk ?qzue ?qzuu ?qzuy ?qzuz ?_; (case qzub => k_asm); (case qzuf => k_asm); (case qzux => k_asm); (case qzun => k_asm); (case qzud => k_updF); (case qzum => k_mem); (case qzus => ktr_rel); (case qzut => k_asm); (case qzuk => first | exact rfl | assumption); (case qzue => k_room); (case qzuu => k_units); (case qzuy => assumption); (case qzuz => assumption); k_whole; intro G' e' x' h' tk' tn' k1' k2' k3' t1' t2' t3' FG' R' U' ne'; (try dsimp only))))
  k_with "r65" => ((k_here; (with_reducible show wpAny _ _ (call (Value.ref 123) [Value.ref _, Value.bool _]) _ _ _); k_dflt (refine' toint_none ?qzb ?qzf ?qzx ?qzn ?qzt ?qzk ?qzd ?qzu ?qzp0 ?qzp1 ?_; (case qzb => k_asm); (case qzf => k_asm); (case qzx => k_asm); (case qzn => k_asm); (case qzt => k_asm); (case qzk => first | exact rfl | assumption); (case qzd => k_room); (case qzu => k_units); (case qzp1 => k_mem); (case qzp0 => assumption); k_whole); intro h' tk' F' N'))
  k_with "r66" => ((k_here; k_dflt (refine' while1 ?qzwe ?_; (case qzwe => passes_own))))
  k_with "r67" => (refine' W1.rt ?_)
  k_with "r68" => ((k_here; (with_reducible show wpAny _ _ (subscriptTail _ _ (Value.ref _) (Value.ref _)) _ _ _); (refine' slice02 ?qzf ?qzn ?qzm ?_ ?qzs ?qzg; (case qzf => k_asm); (case qzn => k_asm); (case qzm => k_mem); (case qzs => with_unfolding_all rfl); (case qzg => (intro _; with_unfolding_all rfl))); intro r' h' F' N' l1; (try k_lt l1)))
  k_with "r69" => ((k_here; (with_reducible show wpAny _ _ (subscriptTail _ _ (Value.ref _) (Value.int 0 _)) _ _ _); k_dflt (refine' item_lst0 ?qzi0 ?qzim ?_; (case qzi0 => k_asm); (case qzim => k_mem))))
  k_with "r70" => ((k_here; (with_reducible show wpAny _ _ (subscriptTail _ _ (Value.ref _) (Value.str _ _)) _ _ _); k_dflt (refine kda_item (knd := PySem.strKind _ _) (by k_asm) (by k_mem) (by k_asm) (strKind_is _ _ _ _) (by rfl) ?_)))
  k_with "r71" => ((k_here; k_dflt (first | refine kda_in (knd := PySem.strKind _ _) (by k_asm) (by k_mem) (by k_asm) (by k_asm) (strKind_is _ _ _ _) true (by rfl) ?_ | refine kda_in (knd := PySem.strKind _ _) (by k_asm) (by k_mem) (by k_asm) (by k_asm) (strKind_is _ _ _ _) false (by rfl) ?_)))
  k_with "r72" => ((k_here; (with_reducible show wpAny _ _ (call (Value.type _) [Value.ref _]) _ _ _); k_dflt (refine' call_revN ?qzrf ?qzrn ?qzrm ?_; (case qzrf => k_asm); (case qzrn => k_asm); (case qzrm => k_mem)); intro r' h' F' N' l1; (try k_lt l1); (try k_sweep)))
  k_with "r73" => (k_dflt (refine' OneAt.rev0 ?qzoh ?qzof ?qzon ?qzom ?qzod ?_; (case qzon => k_asm); (case qzom => k_mem); (case qzoh => exact rfl); (case qzof => k_asm); (case qzod => k_updF); intro h' F' N'; (try dsimp only [envOf] at F' N'); (try dsimp only)))
  k_with "r74" => ((k_here; (with_reducible show wpAny _ _ (call (Value.ref 742) [Value.ref _]) _ _ _); k_dflt (refine' subexpr_c ?qzb ?qzf ?qzx ?qzn ?qzt ?qzk ?qzd ?qzu ?qzp0 ?_; (case qzb => k_asm); (case qzf => k_asm); (case qzx => k_asm); (case qzn => k_asm); (case qzt => k_asm); (case qzk => first | exact rfl | assumption); (case qzd => k_room); (case qzu => k_units); (case qzp0 => k_mem); k_whole); intro r' h' tk' n' F' N' l1; (try k_lt l1)))
  k_with "r75" => ((k_here; (with_reducible show wpAny _ _ (call (Value.ref 1074) [_, Value.ref _, Value.int _ _, Value.bool _]) _ _ _); (with_reducible rename BCallS _ _ _ _ _ _ _ _ _ _ _ _ => hC75); k_dflt (refine' useD (hC75 _) ?qzub ?qzuf ?qzux ?qzun ?qzud ?qzum ?qzus ?qzut ?qzuk ?qzue ?qzuu ?_; (case qzub => k_asm); (case qzuf => k_asm); (case qzux => k_asm); (case qzun => k_asm); (case qzud => k_updF); (case qzum => k_mem); (case qzus => ktr_rel); (case qzut => k_asm); (case qzuk => first | exact rfl | assumption); (case qzue => k_room); (case qzuu => k_units); k_whole; intro r' h' tk' tn' ext' F' N' l1 R'; (obtain ⟨a', t0', t1', t2', n', he, hr⟩ := R'); (subst he); (subst hr); (obtain ⟨lA, lB⟩ := l1 _ List.mem_cons_self); clear l1; (simp only [List.nil_append, List.cons_append] at N'); (try k_lt lB); (try k_lt2 lA))))
  k_with "r76" => ((k_here; (with_reducible show wpAny _ _ (call (Value.ref 1081) [_, Value.ref _]) _ _ _); (with_reducible rename DCall _ _ _ _ _ _ _ _ 1081 _ _ _ _ => hC76); k_dflt (refine' useD hC76 ?qzub ?qzuf ?qzux ?qzun ?qzud ?qzum ?qzus ?qzut ?qzuk ?qzue ?qzuu ?_; (case qzub => k_asm); (case qzuf => k_asm); (case qzux => k_asm); (case qzun => k_asm); (case qzud => k_updF); (case qzum => k_mem); (case qzus => ktr_rel); (case qzut => k_asm); (case qzuk => first | exact rfl | assumption); (case qzue => k_room); (case qzuu => k_units); k_whole; intro r' h' tk' tn' ext' F' N' l1 R'; (obtain ⟨a', c', t0', t1', t2', n', n2', he, hr, lC⟩ := R'); (subst he); (subst hr); (obtain ⟨lA, lB⟩ := l1 _ (List.mem_cons_of_mem _ List.mem_cons_self)); clear l1; (simp only [List.nil_append, List.cons_append] at N'); (try k_lt lB); (try k_lt2 lA); (try k_lt2 lC))))
  k_with "r77" => ((k_here; (with_reducible show wpAny _ _ (call (Value.ref 934) [_, Value.ref _]) _ _ _); k_dflt (refine' isconst_c ?qzb ?qzf ?qzx ?qzn ?qzt ?qzk ?qzd ?qzu ?qzp0 ?_; (case qzb => k_asm); (case qzf => k_asm); (case qzx => k_asm); (case qzn => k_asm); (case qzt => k_asm); (case qzk => first | exact rfl | assumption); (case qzd => k_room); (case qzu => k_units); (case qzp0 => k_mem); k_whole); intro h' tk' F' N'))
  k_with "r78" => ((k_here; (with_reducible show wpAny _ _ (call (Value.ref 52) [Value.str _ _, Value.int _ _, Value.str _ _]) _ _ _); k_dflt (refine' make3_c ?qzb ?qzf ?qzx ?qzn ?qzt ?qzk ?qzd ?qzu  ?_; (case qzb => k_asm); (case qzf => k_asm); (case qzx => k_asm); (case qzn => k_asm); (case qzt => k_asm); (case qzk => first | exact rfl | assumption); (case qzd => k_room); (case qzu => k_units); k_whole); intro e' x' t' h' tk' k1' k2' k3' t3' o' F' N' l1 l3 l4 l2 l5; (try k_lt l1); (try k_lt l3); (try k_lt l4); (try k_lt2 l2); (try k_lt2 l5)))
  k_with "r79" => ((k_here; k_dflt (refine' caught_D ?qzlr ?qzlf ?qzlk ?qzlu ?qzlx ?qzlt ?qzle ?_; (case qzlr => assumption); (case qzlf => assumption); (case qzlk => assumption); (case qzlu => assumption); (case qzlx => assumption); (case qzlt => assumption); (case qzle => k_is); k_whole); intro h' g' oe' tk' TT' F' N' hc' hd' hn' nE' B' X' P'; (try dsimp only); (try k_lift B')))
  k_with "r80" => ((k_here; k_dflt (refine' exc_read ?qzrf ?qzrx ?qzrn ?qzr1 ?qzr2 ?qzrc ?qzrd ?qzro ?qzrh ?qzra ?qzrg ?qzrl ?qzrv ?_; (case qzrd => assumption); (case qzrc => assumption); (case qzro => assumption); (case qzrf => k_asm); (case qzrx => k_asm); (case qzrn => k_asm); (case qzr1 => k_mem); (case qzr2 => k_mem); (case qzrh => k_is); (case qzra => k_is); (case qzrg => k_is); (case qzrl => k_get); (case qzrv => exact rfl))))
  k_with "r81" => ((k_dflt (refine' leaveS0_ ?qzlf ?qzln ?qzlt ?_; (case qzlf => k_asm); (case qzln => k_asm); (case qzlt => assumption); k_whole); intro kF kN; (try dsimp only)))
  k_with "r82" => ((k_here; (with_reducible show wpAny _ _ (call (Value.ref 1116) [_, Value.ref _]) _ _ _); (with_reducible rename XCall _ _ _ _ _ _ _ _ 1116 _ _ _ _ _ _ => hC82); k_dflt (refine' useX hC82 ?qzub ?qzuf ?qzux ?qzun ?qzud ?qzum ?qzus ?qzut ?qzuk ?qzue ?qzuu ?qzuy ?qzuz ?_; (case qzub => k_asm); (case qzuf => k_asm); (case qzux => k_asm); (case qzun => k_asm); (case qzud => k_updF); (case qzum => k_mem); (case qzus => ktr_rel); (case qzut => k_asm); (case qzuk => first | exact rfl | assumption); (case qzue => k_room); (case qzuu => k_units); (case qzuy => assumption); (case qzuz => assumption); k_whole; intro G' e' x' h' tk' tn' k1' k2' k3' t1' t2' t3' FG' R' U' ne'; (try dsimp only))))
  k_with "r83" => ((k_here; (with_reducible show wpAny _ _ (call (Value.ref 1116) [_, Value.ref _]) _ _ _); (with_reducible rename DCall _ _ _ _ _ _ _ _ 1116 _ _ _ _ => hC83); k_dflt (refine' useD hC83 ?qzub ?qzuf ?qzux ?qzun ?qzud ?qzum ?qzus ?qzut ?qzuk ?qzue ?qzuu ?_; (case qzub => k_asm); (case qzuf => k_asm); (case qzux => k_asm); (case qzun => k_asm); (case qzud => k_updF); (case qzum => k_mem); (case qzus => ktr_rel); (case qzut => k_asm); (case qzuk => first | exact rfl | assumption); (case qzue => k_room); (case qzuu => k_units); k_whole; intro r' h' tk' tn' ext' F' N' l1 R'; (obtain ⟨he, t', hr⟩ := R'); (subst he); (subst hr); clear l1; (simp only [List.nil_append] at N'))))
  k_with "r84" => ((k_here; k_dflt ((with_reducible show wpAny _ _ (call (Value.builtin _) [Value.ref _, Value.int _ _]) _ _ _); refine' pop0 ?qzF ?qzN ?qzU ?qzz ?_; (case qzF => k_asm); (case qzN => k_asm); (case qzU => k_upd); (case qzz => assumption)); intro h' F' N'))
  k_with "r85" => (((try simp only [depth_under_make, depth_under_kw, depth_in1, depth_deeper, depth_caller]); (try dsimp only [ktrTop]); first | omega | decide))
  k_with "r86" => (first | exact Nat.le_of_ble_eq_true rfl | ((try simp only [units_in1, units_deeper, Around.mark_units, units_caller]); (try dsimp only [ktrTop]); first | omega | decide))
  k_with "r87" => ((k_here; (with_reducible show wpAny _ _ (call (Value.ref 1326) _) _ _ _); k_dflt (refine' take_u ?qzub ?qzuf ?qzux ?qzun ?qzut ?qzuk ?qzud ?qzuu ?qzm1 ?qzd1 ?qzm2 ?qzd2 ?qzhi ?qzhl ?qzha ?qzhb ?qzhm ?_; (case qzub => k_asm); (case qzuf => k_asm); (case qzux => k_asm); (case qzun => k_asm); (case qzut => k_asm); (case qzuk => first | exact rfl | assumption); (case qzud => k_room); (case qzuu => k_units); (case qzm1 => k_mem); (case qzd1 => k_updF); (case qzm2 => k_mem); (case qzd2 => k_updF); (case qzhi => assumption); (case qzhl => assumption); (case qzha => first | assumption | omega); (case qzhb => first | assumption | omega); (case qzhm => omega); k_whole); intro r' t' h' tk' a' b' ta' tb' its' ws' nl' ns' F' N' ha' hb' hr' hi' hl' hoff'; skip))
  k_with "r88" => ((k_here; (with_reducible show wpAny _ _ (call (Value.ref 1333) _) _ _ _); k_dflt (refine' useT ?qzcc ?qzub ?qzuf ?qzux ?qzun ?qzut ?qzuk ?qzud ?qzuu ?qzuy ?qzuz ?qzum ?qzdl ?_; (case qzub => assumption); (case qzuf => k_asm); (case qzux => k_asm); (case qzun => k_asm); (case qzut => k_asm); (case qzuk => first | exact rfl | assumption); (case qzuy => assumption); (case qzuz => assumption); (case qzum => k_mem); (case qzdl => k_updF); (case qzcc => first | (refine' S_unk ?qzzU ?qzz0 ?qzz1 ?qzz2 ?qzz3 ?qzz4; (case qzzU => (refine' SetUp.sub ?qzzx ?qzzy; (case qzzx => assumption); (case qzzy => ktr_rel))); (case qzz0 => k_mem); (case qzz1 => k_mem); (case qzz2 => omega); (case qzz3 => omega); (case qzz4 => omega)) | (refine' S_sig ?qzzU ?qzz0; (case qzzU => (refine' SetUp.sub ?qzzx ?qzzy; (case qzzx => assumption); (case qzzy => ktr_rel))); (case qzz0 => k_mem)) | (refine' S_und ?qzzU ?qzz0; (case qzzU => (refine' SetUp.sub ?qzzx ?qzzy; (case qzzx => assumption); (case qzzy => ktr_rel))); (case qzz0 => k_mem))); (case qzud => k_room); (case qzuu => k_units); k_whole); intro r' h' tk' tn' t1' t2' k' F' N' l1 l2; (try k_lt2 l1); (try k_lt l2)))
  k_with "r89" => ((k_here; (with_reducible show wpAny _ _ (call (Value.ref 1102) _) _ _ _); k_dflt (refine' useC ?qzcc ?qzub ?qzuf ?qzux ?qzun ?qzut ?qzuk ?qzud ?qzuu ?qzum ?qzdl ?_; (case qzub => assumption); (case qzuf => k_asm); (case qzux => k_asm); (case qzun => k_asm); (case qzut => k_asm); (case qzuk => first | exact rfl | assumption); (case qzum => k_mem); (case qzdl => k_updF); (case qzcc => (refine' S_const40 ?qzzU ?qzz0 ?qzz1 ?qzz2; (case qzzU => (refine' SetUp.sub ?qzzx ?qzzy; (case qzzx => assumption); (case qzzy => ktr_rel))); (case qzz0 => k_mem); (case qzz1 => k_mem); (case qzz2 => (exact (mod40 (by assumption)).1)))); (case qzud => k_room); (case qzuu => k_units); k_whole); intro r' c' h' tk' t1' t2' t3' n1' n2' tn' F' N' l1 l2 l3; (try k_lt2 l1); (try k_lt l2); (try k_lt2 l3)))
  k_with "r90" => ((k_here; (with_reducible show wpAny _ _ (compareOp CmpOp.In (Value.int _ _) (Value.ref _)) _ _ _); (with_reducible rename IsRange _ _ _ _ _ _ _ _ => hIR'); k_dflt (first | (refine' in_rng_t hIR' ?qzri ?_; (case qzri => omega)) | (refine' in_rng_f hIR' ?qzri ?_; (case qzri => omega)))))
  k_with "r91" => ((k_here; (with_reducible show wpAny _ _ (call (Value.ref 1333) _) _ _ _); k_dflt (refine' useI ?qzcc ?qzub ?qzuf ?qzux ?qzun ?qzut ?qzuk ?qzud ?qzuu ?qzum ?qzdl ?_; (case qzub => assumption); (case qzuf => k_asm); (case qzux => k_asm); (case qzun => k_asm); (case qzut => k_asm); (case qzuk => first | exact rfl | assumption); (case qzum => k_mem); (case qzdl => k_updF); (case qzcc => first | (refine' S_told40 ?qzzU ?qzz0 ?qzz1 ?qzz2 ?qzz3 ?qzz4; (case qzzU => (refine' SetUp.sub ?qzzx ?qzzy; (case qzzx => assumption); (case qzzy => ktr_rel))); (case qzz0 => k_mem); (case qzz1 => k_mem); (case qzz2 => (exact (mod40 (by assumption)).1)); (case qzz3 => (exact (mod40 (by assumption)).2)); (case qzz4 => omega))); (case qzud => k_room); (case qzuu => k_units); k_whole); intro h' tk' tn' t' F' N'))
  k_with "r92" => ((k_here; (with_reducible show wpAny _ _ (call (Value.ref 1333) _) _ _ _); k_dflt (refine' useT ?qzcc ?qzub ?qzuf ?qzux ?qzun ?qzut ?qzuk ?qzud ?qzuu ?qzuy ?qzuz ?qzum ?qzdl ?_; (case qzub => assumption); (case qzuf => k_asm); (case qzux => k_asm); (case qzun => k_asm); (case qzut => k_asm); (case qzuk => first | exact rfl | assumption); (case qzuy => assumption); (case qzuz => assumption); (case qzum => k_mem); (case qzdl => k_updF); (case qzcc => first | (refine' S_told40x ?qzzU ?qzz0 ?qzz1 ?qzz2 ?qzz3 ?qzz4; (case qzzU => (refine' SetUp.sub ?qzzx ?qzzy; (case qzzx => assumption); (case qzzy => ktr_rel))); (case qzz0 => k_mem); (case qzz1 => k_mem); (case qzz2 => (exact (mod40 (by assumption)).1)); (case qzz3 => (exact (mod40 (by assumption)).2)); (case qzz4 => omega))); (case qzud => k_room); (case qzuu => k_units); k_whole); intro r' h' tk' tn' t1' t2' k' F' N' l1 l2; (try k_lt2 l1); (try k_lt l2)))
  k_with "r93" => ((k_here; (with_reducible show wpAny _ _ (execs (Stmt.Assign [Expr.Name (Str.ofString "bits") _] _ _ :: _) _) _ _ _); refine stopHere ?_))
  k_with "r94" => ((k_here; (with_reducible show wpAny _ _ (execs (Stmt.Assign [Expr.Name (Str.ofString "e") _] _ _ :: _) _) _ _ _); refine stopHere ?_))
  k_with "r95" => ((k_here; (with_reducible show wpAny _ _ (call (Value.ref 1333) _) _ _ _); k_dflt (refine' useI ?qzcc ?qzub ?qzuf ?qzux ?qzun ?qzut ?qzuk ?qzud ?qzuu ?qzum ?qzdl ?_; (case qzub => assumption); (case qzuf => k_asm); (case qzux => k_asm); (case qzun => k_asm); (case qzut => k_asm); (case qzuk => first | exact rfl | assumption); (case qzum => k_mem); (case qzdl => k_updF); (case qzcc => first | (refine' S_told ?qzzU ?qzz0 ?qzz1; (case qzzU => (refine' SetUp.sub ?qzzx ?qzzy; (case qzzx => assumption); (case qzzy => ktr_rel))); (case qzz0 => (refine' RC.sub ?qzra ?qzrb; (case qzrb => assumption); (case qzra => ktr_rel))); (case qzz1 => omega))); (case qzud => k_room); (case qzuu => k_units); k_whole); intro h' tk' tn' t' F' N'))
  k_with "r96" => ((k_here; (with_reducible show wpAny _ _ (call (Value.ref 1333) _) _ _ _); k_dflt (refine' useT ?qzcc ?qzub ?qzuf ?qzux ?qzun ?qzut ?qzuk ?qzud ?qzuu ?qzuy ?qzuz ?qzum ?qzdl ?_; (case qzub => assumption); (case qzuf => k_asm); (case qzux => k_asm); (case qzun => k_asm); (case qzut => k_asm); (case qzuk => first | exact rfl | assumption); (case qzuy => assumption); (case qzuz => assumption); (case qzum => k_mem); (case qzdl => k_updF); (case qzcc => first | (refine' S_toldx ?qzzU ?qzz0 ?qzz1 ?qzz2; (case qzzU => (refine' SetUp.sub ?qzzx ?qzzy; (case qzzx => assumption); (case qzzy => ktr_rel))); (case qzz0 => (refine' RC.sub ?qzra ?qzrb; (case qzrb => assumption); (case qzra => ktr_rel))); (case qzz1 => omega); (case qzz2 => exact rfl))); (case qzud => k_room); (case qzuu => k_units); k_whole); intro r' h' tk' tn' t1' t2' k' F' N' l1 l2; (try k_lt2 l1); (try k_lt l2)))
  k_with "r97" => ((k_here; (with_reducible show wpAny _ _ (call (Value.ref 1116) _) _ _ _); k_dflt (refine' useI ?qzcc ?qzub ?qzuf ?qzux ?qzun ?qzut ?qzuk ?qzud ?qzuu ?qzum ?qzdl ?_; (case qzub => assumption); (case qzuf => k_asm); (case qzux => k_asm); (case qzun => k_asm); (case qzut => k_asm); (case qzuk => first | exact rfl | assumption); (case qzum => k_mem); (case qzdl => k_updF); (case qzcc => first | (refine' S_small9 ?qzzU ?qzz0 ?qzz1; (case qzzU => (refine' SetUp.sub ?qzzx ?qzzy; (case qzzx => assumption); (case qzzy => ktr_rel))); (case qzz0 => k_mem); (case qzz1 => k_mem))); (case qzud => k_room); (case qzuu => k_units); k_whole); intro h' tk' tn' t' F' N'))
  k_with "r98" => ((k_here; (with_reducible show wpAny _ _ (execs (Stmt.Assign [Expr.Name (Str.ofString "number") _] _ _ :: _) _) _ _ _); refine stopHere ?_))
  k_with "r99" => ((k_here; (with_reducible show wpAny _ _ (call (Value.type "range") [Value.int _ _]) _ _ _); k_dflt (refine' call_rangeN ?qzrF ?qzrN ?qzrk ?_; (case qzrF => k_asm); (case qzrN => k_asm); (case qzrk => exact rfl)); intro r' h' tk' t' u' v' F' N' l1; (try k_lt l1)))
  k_with "r100" => ((k_here; refine stopHere ?_))
  k_with "r101" => ((k_here; (with_reducible show wpAny _ _ (execs (Stmt.Assign [Expr.Name (Str.ofString "due") _] _ _ :: _) _) _ _ _); refine stopHere ?_))
  k_with "r102" => ((k_here; (with_reducible show wpAny _ _ (call (Value.ref 1238) _) _ _ _); k_dflt (refine' design_c ?qzub ?qzuf ?qzux ?qzun ?qzut ?qzuk ?qzud ?qzuu  ?_; (case qzub => k_asm); (case qzuf => k_asm); (case qzux => k_asm); (case qzun => k_asm); (case qzut => k_asm); (case qzuk => first | exact rfl | assumption); (case qzud => k_room); (case qzuu => k_units); k_whole); intro D' dd' d' sl' sc' bp' oB' h' tk' tn' F' N' lo' hs' e1' e2' e3' l1 l3 l4 l5 l6 l7 l8 l9; (try k_lt l1); (try k_lt l3); (try k_lt l4); (try k_lt l5); (try k_lt2 l6); (try k_lt2 l7); (try k_lt2 l8); (try k_lt2 l9)))
  k_with "r103" => ((k_here; (with_reducible show wpAny _ _ (call (Value.ref 1315) _) _ _ _); k_dflt (refine' scope_u ?qzub ?qzuf ?qzux ?qzun ?qzut ?qzuk ?qzud ?qzuu ?qzm1 ?qzd1 ?qzmD ?qzmdd ?qzh7 ?_; (case qzub => k_asm); (case qzuf => k_asm); (case qzux => k_asm); (case qzun => k_asm); (case qzut => k_asm); (case qzuk => first | exact rfl | assumption); (case qzud => k_room); (case qzuu => k_units); (case qzh7 => assumption); (case qzm1 => k_mem); (case qzd1 => k_updF); (case qzmD => k_mem); (case qzmdd => k_mem); k_whole); intro S' ds' en' oE' c' h' tk' F' N' lo' hs' e1' e2' l1 l3 l4 l5; (try k_lt l1); (try k_lt l3); (try k_lt2 l4); (try k_lt2 l5)))
  k_with "r104" => ((k_here; (with_reducible show wpAny _ _ (call (Value.ref 1200) _) _ _ _); k_dflt (refine' signal_u ?qzub ?qzuf ?qzux ?qzun ?qzut ?qzuk ?qzud ?qzuu ?qzm1 ?qzd1 ?qzm2 ?qzd2 ?qzmD ?qzmdd ?qzh1 ?qzh12 ?qzhlo ?qzhob ?_; (case qzub => k_asm); (case qzuf => k_asm); (case qzux => k_asm); (case qzun => k_asm); (case qzut => k_asm); (case qzuk => first | exact rfl | assumption); (case qzud => k_room); (case qzuu => k_units); (case qzh1 => assumption); (case qzh12 => assumption); (case qzm1 => k_mem); (case qzd1 => k_updF); (case qzm2 => k_mem); (case qzd2 => k_updF); (case qzmD => k_mem); (case qzmdd => k_mem); (case qzhlo => assumption); (case qzhob => assumption); k_whole); intro s0' sd' G' ks' h' tk' F' N' e1' l1 l3 l4; (obtain ⟨tG', eG'⟩ := e1'); (obtain ⟨gk1, gk2, gk3, gk4, gk5, gk6, gk7, gk8, gk9, gk10, gk11, gk12, gt4, gt6, gt7, gv1, gv2, gv3, gv9, gv10, gv11⟩ := G'); (dsimp only at eG'); (subst eG'); (try k_lt l1); (try k_lt2 l3); (try k_lt2 l4)))
  k_with "r105" => ((k_here; (with_reducible show wpAny _ _ (call (Value.ref 1270) _) _ _ _); k_dflt (refine' declare_u ?qzub ?qzuf ?qzux ?qzun ?qzut ?qzuk ?qzud ?qzuu ?qzm1 ?qzd1 ?qzmS ?qzmds ?qzh8 ?qzhlo ?qzho0 ?_; (case qzub => k_asm); (case qzuf => k_asm); (case qzux => k_asm); (case qzun => k_asm); (case qzut => k_asm); (case qzuk => first | exact rfl | assumption); (case qzud => k_room); (case qzuu => k_units); (case qzh8 => assumption); (case qzm1 => k_mem); (case qzd1 => k_updF); (case qzmS => k_mem); (case qzmds => k_mem); (case qzhlo => assumption); (case qzho0 => assumption); k_whole); intro oE' h' tk' F' N' hE'))
  k_with "r106" => ((k_here; (with_reducible show wpAny _ _ (execs (Stmt.Assign [Expr.Name (Str.ofString "deep") _] _ _ :: _) _) _ _ _); refine stopHere ?_))
  k_with "r107" => (decide +kernel)
  trivial
section
set_option maxRecDepth 100000
/-! the head: the top's run, state by state -/
noncomputable def bE : List Stmt := behindTheImports PySem.Challenge.pw_pq0479_01
noncomputable def st (i : Nat) : Stmt := bE.getD i (.Pass ⟨0, 0, 0, 0⟩)
noncomputable def cB : Stmt → List Stmt
  | .ClassDef _ _ _ b _ _ _ _ _ _ _ => b
  | _ => []
noncomputable def su (i j : Nat) : Stmt := (cB (st i)).getD j (.Pass ⟨0, 0, 0, 0⟩)
noncomputable def fA : Stmt → Arguments
  | .FunctionDef _ a _ _ _ _ _ _ _ _ => a
  | _ => default
noncomputable def fB : Stmt → List Stmt
  | .FunctionDef _ _ b _ _ _ _ _ _ _ => b
  | _ => []
noncomputable def fS : Stmt → Scope
  | .FunctionDef _ _ _ _ _ _ s _ _ _ => s
  | _ => default
noncomputable abbrev dE (P : Params) (k : Str) (t : Nat) (v : Value) : DictEntry := ⟨PyData.keyHash P k, .str k t, v⟩
noncomputable def setL : List DictEntry → List (Nat × Value) → List DictEntry
  | es, [] => es
  | es, (i, v) :: r => setL (es.modify i fun e => ⟨e.hash, e.key, v⟩) r
noncomputable def dcut (P : Params) (o : Params → Obj) (k : Nat) (ds : List (Nat × Value)) (n : Nat) : Obj := match o P with
  | ⟨c, d, .dict es _, s⟩ => ⟨c, d, .dict (Array.mk (setL (es.toList.take k) ds)) n, s⟩
  | x => x
noncomputable def fcut (P : Params) (o : Params → Obj) (k : Nat) : Obj := match o P with
  | ⟨c, d, .fields vs, s⟩ => ⟨c, d, .fields (Array.mk (vs.toList.take k)), s⟩
  | x => x
noncomputable def ovG : List (Nat × Obj) → Nat → Obj → Obj
  | [], _, o => o
  | p :: r, b, o => match Nat.beq p.1 b with
    | true => p.2
    | false => ovG r b o
noncomputable def cutT (n : Nat) (ov : List (Nat × Obj)) : BT → Nat → Nat → BT
  | .nil, _, _ => .nil
  | .node o l r, a, b => match Nat.blt b n with
    | true => .node (ovG ov b o) (cutT n ov l (2 * a) (a + b)) (cutT n ov r (2 * a) (2 * a + b))
    | false => .nil
noncomputable def o0 (P : Params) : Obj := ⟨(.type "dict"), none, (.dict #[dE P "__name__" 1 (.str "builtins" 160), dE P "__doc__" 2 (.builtin "builtins.__doc__:str#opaque"), dE P "__package__" 3 (.builtin "builtins.__package__:str#opaque"), dE P "__loader__" 4 (.builtin "builtins.__loader__:shared#opaque"), dE P "__spec__" 5 (.builtin "builtins.__spec__#opaque"), dE P "__build_class__" 6 (.builtin "__build_class__"), dE P "__import__" 7 (.builtin "__import__"), dE P "abs" 8 (.builtin "abs"), dE P "all" 9 (.builtin "all"), dE P "any" 10 (.builtin "any"), dE P "ascii" 11 (.builtin "ascii"), dE P "bin" 12 (.builtin "bin"), dE P "breakpoint" 13 (.builtin "breakpoint"), dE P "callable" 14 (.builtin "callable"), dE P "chr" 15 (.builtin "chr"), dE P "compile" 16 (.builtin "compile"), dE P "delattr" 17 (.builtin "delattr"), dE P "dir" 18 (.builtin "dir"), dE P "divmod" 19 (.builtin "divmod"), dE P "eval" 20 (.builtin "eval"), dE P "exec" 21 (.builtin "exec"), dE P "format" 22 (.builtin "format"), dE P "getattr" 23 (.builtin "getattr"), dE P "globals" 24 (.builtin "globals"), dE P "hasattr" 25 (.builtin "hasattr"), dE P "hash" 26 (.builtin "hash"), dE P "hex" 27 (.builtin "hex"), dE P "id" 28 (.builtin "id"), dE P "input" 29 (.builtin "input"), dE P "isinstance" 30 (.builtin "isinstance"), dE P "issubclass" 31 (.builtin "issubclass"), dE P "iter" 32 (.builtin "iter"), dE P "aiter" 33 (.builtin "aiter"), dE P "len" 34 (.builtin "len"), dE P "locals" 35 (.builtin "locals"), dE P "max" 36 (.builtin "max"), dE P "min" 37 (.builtin "min"), dE P "next" 38 (.builtin "next"), dE P "anext" 39 (.builtin "anext"), dE P "oct" 40 (.builtin "oct"), dE P "ord" 41 (.builtin "ord"), dE P "pow" 42 (.builtin "pow"), dE P "print" 43 (.builtin "print"), dE P "repr" 44 (.builtin "repr"), dE P "round" 45 (.builtin "round"), dE P "setattr" 46 (.builtin "setattr"), dE P "sorted" 47 (.builtin "sorted"), dE P "sum" 48 (.builtin "sum"), dE P "vars" 49 (.builtin "vars"), dE P "None" 50 .none, dE P "Ellipsis" 51 .ellipsis, dE P "NotImplemented" 52 .notImplemented, dE P "False" 53 (.bool false), dE P "True" 54 (.bool true), dE P "bool" 55 (.type "bool"), dE P "memoryview" 56 (.type "memoryview"), dE P "bytearray" 57 (.type "bytearray"), dE P "bytes" 58 (.type "bytes"), dE P "classmethod" 59 (.type "classmethod"), dE P "complex" 60 (.type "complex"), dE P "dict" 61 (.type "dict"), dE P "enumerate" 62 (.type "enumerate"), dE P "filter" 63 (.type "filter"), dE P "float" 64 (.type "float"), dE P "frozenset" 65 (.type "frozenset"), dE P "property" 66 (.type "property"), dE P "int" 67 (.type "int"), dE P "list" 68 (.type "list"), dE P "map" 69 (.type "map"), dE P "object" 70 (.type "object"), dE P "range" 71 (.type "range"), dE P "reversed" 72 (.type "reversed"), dE P "set" 73 (.type "set"), dE P "slice" 74 (.type "slice"), dE P "staticmethod" 75 (.type "staticmethod"), dE P "str" 76 (.type "str"), dE P "super" 77 (.type "super"), dE P "tuple" 78 (.type "tuple"), dE P "type" 79 (.type "type"), dE P "zip" 80 (.type "zip"), dE P "__debug__" 81 (.bool true), dE P "BaseException" 82 (.type "BaseException"), dE P "BaseExceptionGroup" 83 (.type "BaseExceptionGroup"), dE P "Exception" 84 (.type "Exception"), dE P "GeneratorExit" 85 (.type "GeneratorExit"), dE P "KeyboardInterrupt" 86 (.type "KeyboardInterrupt"), dE P "SystemExit" 87 (.type "SystemExit"), dE P "ArithmeticError" 88 (.type "ArithmeticError"), dE P "AssertionError" 89 (.type "AssertionError"), dE P "AttributeError" 90 (.type "AttributeError"), dE P "BufferError" 91 (.type "BufferError"), dE P "EOFError" 92 (.type "EOFError"), dE P "ImportError" 93 (.type "ImportError"), dE P "LookupError" 94 (.type "LookupError"), dE P "MemoryError" 95 (.type "MemoryError"), dE P "NameError" 96 (.type "NameError"), dE P "OSError" 97 (.type "OSError"), dE P "ReferenceError" 98 (.type "ReferenceError"), dE P "RuntimeError" 99 (.type "RuntimeError"), dE P "StopAsyncIteration" 100 (.type "StopAsyncIteration"), dE P "StopIteration" 101 (.type "StopIteration"), dE P "SyntaxError" 102 (.type "SyntaxError"), dE P "SystemError" 103 (.type "SystemError"), dE P "TypeError" 104 (.type "TypeError"), dE P "ValueError" 105 (.type "ValueError"), dE P "Warning" 106 (.type "Warning"), dE P "FloatingPointError" 107 (.type "FloatingPointError"), dE P "OverflowError" 108 (.type "OverflowError"), dE P "ZeroDivisionError" 109 (.type "ZeroDivisionError"), dE P "BytesWarning" 110 (.type "BytesWarning"), dE P "DeprecationWarning" 111 (.type "DeprecationWarning"), dE P "EncodingWarning" 112 (.type "EncodingWarning"), dE P "FutureWarning" 113 (.type "FutureWarning"), dE P "ImportWarning" 114 (.type "ImportWarning"), dE P "PendingDeprecationWarning" 115 (.type "PendingDeprecationWarning"), dE P "ResourceWarning" 116 (.type "ResourceWarning"), dE P "RuntimeWarning" 117 (.type "RuntimeWarning"), dE P "SyntaxWarning" 118 (.type "SyntaxWarning"), dE P "UnicodeWarning" 119 (.type "UnicodeWarning"), dE P "UserWarning" 120 (.type "UserWarning"), dE P "BlockingIOError" 121 (.type "BlockingIOError"), dE P "ChildProcessError" 122 (.type "ChildProcessError"), dE P "ConnectionError" 123 (.type "ConnectionError"), dE P "FileExistsError" 124 (.type "FileExistsError"), dE P "FileNotFoundError" 125 (.type "FileNotFoundError"), dE P "InterruptedError" 126 (.type "InterruptedError"), dE P "IsADirectoryError" 127 (.type "IsADirectoryError"), dE P "NotADirectoryError" 128 (.type "NotADirectoryError"), dE P "PermissionError" 129 (.type "PermissionError"), dE P "ProcessLookupError" 130 (.type "ProcessLookupError"), dE P "TimeoutError" 131 (.type "TimeoutError"), dE P "IndentationError" 132 (.type "IndentationError"), dE P "_IncompleteInputError" 133 (.type "_IncompleteInputError"), dE P "IndexError" 134 (.type "IndexError"), dE P "KeyError" 135 (.type "KeyError"), dE P "ModuleNotFoundError" 136 (.type "ModuleNotFoundError"), dE P "NotImplementedError" 137 (.type "NotImplementedError"), dE P "PythonFinalizationError" 138 (.type "PythonFinalizationError"), dE P "RecursionError" 139 (.type "RecursionError"), dE P "UnboundLocalError" 140 (.type "UnboundLocalError"), dE P "UnicodeError" 141 (.type "UnicodeError"), dE P "BrokenPipeError" 142 (.type "BrokenPipeError"), dE P "ConnectionAbortedError" 143 (.type "ConnectionAbortedError"), dE P "ConnectionRefusedError" 144 (.type "ConnectionRefusedError"), dE P "ConnectionResetError" 145 (.type "ConnectionResetError"), dE P "TabError" 146 (.type "TabError"), dE P "UnicodeDecodeError" 147 (.type "UnicodeDecodeError"), dE P "UnicodeEncodeError" 148 (.type "UnicodeEncodeError"), dE P "UnicodeTranslateError" 149 (.type "UnicodeTranslateError"), dE P "ExceptionGroup" 150 (.type "ExceptionGroup"), dE P "EnvironmentError" 151 (.type "OSError"), dE P "IOError" 152 (.type "OSError"), dE P "open" 153 (.builtin "open"), dE P "quit" 154 (.builtin "builtins.quit#opaque"), dE P "exit" 155 (.builtin "builtins.exit#opaque"), dE P "copyright" 156 (.builtin "builtins.copyright#opaque"), dE P "credits" 157 (.builtin "builtins.credits#opaque"), dE P "license" 158 (.builtin "builtins.license#opaque"), dE P "help" 159 (.builtin "builtins.help#opaque")] 159), #[]⟩
noncomputable def o1 (P : Params) : Obj := ⟨(.type "dict"), none, (.dict #[dE P "builtins" 162 (.ref 4), dE P "__main__" 163 (.ref 5)] 2), #[]⟩
noncomputable def o2 (P : Params) : Obj := ⟨.none, none, (.dict #[dE P "type.__subclasses__.Exception.0" 228 (.int 39 0), dE P "type.__subclasses__.Exception.n" 229 (.int 1 0)] 2), #[]⟩
noncomputable def o3 (P : Params) : Obj := ⟨(.type "dict"), none, (.dict #[dE P "__name__" 165 (.str "law_pq0479_01" 2096), dE P "__doc__" 166 .none, dE P "__package__" 167 .none, dE P "__loader__" 168 (.builtin "__main__.__loader__#opaque"), dE P "__spec__" 169 .none, dE P "__annotations__" 170 (.ref 6), dE P "__builtins__" 171 (.ref 4), dE P "__file__" 173 (.str "/claim/cut.py" 172), dE P "__cached__" 174 .none, dE P "_wall" 193 (.ref 21), dE P "GateloomError" 231 (.ref 39), dE P "DesignError" 247 (.ref 52), dE P "LimitReached" 263 (.ref 64), dE P "mask" 272 (.ref 73), dE P "vec" 283 (.ref 81), dE P "zeros" 290 (.ref 88), dE P "all_x" 298 (.ref 95), dE P "all_z" 305 (.ref 102), dE P "from_int" 313 (.ref 109), dE P "is_known" 320 (.ref 116), dE P "to_int" 331 (.ref 123), dE P "code" 339 (.ref 130), dE P "slice_vec" 355 (.ref 137), dE P "put_slice" 371 (.ref 144), dE P "concat" 382 (.ref 151), dE P "extend" 395 (.ref 158), dE P "z_to_x" 402 (.ref 165), dE P "truth" 409 (.ref 172), dE P "Store" 478 (.ref 210), dE P "Context" 537 (.ref 253), dE P "add" 547 (.ref 264), dE P "sub" 555 (.ref 271), dE P "mul" 563 (.ref 278), dE P "neg" 570 (.ref 285), dE P "quotient" 579 (.ref 292), dE P "div" 590 (.ref 299), dE P "mod" 601 (.ref 306), dE P "raise_whole" 614 (.ref 313), dE P "power" 627 (.ref 320), dE P "shift_left" 637 (.ref 327), dE P "shift_right" 646 (.ref 334), dE P "shift_arith" 661 (.ref 341), dE P "ordered" 672 (.ref 348), dE P "less" 682 (.ref 355), dE P "less_equal" 692 (.ref 362), dE P "greater" 701 (.ref 369), dE P "greater_equal" 710 (.ref 376), dE P "one_bit" 719 (.ref 383), dE P "bit_not" 729 (.ref 390), dE P "bit_and" 743 (.ref 397), dE P "bit_or" 758 (.ref 404), dE P "bit_xor" 767 (.ref 411), dE P "bit_xnor" 775 (.ref 418), dE P "reduce_and" 785 (.ref 425), dE P "reduce_nand" 792 (.ref 432), dE P "reduce_or" 799 (.ref 439), dE P "reduce_nor" 806 (.ref 446), dE P "reduce_xor" 815 (.ref 453), dE P "reduce_xnor" 822 (.ref 460), dE P "logic_not" 829 (.ref 467), dE P "logic_and" 837 (.ref 474), dE P "logic_or" 845 (.ref 481), dE P "equal" 854 (.ref 488), dE P "not_equal" 862 (.ref 495), dE P "case_equal" 870 (.ref 502), dE P "case_not_equal" 878 (.ref 509), dE P "matches" 889 (.ref 516), dE P "choose" 902 (.ref 523), dE P "unary" 912 (.ref 530), dE P "arithmetic" 922 (.ref 537), dE P "comparison" 932 (.ref 544), dE P "bitwise" 941 (.ref 551), dE P "binary" 952 (.ref 558), dE P "whole_of" 961 (.ref 565), dE P "memory_word" 971 (.ref 572), dE P "picked" 981 (.ref 579), dE P "conditional" 991 (.ref 586), dE P "bits_needed" 999 (.ref 593), dE P "system_value" 1010 (.ref 1011), dE P "system_value_evaluate" 1011 (.ref 600), dE P "evaluate" 1017 (.ref 605), dE P "locate" 1026 (.ref 612), dE P "holder_width" 1034 (.ref 619), dE P "resolve_target" 1053 (.ref 626), dE P "store_rows" 1070 (.ref 633), dE P "DEPTH_LIMIT" 1074 (.int 24 1073), dE P "FunctionContext" 1141 (.ref 677), dE P "run_block" 1151 (.ref 686), dE P "run_set" 1161 (.ref 693), dE P "run_case" 1174 (.ref 700), dE P "run_while" 1185 (.ref 707), dE P "run_repeat" 1195 (.ref 714), dE P "run_for" 1203 (.ref 721), dE P "run_statement" 1212 (.ref 728), dE P "children" 1222 (.ref 735), dE P "subexpressions" 1233 (.ref 742), dE P "expr_reads" 1242 (.ref 749), dE P "expr_calls" 1251 (.ref 756), dE P "target_indexes" 1260 (.ref 763), dE P "target_writes" 1269 (.ref 770), dE P "stmt_parts" 1275 (.ref 775), dE P "substatements" 1286 (.ref 782), dE P "stmt_targets" 1292 (.ref 787), dE P "stmt_exprs" 1304 (.ref 794), dE P "stmt_reads" 1315 (.ref 801), dE P "stmt_writes" 1326 (.ref 808), dE P "stmt_calls" 1337 (.ref 815), dE P "MAX_WIDTH" 1341 (.int 65536 1340), dE P "last_select" 1350 (.ref 822), dE P "is_memory" 1358 (.ref 829), dE P "shape" 1368 (.ref 836), dE P "read_entry" 1378 (.ref 843), dE P "folds" 1385 (.ref 850), dE P "folded" 1393 (.ref 857), dE P "checked_width" 1401 (.ref 864), dE P "selected" 1410 (.ref 871), dE P "text_vec" 1419 (.ref 878), dE P "inner_join" 1426 (.ref 885), dE P "is_context_operator" 1433 (.ref 892), dE P "is_shift" 1440 (.ref 899), dE P "widen" 1449 (.ref 906), dE P "number_value" 1460 (.ref 913), dE P "is_changing" 1467 (.ref 920), dE P "asks_system" 1477 (.ref 927), dE P "is_constant" 1490 (.ref 934), dE P "MOST_NESTING" 1494 (.int 8 1493), dE P "path_names" 1505 (.ref 941), dE P "entry_of" 1514 (.ref 948), dE P "base_entry" 1524 (.ref 955), dE P "select_width" 1532 (.ref 962), dE P "select_where" 1550 (.ref 969), dE P "named_type" 1560 (.ref 976), dE P "named_value" 1573 (.ref 983), dE P "function_of" 1583 (.ref 990), dE P "call_value" 1595 (.ref 997), dE P "system_type" 1605 (.ref 1004), dE P "system_value_elabexpr" 1617 (.ref 1011), dE P "joined_parts" 1627 (.ref 1018), dE P "copies" 1636 (.ref 1025), dE P "joined_width" 1646 (.ref 1032), dE P "joined_value" 1657 (.ref 1039), dE P "both_types" 1668 (.ref 1046), dE P "expr_type" 1678 (.ref 1053), dE P "unary_value" 1689 (.ref 1060), dE P "binary_value" 1705 (.ref 1067), dE P "build" 1719 (.ref 1074), dE P "self_determined" 1729 (.ref 1081), dE P "sized" 1740 (.ref 1088), dE P "constant_vec" 1750 (.ref 1095), dE P "constant" 1760 (.ref 1102), dE P "whole" 1772 (.ref 1109), dE P "small_whole" 1781 (.ref 1116), dE P "net_kinds" 1789 (.ref 1123), dE P "Signal" 1874 (.ref 1175), dE P "Design" 1975 (.ref 1238), dE P "Scope" 2095 (.ref 1315), dE P "_law_take" 2106 (.ref 1326), dE P "_law_told" 2116 (.ref 1333), dE P "law" 2134 (.ref 1340)] 159), #[]⟩
noncomputable def o4 (P : Params) : Obj := ⟨(.type "module"), (some 0), .plain, #[]⟩
noncomputable def o5 (P : Params) : Obj := ⟨(.type "module"), (some 3), .plain, #[]⟩
noncomputable def o6 (P : Params) : Obj := ⟨(.type "dict"), none, (.dict #[] 0), #[]⟩
noncomputable def o7 (P : Params) : Obj := ⟨(.type "tuple"), none, (.seq #[] 0), #[]⟩
noncomputable def o8 (P : Params) : Obj := ⟨.none, none, (.fields #[]), #[]⟩
noncomputable def o9 (P : Params) : Obj := ⟨(.type "code"), none, (.fields #[(.str "<module>" 176), (.str "<module>" 177), (.str "/claim/cut.py" 178), (.int 1 0), (.int 0 0), (.int 0 0), (.int 0 0), (.int 0 0), (.ref 7), (.bool false), (.int 175 0), (.ref 8), .none, .none, .none, .none, (.int 179 0), (.int 1 0), (.str "/claim/cut.py" 180)]), #[]⟩
noncomputable def o10 (P : Params) : Obj := ⟨(.type "frame"), none, .plain, #[some (.ref 9), some (.ref 3), some (.ref 3), none, some (.str "__main__" 164), none, some (.ref 0)]⟩
noncomputable def o11 (P : Params) : Obj := ⟨(.type "tuple"), none, (.seq #[] 0), #[]⟩
noncomputable def o12 (P : Params) : Obj := ⟨.none, none, (.fields #[(.int 1 0), (.int 0 0), (.ref 20), (.int 5 0), (.int 0 0), (.ref 27), (.int 11 0), (.int 0 0), (.ref 48), (.int 13 0), (.int 0 0), (.ref 60), (.int 16 0), (.int 0 0), (.ref 72), (.int 18 0), (.int 0 0), (.ref 80), (.int 21 0), (.int 0 0), (.ref 87), (.int 23 0), (.int 0 0), (.ref 94), (.int 26 0), (.int 0 0), (.ref 101), (.int 28 0), (.int 0 0), (.ref 108), (.int 30 0), (.int 0 0), (.ref 115), (.int 32 0), (.int 0 0), (.ref 122), (.int 39 0), (.int 0 0), (.ref 129), (.int 41 0), (.int 0 0), (.ref 136), (.int 52 0), (.int 0 0), (.ref 143), (.int 63 0), (.int 0 0), (.ref 150), (.int 72 0), (.int 0 0), (.ref 157), (.int 82 0), (.int 0 0), (.ref 164), (.int 84 0), (.int 0 0), (.ref 171), (.int 91 0), (.int 0 0), (.ref 178), (.int 137 0), (.int 0 0), (.ref 220), (.int 157 0), (.int 0 0), (.ref 263), (.int 161 0), (.int 0 0), (.ref 270), (.int 165 0), (.int 0 0), (.ref 277), (.int 169 0), (.int 0 0), (.ref 284), (.int 173 0), (.int 0 0), (.ref 291), (.int 178 0), (.int 0 0), (.ref 298), (.int 184 0), (.int 0 0), (.ref 305), (.int 190 0), (.int 0 0), (.ref 312), (.int 201 0), (.int 0 0), (.ref 319), (.int 216 0), (.int 0 0), (.ref 326), (.int 224 0), (.int 0 0), (.ref 333), (.int 231 0), (.int 0 0), (.ref 340), (.int 241 0), (.int 0 0), (.ref 347), (.int 249 0), (.int 0 0), (.ref 354), (.int 254 0), (.int 0 0), (.ref 361), (.int 259 0), (.int 0 0), (.ref 368), (.int 261 0), (.int 0 0), (.ref 375), (.int 264 0), (.int 0 0), (.ref 382), (.int 266 0), (.int 0 0), (.ref 389), (.int 269 0), (.int 0 0), (.ref 396), (.int 274 0), (.int 0 0), (.ref 403), (.int 280 0), (.int 0 0), (.ref 410), (.int 283 0), (.int 0 0), (.ref 417), (.int 285 0), (.int 0 0), (.ref 424), (.int 290 0), (.int 0 0), (.ref 431), (.int 292 0), (.int 0 0), (.ref 438), (.int 294 0), (.int 0 0), (.ref 445), (.int 296 0), (.int 0 0), (.ref 452), (.int 305 0), (.int 0 0), (.ref 459), (.int 307 0), (.int 0 0), (.ref 466), (.int 309 0), (.int 0 0), (.ref 473), (.int 311 0), (.int 0 0), (.ref 480), (.int 313 0), (.int 0 0), (.ref 487), (.int 318 0), (.int 0 0), (.ref 494), (.int 320 0), (.int 0 0), (.ref 501), (.int 322 0), (.int 0 0), (.ref 508), (.int 324 0), (.int 0 0), (.ref 515), (.int 332 0), (.int 0 0), (.ref 522), (.int 343 0), (.int 0 0), (.ref 529), (.int 363 0), (.int 0 0), (.ref 536), (.int 381 0), (.int 0 0), (.ref 543), (.int 399 0), (.int 0 0), (.ref 550), (.int 413 0), (.int 0 0), (.ref 557), (.int 422 0), (.int 0 0), (.ref 564), (.int 424 0), (.int 0 0), (.ref 571), (.int 432 0), (.int 0 0), (.ref 578), (.int 438 0), (.int 0 0), (.ref 585), (.int 446 0), (.int 0 0), (.ref 592), (.int 451 0), (.int 0 0), (.ref 599), (.int 465 0), (.int 0 0), (.ref 604), (.int 496 0), (.int 0 0), (.ref 611), (.int 503 0), (.int 0 0), (.ref 618), (.int 507 0), (.int 0 0), (.ref 625), (.int 526 0), (.int 0 0), (.ref 632), (.int 538 0), (.int 0 0), (.ref 639), (.int 581 0), (.int 0 0), (.ref 685), (.int 589 0), (.int 0 0), (.ref 692), (.int 596 0), (.int 0 0), (.ref 699), (.int 607 0), (.int 0 0), (.ref 706), (.int 615 0), (.int 0 0), (.ref 713), (.int 626 0), (.int 0 0), (.ref 720), (.int 629 0), (.int 0 0), (.ref 727), (.int 656 0), (.int 0 0), (.ref 734), (.int 675 0), (.int 0 0), (.ref 741), (.int 684 0), (.int 0 0), (.ref 748), (.int 690 0), (.int 0 0), (.ref 755), (.int 696 0), (.int 0 0), (.ref 762), (.int 704 0), (.int 0 0), (.ref 769), (.int 710 0), (.int 0 0), (.ref 774), (.int 728 0), (.int 0 0), (.ref 781), (.int 739 0), (.int 0 0), (.ref 786), (.int 745 0), (.int 0 0), (.ref 793), (.int 770 0), (.int 0 0), (.ref 800), (.int 777 0), (.int 0 0), (.ref 807), (.int 784 0), (.int 0 0), (.ref 814), (.int 795 0), (.int 0 0), (.ref 821), (.int 800 0), (.int 0 0), (.ref 828), (.int 802 0), (.int 0 0), (.ref 835), (.int 819 0), (.int 0 0), (.ref 842), (.int 830 0), (.int 0 0), (.ref 849), (.int 834 0), (.int 0 0), (.ref 856), (.int 841 0), (.int 0 0), (.ref 863), (.int 847 0), (.int 0 0), (.ref 870), (.int 851 0), (.int 0 0), (.ref 877), (.int 856 0), (.int 0 0), (.ref 884), (.int 858 0), (.int 0 0), (.ref 891), (.int 860 0), (.int 0 0), (.ref 898), (.int 862 0), (.int 0 0), (.ref 905), (.int 866 0), (.int 0 0), (.ref 912), (.int 870 0), (.int 0 0), (.ref 919), (.int 872 0), (.int 0 0), (.ref 926), (.int 879 0), (.int 0 0), (.ref 933), (.int 898 0), (.int 0 0), (.ref 940), (.int 905 0), (.int 0 0), (.ref 947), (.int 912 0), (.int 0 0), (.ref 954), (.int 922 0), (.int 0 0), (.ref 961), (.int 928 0), (.int 0 0), (.ref 968), (.int 950 0), (.int 0 0), (.ref 975), (.int 963 0), (.int 0 0), (.ref 982), (.int 982 0), (.int 0 0), (.ref 989), (.int 994 0), (.int 0 0), (.ref 996), (.int 1002 0), (.int 0 0), (.ref 1003), (.int 1020 0), (.int 0 0), (.ref 1010), (.int 1029 0), (.int 0 0), (.ref 1017), (.int 1039 0), (.int 0 0), (.ref 1024), (.int 1044 0), (.int 0 0), (.ref 1031), (.int 1051 0), (.int 0 0), (.ref 1038), (.int 1059 0), (.int 0 0), (.ref 1045), (.int 1063 0), (.int 0 0), (.ref 1052), (.int 1091 0), (.int 0 0), (.ref 1059), (.int 1098 0), (.int 0 0), (.ref 1066), (.int 1117 0), (.int 0 0), (.ref 1073), (.int 1140 0), (.int 0 0), (.ref 1080), (.int 1143 0), (.int 0 0), (.ref 1087), (.int 1146 0), (.int 0 0), (.ref 1094), (.int 1153 0), (.int 0 0), (.ref 1101), (.int 1156 0), (.int 0 0), (.ref 1108), (.int 1169 0), (.int 0 0), (.ref 1115), (.int 1175 0), (.int 0 0), (.ref 1122), (.int 1177 0), (.int 0 0), (.ref 1129), (.int 1223 0), (.int 0 0), (.ref 1185), (.int 1267 0), (.int 0 0), (.ref 1248), (.int 1350 0), (.int 0 0), (.ref 1325), (.int 1358 0), (.int 0 0), (.ref 1332), (.int 1363 0), (.int 0 0), (.ref 1339)]), #[]⟩
noncomputable def o13 (P : Params) : Obj := ⟨(.type "code"), none, (.fields #[(.str "<module>" 182), (.str "<module>" 183), (.str "/claim/cut.py" 184), (.int 1 0), (.int 0 0), (.int 0 0), (.int 0 0), (.int 0 0), (.ref 11), (.bool false), (.int 181 0), (.ref 12), .none, .none, .none, .none, (.int 185 0), (.int 1 0), (.str "/claim/cut.py" 186)]), #[]⟩
noncomputable def o14 (P : Params) : Obj := ⟨(.type "frame"), none, .plain, #[some (.ref 13), some (.ref 3), some (.ref 3), none, some (.str "__main__" 164), none, some (.ref 0)]⟩
noncomputable def o15 (P : Params) : Obj := ⟨(.type "tuple"), none, (.seq #[] 0), #[]⟩
noncomputable def o16 (P : Params) : Obj := ⟨.none, none, (.fields #[]), #[]⟩
noncomputable def o17 (P : Params) : Obj := ⟨(.type "tuple"), none, (.seq #[(.str "k" 190)] 0), #[]⟩
noncomputable def o18 (P : Params) : Obj := ⟨(.type "tuple"), none, (.seq #[] 0), #[]⟩
noncomputable def o19 (P : Params) : Obj := ⟨.none, none, (.func ⟨"_wall", "_wall", fA (st 0), .stmts (fB (st 0)), fS (st 0), 0, [], .none, .none, .none, .none, none, .none, .none, 0⟩), #[]⟩
noncomputable def o20 (P : Params) : Obj := ⟨(.type "code"), none, (.fields #[(.str "_wall" 187), (.str "_wall" 188), (.str "/claim/cut.py" 189), (.int 1 0), (.int 1 0), (.int 0 0), (.int 0 0), (.int 3 0), (.ref 15), (.bool true), (.int 181 0), (.ref 16), .none, (.ref 17), (.ref 18), (.ref 19), (.int 191 0), (.int 1 0), (.str "/claim/cut.py" 192)]), #[]⟩
noncomputable def o21 (P : Params) : Obj := ⟨(.type "function"), none, (.func ⟨"_wall", "_wall", fA (st 0), .stmts (fB (st 0)), fS (st 0), 3, [], .none, .none, .none, (.str "__main__" 164), none, (.ref 20), .none, 0⟩), #[]⟩
noncomputable def o22 (P : Params) : Obj := ⟨(.type "tuple"), none, (.seq #[(.type "Exception")] 0), #[]⟩
noncomputable def o23 (P : Params) : Obj := ⟨(.type "builtin_function_or_method"), none, (.fields #[(.builtin "type.__prepare__"), (.type "type")]), #[]⟩
noncomputable def o24 (P : Params) : Obj := ⟨(.type "dict"), none, (.dict #[dE P "__module__" 203 (.str "gateloom.errors" 194), dE P "__qualname__" 205 (.str "GateloomError" 204), dE P "__firstlineno__" 207 (.int 5 206), dE P "__init__" 220 (.ref 36), dE P "__static_attributes__" 224 (.ref 37)] 5), #[]⟩
noncomputable def o25 (P : Params) : Obj := ⟨(.type "tuple"), none, (.seq #[] 0), #[]⟩
noncomputable def o26 (P : Params) : Obj := ⟨.none, none, (.fields #[(.int 7 0), (.int 4 0), (.ref 35)]), #[]⟩
noncomputable def o27 (P : Params) : Obj := ⟨(.type "code"), none, (.fields #[(.str "GateloomError" 198), (.str "GateloomError" 199), (.str "/claim/cut.py" 200), (.int 5 0), (.int 0 0), (.int 0 0), (.int 0 0), (.int 0 0), (.ref 25), (.bool false), (.int 181 0), (.ref 26), .none, .none, .none, .none, (.int 201 0), (.int 5 0), (.str "/claim/cut.py" 202)]), #[]⟩
noncomputable def o28 (P : Params) : Obj := ⟨(.type "frame"), none, .plain, #[some (.ref 27), some (.ref 3), some (.ref 24), none, some (.str "gateloom.errors" 194), none, some (.ref 0)]⟩
noncomputable def o29 (P : Params) : Obj := ⟨(.type "tuple"), none, (.seq #[(.int (-1) 209), (.str "" 210)] 0), #[]⟩
noncomputable def o30 (P : Params) : Obj := ⟨(.type "tuple"), none, (.seq #[] 0), #[]⟩
noncomputable def o31 (P : Params) : Obj := ⟨.none, none, (.fields #[]), #[]⟩
noncomputable def o32 (P : Params) : Obj := ⟨(.type "tuple"), none, (.seq #[(.str "self" 214), (.str "kind" 215), (.str "at" 216), (.str "detail" 217)] 0), #[]⟩
noncomputable def o33 (P : Params) : Obj := ⟨(.type "tuple"), none, (.seq #[] 0), #[]⟩
noncomputable def o34 (P : Params) : Obj := ⟨.none, none, (.func ⟨"__init__", "GateloomError.__init__", fA (su 2 0), .stmts (fB (su 2 0)), fS (su 2 0), 0, [], .none, .none, .none, .none, none, .none, .none, 0⟩), #[]⟩
noncomputable def o35 (P : Params) : Obj := ⟨(.type "code"), none, (.fields #[(.str "__init__" 211), (.str "GateloomError.__init__" 212), (.str "/claim/cut.py" 213), (.int 7 0), (.int 4 0), (.int 0 0), (.int 0 0), (.int 3 0), (.ref 30), (.bool true), (.int 181 0), (.ref 31), .none, (.ref 32), (.ref 33), (.ref 34), (.int 218 0), (.int 7 0), (.str "/claim/cut.py" 219)]), #[]⟩
noncomputable def o36 (P : Params) : Obj := ⟨(.type "function"), none, (.func ⟨"__init__", "GateloomError.__init__", fA (su 2 0), .stmts (fB (su 2 0)), fS (su 2 0), 3, [], (.ref 29), .none, .none, (.str "gateloom.errors" 194), none, (.ref 35), .none, 0⟩), #[]⟩
noncomputable def o37 (P : Params) : Obj := ⟨(.type "tuple"), none, (.seq #[(.str "at" 221), (.str "detail" 222), (.str "kind" 223)] 0), #[]⟩
noncomputable def o38 (P : Params) : Obj := ⟨(.type "dict"), none, (.dict #[dE P "__module__" 203 (.str "gateloom.errors" 194), dE P "__firstlineno__" 207 (.int 5 206), dE P "__init__" 220 (.ref 36), dE P "__static_attributes__" 224 (.ref 37), dE P "__weakref__" 226 (.ref 40), dE P "__doc__" 227 .none] 3), #[]⟩
noncomputable def o39 (P : Params) : Obj := ⟨(.type "type"), none, (.cls ⟨"GateloomError", [(.type "Exception")], [(.ref 39), (.type "Exception"), (.type "BaseException"), (.type "object")], 38, "GateloomError", true, [], [(.ref 52), (.ref 64)], false, none, false⟩), #[some (.ref 22), none, some (.str "GateloomError" 196), some (.str "GateloomError" 204), some (.builtin "Exception.__new__"), some (.bool true)]⟩
noncomputable def o40 (P : Params) : Obj := ⟨(.type "getset_descriptor"), none, (.fields #[(.str "__weakref__" 225), (.ref 39), (.builtin "ExceptionGroup.__weakref__"), .none]), #[]⟩
noncomputable def o41 (P : Params) : Obj := ⟨(.type "super"), none, (.fields #[(.ref 39), (.ref 39), (.ref 39)]), #[]⟩
noncomputable def o42 (P : Params) : Obj := ⟨(.type "builtin_function_or_method"), none, (.fields #[(.builtin "object.__init_subclass__"), (.ref 39)]), #[]⟩
noncomputable def o43 (P : Params) : Obj := ⟨(.type "tuple"), none, (.seq #[(.ref 39)] 0), #[]⟩
noncomputable def o44 (P : Params) : Obj := ⟨(.type "builtin_function_or_method"), none, (.fields #[(.builtin "type.__prepare__"), (.type "type")]), #[]⟩
noncomputable def o45 (P : Params) : Obj := ⟨(.type "dict"), none, (.dict #[dE P "__module__" 239 (.str "gateloom.errors" 194), dE P "__qualname__" 241 (.str "DesignError" 240), dE P "__firstlineno__" 243 (.int 11 242), dE P "__static_attributes__" 244 (.ref 50)] 4), #[]⟩
noncomputable def o46 (P : Params) : Obj := ⟨(.type "tuple"), none, (.seq #[] 0), #[]⟩
noncomputable def o47 (P : Params) : Obj := ⟨.none, none, (.fields #[]), #[]⟩
noncomputable def o48 (P : Params) : Obj := ⟨(.type "code"), none, (.fields #[(.str "DesignError" 234), (.str "DesignError" 235), (.str "/claim/cut.py" 236), (.int 11 0), (.int 0 0), (.int 0 0), (.int 0 0), (.int 0 0), (.ref 46), (.bool false), (.int 181 0), (.ref 47), .none, .none, .none, .none, (.int 237 0), (.int 11 0), (.str "/claim/cut.py" 238)]), #[]⟩
noncomputable def o49 (P : Params) : Obj := ⟨(.type "frame"), none, .plain, #[some (.ref 48), some (.ref 3), some (.ref 45), none, some (.str "gateloom.errors" 194), none, some (.ref 0)]⟩
noncomputable def o50 (P : Params) : Obj := ⟨(.type "tuple"), none, (.seq #[] 0), #[]⟩
noncomputable def o51 (P : Params) : Obj := ⟨(.type "dict"), none, (.dict #[dE P "__module__" 239 (.str "gateloom.errors" 194), dE P "__firstlineno__" 243 (.int 11 242), dE P "__static_attributes__" 244 (.ref 50), dE P "__doc__" 245 .none] 2), #[]⟩
noncomputable def o52 (P : Params) : Obj := ⟨(.type "type"), none, (.cls ⟨"DesignError", [(.ref 39)], [(.ref 52), (.ref 39), (.type "Exception"), (.type "BaseException"), (.type "object")], 51, "DesignError", true, [], [], false, none, false⟩), #[some (.ref 43), none, some (.str "DesignError" 232), some (.str "DesignError" 240), some (.builtin "Exception.__new__"), some (.bool true)]⟩
noncomputable def o53 (P : Params) : Obj := ⟨(.type "super"), none, (.fields #[(.ref 52), (.ref 52), (.ref 52)]), #[]⟩
noncomputable def o54 (P : Params) : Obj := ⟨(.type "builtin_function_or_method"), none, (.fields #[(.builtin "object.__init_subclass__"), (.ref 52)]), #[]⟩
noncomputable def o55 (P : Params) : Obj := ⟨(.type "tuple"), none, (.seq #[(.ref 39)] 0), #[]⟩
noncomputable def o56 (P : Params) : Obj := ⟨(.type "builtin_function_or_method"), none, (.fields #[(.builtin "type.__prepare__"), (.type "type")]), #[]⟩
noncomputable def o57 (P : Params) : Obj := ⟨(.type "dict"), none, (.dict #[dE P "__module__" 255 (.str "gateloom.errors" 194), dE P "__qualname__" 257 (.str "LimitReached" 256), dE P "__firstlineno__" 259 (.int 13 258), dE P "__static_attributes__" 260 (.ref 62)] 4), #[]⟩
noncomputable def o58 (P : Params) : Obj := ⟨(.type "tuple"), none, (.seq #[] 0), #[]⟩
noncomputable def o59 (P : Params) : Obj := ⟨.none, none, (.fields #[]), #[]⟩
noncomputable def o60 (P : Params) : Obj := ⟨(.type "code"), none, (.fields #[(.str "LimitReached" 250), (.str "LimitReached" 251), (.str "/claim/cut.py" 252), (.int 13 0), (.int 0 0), (.int 0 0), (.int 0 0), (.int 0 0), (.ref 58), (.bool false), (.int 181 0), (.ref 59), .none, .none, .none, .none, (.int 253 0), (.int 13 0), (.str "/claim/cut.py" 254)]), #[]⟩
noncomputable def o61 (P : Params) : Obj := ⟨(.type "frame"), none, .plain, #[some (.ref 60), some (.ref 3), some (.ref 57), none, some (.str "gateloom.errors" 194), none, some (.ref 0)]⟩
noncomputable def o62 (P : Params) : Obj := ⟨(.type "tuple"), none, (.seq #[] 0), #[]⟩
noncomputable def o63 (P : Params) : Obj := ⟨(.type "dict"), none, (.dict #[dE P "__module__" 255 (.str "gateloom.errors" 194), dE P "__firstlineno__" 259 (.int 13 258), dE P "__static_attributes__" 260 (.ref 62), dE P "__doc__" 261 .none] 2), #[]⟩
noncomputable def o64 (P : Params) : Obj := ⟨(.type "type"), none, (.cls ⟨"LimitReached", [(.ref 39)], [(.ref 64), (.ref 39), (.type "Exception"), (.type "BaseException"), (.type "object")], 63, "LimitReached", true, [], [], false, none, false⟩), #[some (.ref 55), none, some (.str "LimitReached" 248), some (.str "LimitReached" 256), some (.builtin "Exception.__new__"), some (.bool true)]⟩
noncomputable def o65 (P : Params) : Obj := ⟨(.type "super"), none, (.fields #[(.ref 64), (.ref 64), (.ref 64)]), #[]⟩
noncomputable def o66 (P : Params) : Obj := ⟨(.type "builtin_function_or_method"), none, (.fields #[(.builtin "object.__init_subclass__"), (.ref 64)]), #[]⟩
noncomputable def o67 (P : Params) : Obj := ⟨(.type "tuple"), none, (.seq #[] 0), #[]⟩
noncomputable def o68 (P : Params) : Obj := ⟨.none, none, (.fields #[]), #[]⟩
noncomputable def o69 (P : Params) : Obj := ⟨(.type "tuple"), none, (.seq #[(.str "w" 269)] 0), #[]⟩
noncomputable def o70 (P : Params) : Obj := ⟨(.type "tuple"), none, (.seq #[] 0), #[]⟩
noncomputable def o71 (P : Params) : Obj := ⟨.none, none, (.func ⟨"mask", "mask", fA (st 6), .stmts (fB (st 6)), fS (st 6), 0, [], .none, .none, .none, .none, none, .none, .none, 0⟩), #[]⟩
noncomputable def o72 (P : Params) : Obj := ⟨(.type "code"), none, (.fields #[(.str "mask" 266), (.str "mask" 267), (.str "/claim/cut.py" 268), (.int 16 0), (.int 1 0), (.int 0 0), (.int 0 0), (.int 3 0), (.ref 67), (.bool true), (.int 181 0), (.ref 68), .none, (.ref 69), (.ref 70), (.ref 71), (.int 270 0), (.int 16 0), (.str "/claim/cut.py" 271)]), #[]⟩
noncomputable def o73 (P : Params) : Obj := ⟨(.type "function"), none, (.func ⟨"mask", "mask", fA (st 6), .stmts (fB (st 6)), fS (st 6), 3, [], .none, .none, .none, (.str "gateloom.vec" 264), none, (.ref 72), .none, 0⟩), #[]⟩
noncomputable def o74 (P : Params) : Obj := ⟨(.type "tuple"), none, (.seq #[(.int 0 273)] 0), #[]⟩
noncomputable def o75 (P : Params) : Obj := ⟨(.type "tuple"), none, (.seq #[] 0), #[]⟩
noncomputable def o76 (P : Params) : Obj := ⟨.none, none, (.fields #[]), #[]⟩
noncomputable def o77 (P : Params) : Obj := ⟨(.type "tuple"), none, (.seq #[(.str "w" 277), (.str "a" 278), (.str "b" 279), (.str "full" 280)] 0), #[]⟩
noncomputable def o78 (P : Params) : Obj := ⟨(.type "tuple"), none, (.seq #[] 0), #[]⟩
noncomputable def o79 (P : Params) : Obj := ⟨.none, none, (.func ⟨"vec", "vec", fA (st 7), .stmts (fB (st 7)), fS (st 7), 0, [], .none, .none, .none, .none, none, .none, .none, 0⟩), #[]⟩
noncomputable def o80 (P : Params) : Obj := ⟨(.type "code"), none, (.fields #[(.str "vec" 274), (.str "vec" 275), (.str "/claim/cut.py" 276), (.int 18 0), (.int 3 0), (.int 0 0), (.int 0 0), (.int 3 0), (.ref 75), (.bool true), (.int 181 0), (.ref 76), .none, (.ref 77), (.ref 78), (.ref 79), (.int 281 0), (.int 18 0), (.str "/claim/cut.py" 282)]), #[]⟩
noncomputable def o81 (P : Params) : Obj := ⟨(.type "function"), none, (.func ⟨"vec", "vec", fA (st 7), .stmts (fB (st 7)), fS (st 7), 3, [], (.ref 74), .none, .none, (.str "gateloom.vec" 264), none, (.ref 80), .none, 0⟩), #[]⟩
noncomputable def o82 (P : Params) : Obj := ⟨(.type "tuple"), none, (.seq #[] 0), #[]⟩
noncomputable def o83 (P : Params) : Obj := ⟨.none, none, (.fields #[]), #[]⟩
noncomputable def o84 (P : Params) : Obj := ⟨(.type "tuple"), none, (.seq #[(.str "w" 287)] 0), #[]⟩
noncomputable def o85 (P : Params) : Obj := ⟨(.type "tuple"), none, (.seq #[] 0), #[]⟩
noncomputable def o86 (P : Params) : Obj := ⟨.none, none, (.func ⟨"zeros", "zeros", fA (st 8), .stmts (fB (st 8)), fS (st 8), 0, [], .none, .none, .none, .none, none, .none, .none, 0⟩), #[]⟩
noncomputable def o87 (P : Params) : Obj := ⟨(.type "code"), none, (.fields #[(.str "zeros" 284), (.str "zeros" 285), (.str "/claim/cut.py" 286), (.int 21 0), (.int 1 0), (.int 0 0), (.int 0 0), (.int 3 0), (.ref 82), (.bool true), (.int 181 0), (.ref 83), .none, (.ref 84), (.ref 85), (.ref 86), (.int 288 0), (.int 21 0), (.str "/claim/cut.py" 289)]), #[]⟩
noncomputable def o88 (P : Params) : Obj := ⟨(.type "function"), none, (.func ⟨"zeros", "zeros", fA (st 8), .stmts (fB (st 8)), fS (st 8), 3, [], .none, .none, .none, (.str "gateloom.vec" 264), none, (.ref 87), .none, 0⟩), #[]⟩
noncomputable def o89 (P : Params) : Obj := ⟨(.type "tuple"), none, (.seq #[] 0), #[]⟩
noncomputable def o90 (P : Params) : Obj := ⟨.none, none, (.fields #[]), #[]⟩
noncomputable def o91 (P : Params) : Obj := ⟨(.type "tuple"), none, (.seq #[(.str "w" 294), (.str "full" 295)] 0), #[]⟩
noncomputable def o92 (P : Params) : Obj := ⟨(.type "tuple"), none, (.seq #[] 0), #[]⟩
noncomputable def o93 (P : Params) : Obj := ⟨.none, none, (.func ⟨"all_x", "all_x", fA (st 9), .stmts (fB (st 9)), fS (st 9), 0, [], .none, .none, .none, .none, none, .none, .none, 0⟩), #[]⟩
noncomputable def o94 (P : Params) : Obj := ⟨(.type "code"), none, (.fields #[(.str "all_x" 291), (.str "all_x" 292), (.str "/claim/cut.py" 293), (.int 23 0), (.int 1 0), (.int 0 0), (.int 0 0), (.int 3 0), (.ref 89), (.bool true), (.int 181 0), (.ref 90), .none, (.ref 91), (.ref 92), (.ref 93), (.int 296 0), (.int 23 0), (.str "/claim/cut.py" 297)]), #[]⟩
noncomputable def o95 (P : Params) : Obj := ⟨(.type "function"), none, (.func ⟨"all_x", "all_x", fA (st 9), .stmts (fB (st 9)), fS (st 9), 3, [], .none, .none, .none, (.str "gateloom.vec" 264), none, (.ref 94), .none, 0⟩), #[]⟩
noncomputable def o96 (P : Params) : Obj := ⟨(.type "tuple"), none, (.seq #[] 0), #[]⟩
noncomputable def o97 (P : Params) : Obj := ⟨.none, none, (.fields #[]), #[]⟩
noncomputable def o98 (P : Params) : Obj := ⟨(.type "tuple"), none, (.seq #[(.str "w" 302)] 0), #[]⟩
noncomputable def o99 (P : Params) : Obj := ⟨(.type "tuple"), none, (.seq #[] 0), #[]⟩
noncomputable def o100 (P : Params) : Obj := ⟨.none, none, (.func ⟨"all_z", "all_z", fA (st 10), .stmts (fB (st 10)), fS (st 10), 0, [], .none, .none, .none, .none, none, .none, .none, 0⟩), #[]⟩
noncomputable def o101 (P : Params) : Obj := ⟨(.type "code"), none, (.fields #[(.str "all_z" 299), (.str "all_z" 300), (.str "/claim/cut.py" 301), (.int 26 0), (.int 1 0), (.int 0 0), (.int 0 0), (.int 3 0), (.ref 96), (.bool true), (.int 181 0), (.ref 97), .none, (.ref 98), (.ref 99), (.ref 100), (.int 303 0), (.int 26 0), (.str "/claim/cut.py" 304)]), #[]⟩
noncomputable def o102 (P : Params) : Obj := ⟨(.type "function"), none, (.func ⟨"all_z", "all_z", fA (st 10), .stmts (fB (st 10)), fS (st 10), 3, [], .none, .none, .none, (.str "gateloom.vec" 264), none, (.ref 101), .none, 0⟩), #[]⟩
noncomputable def o103 (P : Params) : Obj := ⟨(.type "tuple"), none, (.seq #[] 0), #[]⟩
noncomputable def o104 (P : Params) : Obj := ⟨.none, none, (.fields #[]), #[]⟩
noncomputable def o105 (P : Params) : Obj := ⟨(.type "tuple"), none, (.seq #[(.str "w" 309), (.str "n" 310)] 0), #[]⟩
noncomputable def o106 (P : Params) : Obj := ⟨(.type "tuple"), none, (.seq #[] 0), #[]⟩
noncomputable def o107 (P : Params) : Obj := ⟨.none, none, (.func ⟨"from_int", "from_int", fA (st 11), .stmts (fB (st 11)), fS (st 11), 0, [], .none, .none, .none, .none, none, .none, .none, 0⟩), #[]⟩
noncomputable def o108 (P : Params) : Obj := ⟨(.type "code"), none, (.fields #[(.str "from_int" 306), (.str "from_int" 307), (.str "/claim/cut.py" 308), (.int 28 0), (.int 2 0), (.int 0 0), (.int 0 0), (.int 3 0), (.ref 103), (.bool true), (.int 181 0), (.ref 104), .none, (.ref 105), (.ref 106), (.ref 107), (.int 311 0), (.int 28 0), (.str "/claim/cut.py" 312)]), #[]⟩
noncomputable def o109 (P : Params) : Obj := ⟨(.type "function"), none, (.func ⟨"from_int", "from_int", fA (st 11), .stmts (fB (st 11)), fS (st 11), 3, [], .none, .none, .none, (.str "gateloom.vec" 264), none, (.ref 108), .none, 0⟩), #[]⟩
noncomputable def o110 (P : Params) : Obj := ⟨(.type "tuple"), none, (.seq #[] 0), #[]⟩
noncomputable def o111 (P : Params) : Obj := ⟨.none, none, (.fields #[]), #[]⟩
noncomputable def o112 (P : Params) : Obj := ⟨(.type "tuple"), none, (.seq #[(.str "v" 317)] 0), #[]⟩
noncomputable def o113 (P : Params) : Obj := ⟨(.type "tuple"), none, (.seq #[] 0), #[]⟩
noncomputable def o114 (P : Params) : Obj := ⟨.none, none, (.func ⟨"is_known", "is_known", fA (st 12), .stmts (fB (st 12)), fS (st 12), 0, [], .none, .none, .none, .none, none, .none, .none, 0⟩), #[]⟩
noncomputable def o115 (P : Params) : Obj := ⟨(.type "code"), none, (.fields #[(.str "is_known" 314), (.str "is_known" 315), (.str "/claim/cut.py" 316), (.int 30 0), (.int 1 0), (.int 0 0), (.int 0 0), (.int 3 0), (.ref 110), (.bool true), (.int 181 0), (.ref 111), .none, (.ref 112), (.ref 113), (.ref 114), (.int 318 0), (.int 30 0), (.str "/claim/cut.py" 319)]), #[]⟩
noncomputable def o116 (P : Params) : Obj := ⟨(.type "function"), none, (.func ⟨"is_known", "is_known", fA (st 12), .stmts (fB (st 12)), fS (st 12), 3, [], .none, .none, .none, (.str "gateloom.vec" 264), none, (.ref 115), .none, 0⟩), #[]⟩
noncomputable def o117 (P : Params) : Obj := ⟨(.type "tuple"), none, (.seq #[] 0), #[]⟩
noncomputable def o118 (P : Params) : Obj := ⟨.none, none, (.fields #[]), #[]⟩
noncomputable def o119 (P : Params) : Obj := ⟨(.type "tuple"), none, (.seq #[(.str "v" 324), (.str "signed" 325), (.str "w" 326), (.str "a" 327), (.str "b" 328)] 0), #[]⟩
noncomputable def o120 (P : Params) : Obj := ⟨(.type "tuple"), none, (.seq #[] 0), #[]⟩
noncomputable def o121 (P : Params) : Obj := ⟨.none, none, (.func ⟨"to_int", "to_int", fA (st 13), .stmts (fB (st 13)), fS (st 13), 0, [], .none, .none, .none, .none, none, .none, .none, 0⟩), #[]⟩
noncomputable def o122 (P : Params) : Obj := ⟨(.type "code"), none, (.fields #[(.str "to_int" 321), (.str "to_int" 322), (.str "/claim/cut.py" 323), (.int 32 0), (.int 2 0), (.int 0 0), (.int 0 0), (.int 3 0), (.ref 117), (.bool true), (.int 181 0), (.ref 118), .none, (.ref 119), (.ref 120), (.ref 121), (.int 329 0), (.int 32 0), (.str "/claim/cut.py" 330)]), #[]⟩
noncomputable def o123 (P : Params) : Obj := ⟨(.type "function"), none, (.func ⟨"to_int", "to_int", fA (st 13), .stmts (fB (st 13)), fS (st 13), 3, [], .none, .none, .none, (.str "gateloom.vec" 264), none, (.ref 122), .none, 0⟩), #[]⟩
noncomputable def o124 (P : Params) : Obj := ⟨(.type "tuple"), none, (.seq #[] 0), #[]⟩
noncomputable def o125 (P : Params) : Obj := ⟨.none, none, (.fields #[]), #[]⟩
noncomputable def o126 (P : Params) : Obj := ⟨(.type "tuple"), none, (.seq #[(.str "v" 335), (.str "i" 336)] 0), #[]⟩
noncomputable def o127 (P : Params) : Obj := ⟨(.type "tuple"), none, (.seq #[] 0), #[]⟩
noncomputable def o128 (P : Params) : Obj := ⟨.none, none, (.func ⟨"code", "code", fA (st 14), .stmts (fB (st 14)), fS (st 14), 0, [], .none, .none, .none, .none, none, .none, .none, 0⟩), #[]⟩
noncomputable def o129 (P : Params) : Obj := ⟨(.type "code"), none, (.fields #[(.str "code" 332), (.str "code" 333), (.str "/claim/cut.py" 334), (.int 39 0), (.int 2 0), (.int 0 0), (.int 0 0), (.int 3 0), (.ref 124), (.bool true), (.int 181 0), (.ref 125), .none, (.ref 126), (.ref 127), (.ref 128), (.int 337 0), (.int 39 0), (.str "/claim/cut.py" 338)]), #[]⟩
noncomputable def o130 (P : Params) : Obj := ⟨(.type "function"), none, (.func ⟨"code", "code", fA (st 14), .stmts (fB (st 14)), fS (st 14), 3, [], .none, .none, .none, (.str "gateloom.vec" 264), none, (.ref 129), .none, 0⟩), #[]⟩
noncomputable def o131 (P : Params) : Obj := ⟨(.type "tuple"), none, (.seq #[] 0), #[]⟩
noncomputable def o132 (P : Params) : Obj := ⟨.none, none, (.fields #[]), #[]⟩
noncomputable def o133 (P : Params) : Obj := ⟨(.type "tuple"), none, (.seq #[(.str "v" 343), (.str "lo" 344), (.str "w" 345), (.str "first" 346), (.str "last" 347), (.str "inner" 348), (.str "shift" 349), (.str "outside" 350), (.str "a" 351), (.str "b" 352)] 0), #[]⟩
noncomputable def o134 (P : Params) : Obj := ⟨(.type "tuple"), none, (.seq #[] 0), #[]⟩
noncomputable def o135 (P : Params) : Obj := ⟨.none, none, (.func ⟨"slice_vec", "slice_vec", fA (st 15), .stmts (fB (st 15)), fS (st 15), 0, [], .none, .none, .none, .none, none, .none, .none, 0⟩), #[]⟩
noncomputable def o136 (P : Params) : Obj := ⟨(.type "code"), none, (.fields #[(.str "slice_vec" 340), (.str "slice_vec" 341), (.str "/claim/cut.py" 342), (.int 41 0), (.int 3 0), (.int 0 0), (.int 0 0), (.int 3 0), (.ref 131), (.bool true), (.int 181 0), (.ref 132), .none, (.ref 133), (.ref 134), (.ref 135), (.int 353 0), (.int 41 0), (.str "/claim/cut.py" 354)]), #[]⟩
noncomputable def o137 (P : Params) : Obj := ⟨(.type "function"), none, (.func ⟨"slice_vec", "slice_vec", fA (st 15), .stmts (fB (st 15)), fS (st 15), 3, [], .none, .none, .none, (.str "gateloom.vec" 264), none, (.ref 136), .none, 0⟩), #[]⟩
noncomputable def o138 (P : Params) : Obj := ⟨(.type "tuple"), none, (.seq #[] 0), #[]⟩
noncomputable def o139 (P : Params) : Obj := ⟨.none, none, (.fields #[]), #[]⟩
noncomputable def o140 (P : Params) : Obj := ⟨(.type "tuple"), none, (.seq #[(.str "v" 359), (.str "lo" 360), (.str "part" 361), (.str "first" 362), (.str "last" 363), (.str "inner" 364), (.str "skip" 365), (.str "keep" 366), (.str "a" 367), (.str "b" 368)] 0), #[]⟩
noncomputable def o141 (P : Params) : Obj := ⟨(.type "tuple"), none, (.seq #[] 0), #[]⟩
noncomputable def o142 (P : Params) : Obj := ⟨.none, none, (.func ⟨"put_slice", "put_slice", fA (st 16), .stmts (fB (st 16)), fS (st 16), 0, [], .none, .none, .none, .none, none, .none, .none, 0⟩), #[]⟩
noncomputable def o143 (P : Params) : Obj := ⟨(.type "code"), none, (.fields #[(.str "put_slice" 356), (.str "put_slice" 357), (.str "/claim/cut.py" 358), (.int 52 0), (.int 3 0), (.int 0 0), (.int 0 0), (.int 3 0), (.ref 138), (.bool true), (.int 181 0), (.ref 139), .none, (.ref 140), (.ref 141), (.ref 142), (.int 369 0), (.int 52 0), (.str "/claim/cut.py" 370)]), #[]⟩
noncomputable def o144 (P : Params) : Obj := ⟨(.type "function"), none, (.func ⟨"put_slice", "put_slice", fA (st 16), .stmts (fB (st 16)), fS (st 16), 3, [], .none, .none, .none, (.str "gateloom.vec" 264), none, (.ref 143), .none, 0⟩), #[]⟩
noncomputable def o145 (P : Params) : Obj := ⟨(.type "tuple"), none, (.seq #[] 0), #[]⟩
noncomputable def o146 (P : Params) : Obj := ⟨.none, none, (.fields #[]), #[]⟩
noncomputable def o147 (P : Params) : Obj := ⟨(.type "tuple"), none, (.seq #[(.str "vs" 375), (.str "w" 376), (.str "a" 377), (.str "b" 378), (.str "v" 379)] 0), #[]⟩
noncomputable def o148 (P : Params) : Obj := ⟨(.type "tuple"), none, (.seq #[] 0), #[]⟩
noncomputable def o149 (P : Params) : Obj := ⟨.none, none, (.func ⟨"concat", "concat", fA (st 17), .stmts (fB (st 17)), fS (st 17), 0, [], .none, .none, .none, .none, none, .none, .none, 0⟩), #[]⟩
noncomputable def o150 (P : Params) : Obj := ⟨(.type "code"), none, (.fields #[(.str "concat" 372), (.str "concat" 373), (.str "/claim/cut.py" 374), (.int 63 0), (.int 1 0), (.int 0 0), (.int 0 0), (.int 3 0), (.ref 145), (.bool true), (.int 181 0), (.ref 146), .none, (.ref 147), (.ref 148), (.ref 149), (.int 380 0), (.int 63 0), (.str "/claim/cut.py" 381)]), #[]⟩
noncomputable def o151 (P : Params) : Obj := ⟨(.type "function"), none, (.func ⟨"concat", "concat", fA (st 17), .stmts (fB (st 17)), fS (st 17), 3, [], .none, .none, .none, (.str "gateloom.vec" 264), none, (.ref 150), .none, 0⟩), #[]⟩
noncomputable def o152 (P : Params) : Obj := ⟨(.type "tuple"), none, (.seq #[] 0), #[]⟩
noncomputable def o153 (P : Params) : Obj := ⟨.none, none, (.fields #[]), #[]⟩
noncomputable def o154 (P : Params) : Obj := ⟨(.type "tuple"), none, (.seq #[(.str "v" 386), (.str "w" 387), (.str "signed" 388), (.str "fill" 389), (.str "top" 390), (.str "a" 391), (.str "b" 392)] 0), #[]⟩
noncomputable def o155 (P : Params) : Obj := ⟨(.type "tuple"), none, (.seq #[] 0), #[]⟩
noncomputable def o156 (P : Params) : Obj := ⟨.none, none, (.func ⟨"extend", "extend", fA (st 18), .stmts (fB (st 18)), fS (st 18), 0, [], .none, .none, .none, .none, none, .none, .none, 0⟩), #[]⟩
noncomputable def o157 (P : Params) : Obj := ⟨(.type "code"), none, (.fields #[(.str "extend" 383), (.str "extend" 384), (.str "/claim/cut.py" 385), (.int 72 0), (.int 3 0), (.int 0 0), (.int 0 0), (.int 3 0), (.ref 152), (.bool true), (.int 181 0), (.ref 153), .none, (.ref 154), (.ref 155), (.ref 156), (.int 393 0), (.int 72 0), (.str "/claim/cut.py" 394)]), #[]⟩
noncomputable def o158 (P : Params) : Obj := ⟨(.type "function"), none, (.func ⟨"extend", "extend", fA (st 18), .stmts (fB (st 18)), fS (st 18), 3, [], .none, .none, .none, (.str "gateloom.vec" 264), none, (.ref 157), .none, 0⟩), #[]⟩
noncomputable def o159 (P : Params) : Obj := ⟨(.type "tuple"), none, (.seq #[] 0), #[]⟩
noncomputable def o160 (P : Params) : Obj := ⟨.none, none, (.fields #[]), #[]⟩
noncomputable def o161 (P : Params) : Obj := ⟨(.type "tuple"), none, (.seq #[(.str "v" 399)] 0), #[]⟩
noncomputable def o162 (P : Params) : Obj := ⟨(.type "tuple"), none, (.seq #[] 0), #[]⟩
noncomputable def o163 (P : Params) : Obj := ⟨.none, none, (.func ⟨"z_to_x", "z_to_x", fA (st 19), .stmts (fB (st 19)), fS (st 19), 0, [], .none, .none, .none, .none, none, .none, .none, 0⟩), #[]⟩
noncomputable def o164 (P : Params) : Obj := ⟨(.type "code"), none, (.fields #[(.str "z_to_x" 396), (.str "z_to_x" 397), (.str "/claim/cut.py" 398), (.int 82 0), (.int 1 0), (.int 0 0), (.int 0 0), (.int 3 0), (.ref 159), (.bool true), (.int 181 0), (.ref 160), .none, (.ref 161), (.ref 162), (.ref 163), (.int 400 0), (.int 82 0), (.str "/claim/cut.py" 401)]), #[]⟩
noncomputable def o165 (P : Params) : Obj := ⟨(.type "function"), none, (.func ⟨"z_to_x", "z_to_x", fA (st 19), .stmts (fB (st 19)), fS (st 19), 3, [], .none, .none, .none, (.str "gateloom.vec" 264), none, (.ref 164), .none, 0⟩), #[]⟩
noncomputable def o166 (P : Params) : Obj := ⟨(.type "tuple"), none, (.seq #[] 0), #[]⟩
noncomputable def o167 (P : Params) : Obj := ⟨.none, none, (.fields #[]), #[]⟩
noncomputable def o168 (P : Params) : Obj := ⟨(.type "tuple"), none, (.seq #[(.str "v" 406)] 0), #[]⟩
noncomputable def o169 (P : Params) : Obj := ⟨(.type "tuple"), none, (.seq #[] 0), #[]⟩
noncomputable def o170 (P : Params) : Obj := ⟨.none, none, (.func ⟨"truth", "truth", fA (st 20), .stmts (fB (st 20)), fS (st 20), 0, [], .none, .none, .none, .none, none, .none, .none, 0⟩), #[]⟩
noncomputable def o171 (P : Params) : Obj := ⟨(.type "code"), none, (.fields #[(.str "truth" 403), (.str "truth" 404), (.str "/claim/cut.py" 405), (.int 84 0), (.int 1 0), (.int 0 0), (.int 0 0), (.int 3 0), (.ref 166), (.bool true), (.int 181 0), (.ref 167), .none, (.ref 168), (.ref 169), (.ref 170), (.int 407 0), (.int 84 0), (.str "/claim/cut.py" 408)]), #[]⟩
noncomputable def o172 (P : Params) : Obj := ⟨(.type "function"), none, (.func ⟨"truth", "truth", fA (st 20), .stmts (fB (st 20)), fS (st 20), 3, [], .none, .none, .none, (.str "gateloom.vec" 264), none, (.ref 171), .none, 0⟩), #[]⟩
noncomputable def o173 (P : Params) : Obj := ⟨(.type "tuple"), none, (.seq #[] 0), #[]⟩
noncomputable def o174 (P : Params) : Obj := ⟨(.type "builtin_function_or_method"), none, (.fields #[(.builtin "type.__prepare__"), (.type "type")]), #[]⟩
noncomputable def o175 (P : Params) : Obj := ⟨(.type "dict"), none, (.dict #[dE P "__module__" 419 (.str "gateloom.store" 410), dE P "__qualname__" 421 (.str "Store" 420), dE P "__firstlineno__" 423 (.int 91 422), dE P "__init__" 431 (.ref 186), dE P "get" 441 (.ref 193), dE P "word" 453 (.ref 200), dE P "set_bits" 466 (.ref 207), dE P "__static_attributes__" 471 (.ref 208)] 8), #[]⟩
noncomputable def o176 (P : Params) : Obj := ⟨(.type "tuple"), none, (.seq #[] 0), #[]⟩
noncomputable def o177 (P : Params) : Obj := ⟨.none, none, (.fields #[(.int 93 0), (.int 4 0), (.ref 185), (.int 99 0), (.int 4 0), (.ref 192), (.int 108 0), (.int 4 0), (.ref 199), (.int 119 0), (.int 4 0), (.ref 206)]), #[]⟩
noncomputable def o178 (P : Params) : Obj := ⟨(.type "code"), none, (.fields #[(.str "Store" 414), (.str "Store" 415), (.str "/claim/cut.py" 416), (.int 91 0), (.int 0 0), (.int 0 0), (.int 0 0), (.int 0 0), (.ref 176), (.bool false), (.int 181 0), (.ref 177), .none, .none, .none, .none, (.int 417 0), (.int 91 0), (.str "/claim/cut.py" 418)]), #[]⟩
noncomputable def o179 (P : Params) : Obj := ⟨(.type "frame"), none, .plain, #[some (.ref 178), some (.ref 3), some (.ref 175), none, some (.str "gateloom.store" 410), none, some (.ref 0)]⟩
noncomputable def o180 (P : Params) : Obj := ⟨(.type "tuple"), none, (.seq #[] 0), #[]⟩
noncomputable def o181 (P : Params) : Obj := ⟨.none, none, (.fields #[]), #[]⟩
noncomputable def o182 (P : Params) : Obj := ⟨(.type "tuple"), none, (.seq #[(.str "self" 427), (.str "signals" 428)] 0), #[]⟩
noncomputable def o183 (P : Params) : Obj := ⟨(.type "tuple"), none, (.seq #[] 0), #[]⟩
noncomputable def o184 (P : Params) : Obj := ⟨.none, none, (.func ⟨"__init__", "Store.__init__", fA (su 22 0), .stmts (fB (su 22 0)), fS (su 22 0), 0, [], .none, .none, .none, .none, none, .none, .none, 0⟩), #[]⟩
noncomputable def o185 (P : Params) : Obj := ⟨(.type "code"), none, (.fields #[(.str "__init__" 424), (.str "Store.__init__" 425), (.str "/claim/cut.py" 426), (.int 93 0), (.int 2 0), (.int 0 0), (.int 0 0), (.int 3 0), (.ref 180), (.bool true), (.int 181 0), (.ref 181), .none, (.ref 182), (.ref 183), (.ref 184), (.int 429 0), (.int 93 0), (.str "/claim/cut.py" 430)]), #[]⟩
noncomputable def o186 (P : Params) : Obj := ⟨(.type "function"), none, (.func ⟨"__init__", "Store.__init__", fA (su 22 0), .stmts (fB (su 22 0)), fS (su 22 0), 3, [], .none, .none, .none, (.str "gateloom.store" 410), none, (.ref 185), .none, 0⟩), #[]⟩
noncomputable def o187 (P : Params) : Obj := ⟨(.type "tuple"), none, (.seq #[] 0), #[]⟩
noncomputable def o188 (P : Params) : Obj := ⟨.none, none, (.fields #[]), #[]⟩
noncomputable def o189 (P : Params) : Obj := ⟨(.type "tuple"), none, (.seq #[(.str "self" 435), (.str "key" 436), (.str "value" 437), (.str "signal" 438)] 0), #[]⟩
noncomputable def o190 (P : Params) : Obj := ⟨(.type "tuple"), none, (.seq #[] 0), #[]⟩
noncomputable def o191 (P : Params) : Obj := ⟨.none, none, (.func ⟨"get", "Store.get", fA (su 22 1), .stmts (fB (su 22 1)), fS (su 22 1), 0, [], .none, .none, .none, .none, none, .none, .none, 0⟩), #[]⟩
noncomputable def o192 (P : Params) : Obj := ⟨(.type "code"), none, (.fields #[(.str "get" 432), (.str "Store.get" 433), (.str "/claim/cut.py" 434), (.int 99 0), (.int 2 0), (.int 0 0), (.int 0 0), (.int 3 0), (.ref 187), (.bool true), (.int 181 0), (.ref 188), .none, (.ref 189), (.ref 190), (.ref 191), (.int 439 0), (.int 99 0), (.str "/claim/cut.py" 440)]), #[]⟩
noncomputable def o193 (P : Params) : Obj := ⟨(.type "function"), none, (.func ⟨"get", "Store.get", fA (su 22 1), .stmts (fB (su 22 1)), fS (su 22 1), 3, [], .none, .none, .none, (.str "gateloom.store" 410), none, (.ref 192), .none, 0⟩), #[]⟩
noncomputable def o194 (P : Params) : Obj := ⟨(.type "tuple"), none, (.seq #[] 0), #[]⟩
noncomputable def o195 (P : Params) : Obj := ⟨.none, none, (.fields #[]), #[]⟩
noncomputable def o196 (P : Params) : Obj := ⟨(.type "tuple"), none, (.seq #[(.str "self" 445), (.str "key" 446), (.str "place" 447), (.str "words" 448), (.str "value" 449), (.str "signal" 450)] 0), #[]⟩
noncomputable def o197 (P : Params) : Obj := ⟨(.type "tuple"), none, (.seq #[] 0), #[]⟩
noncomputable def o198 (P : Params) : Obj := ⟨.none, none, (.func ⟨"word", "Store.word", fA (su 22 2), .stmts (fB (su 22 2)), fS (su 22 2), 0, [], .none, .none, .none, .none, none, .none, .none, 0⟩), #[]⟩
noncomputable def o199 (P : Params) : Obj := ⟨(.type "code"), none, (.fields #[(.str "word" 442), (.str "Store.word" 443), (.str "/claim/cut.py" 444), (.int 108 0), (.int 3 0), (.int 0 0), (.int 0 0), (.int 3 0), (.ref 194), (.bool true), (.int 181 0), (.ref 195), .none, (.ref 196), (.ref 197), (.ref 198), (.int 451 0), (.int 108 0), (.str "/claim/cut.py" 452)]), #[]⟩
noncomputable def o200 (P : Params) : Obj := ⟨(.type "function"), none, (.func ⟨"word", "Store.word", fA (su 22 2), .stmts (fB (su 22 2)), fS (su 22 2), 3, [], .none, .none, .none, (.str "gateloom.store" 410), none, (.ref 199), .none, 0⟩), #[]⟩
noncomputable def o201 (P : Params) : Obj := ⟨(.type "tuple"), none, (.seq #[] 0), #[]⟩
noncomputable def o202 (P : Params) : Obj := ⟨.none, none, (.fields #[]), #[]⟩
noncomputable def o203 (P : Params) : Obj := ⟨(.type "tuple"), none, (.seq #[(.str "self" 457), (.str "key" 458), (.str "place" 459), (.str "lo" 460), (.str "value" 461), (.str "old" 462), (.str "new" 463)] 0), #[]⟩
noncomputable def o204 (P : Params) : Obj := ⟨(.type "tuple"), none, (.seq #[] 0), #[]⟩
noncomputable def o205 (P : Params) : Obj := ⟨.none, none, (.func ⟨"set_bits", "Store.set_bits", fA (su 22 3), .stmts (fB (su 22 3)), fS (su 22 3), 0, [], .none, .none, .none, .none, none, .none, .none, 0⟩), #[]⟩
noncomputable def o206 (P : Params) : Obj := ⟨(.type "code"), none, (.fields #[(.str "set_bits" 454), (.str "Store.set_bits" 455), (.str "/claim/cut.py" 456), (.int 119 0), (.int 5 0), (.int 0 0), (.int 0 0), (.int 3 0), (.ref 201), (.bool true), (.int 181 0), (.ref 202), .none, (.ref 203), (.ref 204), (.ref 205), (.int 464 0), (.int 119 0), (.str "/claim/cut.py" 465)]), #[]⟩
noncomputable def o207 (P : Params) : Obj := ⟨(.type "function"), none, (.func ⟨"set_bits", "Store.set_bits", fA (su 22 3), .stmts (fB (su 22 3)), fS (su 22 3), 3, [], .none, .none, .none, (.str "gateloom.store" 410), none, (.ref 206), .none, 0⟩), #[]⟩
noncomputable def o208 (P : Params) : Obj := ⟨(.type "tuple"), none, (.seq #[(.str "memories" 467), (.str "random_seed" 468), (.str "signals" 469), (.str "values" 470)] 0), #[]⟩
noncomputable def o209 (P : Params) : Obj := ⟨(.type "dict"), none, (.dict #[dE P "__module__" 419 (.str "gateloom.store" 410), dE P "__firstlineno__" 423 (.int 91 422), dE P "__init__" 431 (.ref 186), dE P "get" 441 (.ref 193), dE P "word" 453 (.ref 200), dE P "set_bits" 466 (.ref 207), dE P "__static_attributes__" 471 (.ref 208), dE P "__dict__" 473 (.ref 211), dE P "__weakref__" 475 (.ref 212), dE P "__doc__" 476 .none] 4), #[]⟩
noncomputable def o210 (P : Params) : Obj := ⟨(.type "type"), none, (.cls ⟨"Store", [(.type "object")], [(.ref 210), (.type "object")], 209, "Store", true, [], [], false, none, false⟩), #[none, none, some (.str "Store" 412), some (.str "Store" 420), some (.builtin "object.__new__"), some (.bool true)]⟩
noncomputable def o211 (P : Params) : Obj := ⟨(.type "getset_descriptor"), none, (.fields #[(.str "__dict__" 472), (.ref 210), (.builtin "function.__dict__"), (.builtin "function.__dict__#set")]), #[]⟩
noncomputable def o212 (P : Params) : Obj := ⟨(.type "getset_descriptor"), none, (.fields #[(.str "__weakref__" 474), (.ref 210), (.builtin "ExceptionGroup.__weakref__"), .none]), #[]⟩
noncomputable def o213 (P : Params) : Obj := ⟨(.type "super"), none, (.fields #[(.ref 210), (.ref 210), (.ref 210)]), #[]⟩
noncomputable def o214 (P : Params) : Obj := ⟨(.type "builtin_function_or_method"), none, (.fields #[(.builtin "object.__init_subclass__"), (.ref 210)]), #[]⟩
noncomputable def o215 (P : Params) : Obj := ⟨(.type "tuple"), none, (.seq #[] 0), #[]⟩
noncomputable def o216 (P : Params) : Obj := ⟨(.type "builtin_function_or_method"), none, (.fields #[(.builtin "type.__prepare__"), (.type "type")]), #[]⟩
noncomputable def o217 (P : Params) : Obj := ⟨(.type "dict"), none, (.dict #[dE P "__module__" 486 (.str "gateloom.store" 410), dE P "__qualname__" 488 (.str "Context" 487), dE P "__firstlineno__" 490 (.int 137 489), dE P "__init__" 501 (.ref 229), dE P "call" 510 (.ref 236), dE P "next_random" 518 (.ref 243), dE P "time_vec" 526 (.ref 250), dE P "__static_attributes__" 530 (.ref 251)] 8), #[]⟩
noncomputable def o218 (P : Params) : Obj := ⟨(.type "tuple"), none, (.seq #[] 0), #[]⟩
noncomputable def o219 (P : Params) : Obj := ⟨.none, none, (.fields #[(.int 139 0), (.int 4 0), (.ref 228), (.int 144 0), (.int 4 0), (.ref 235), (.int 147 0), (.int 4 0), (.ref 242), (.int 154 0), (.int 4 0), (.ref 249)]), #[]⟩
noncomputable def o220 (P : Params) : Obj := ⟨(.type "code"), none, (.fields #[(.str "Context" 481), (.str "Context" 482), (.str "/claim/cut.py" 483), (.int 137 0), (.int 0 0), (.int 0 0), (.int 0 0), (.int 0 0), (.ref 218), (.bool false), (.int 181 0), (.ref 219), .none, .none, .none, .none, (.int 484 0), (.int 137 0), (.str "/claim/cut.py" 485)]), #[]⟩
noncomputable def o221 (P : Params) : Obj := ⟨(.type "frame"), none, .plain, #[some (.ref 220), some (.ref 3), some (.ref 217), none, some (.str "gateloom.store" 410), none, some (.ref 0)]⟩
noncomputable def o222 (P : Params) : Obj := ⟨(.type "tuple"), none, (.seq #[(.int 0 491)] 0), #[]⟩
noncomputable def o223 (P : Params) : Obj := ⟨(.type "tuple"), none, (.seq #[] 0), #[]⟩
noncomputable def o224 (P : Params) : Obj := ⟨.none, none, (.fields #[]), #[]⟩
noncomputable def o225 (P : Params) : Obj := ⟨(.type "tuple"), none, (.seq #[(.str "self" 495), (.str "store" 496), (.str "frame" 497), (.str "now" 498)] 0), #[]⟩
noncomputable def o226 (P : Params) : Obj := ⟨(.type "tuple"), none, (.seq #[] 0), #[]⟩
noncomputable def o227 (P : Params) : Obj := ⟨.none, none, (.func ⟨"__init__", "Context.__init__", fA (su 23 0), .stmts (fB (su 23 0)), fS (su 23 0), 0, [], .none, .none, .none, .none, none, .none, .none, 0⟩), #[]⟩
noncomputable def o228 (P : Params) : Obj := ⟨(.type "code"), none, (.fields #[(.str "__init__" 492), (.str "Context.__init__" 493), (.str "/claim/cut.py" 494), (.int 139 0), (.int 4 0), (.int 0 0), (.int 0 0), (.int 3 0), (.ref 223), (.bool true), (.int 181 0), (.ref 224), .none, (.ref 225), (.ref 226), (.ref 227), (.int 499 0), (.int 139 0), (.str "/claim/cut.py" 500)]), #[]⟩
noncomputable def o229 (P : Params) : Obj := ⟨(.type "function"), none, (.func ⟨"__init__", "Context.__init__", fA (su 23 0), .stmts (fB (su 23 0)), fS (su 23 0), 3, [], (.ref 222), .none, .none, (.str "gateloom.store" 410), none, (.ref 228), .none, 0⟩), #[]⟩
noncomputable def o230 (P : Params) : Obj := ⟨(.type "tuple"), none, (.seq #[] 0), #[]⟩
noncomputable def o231 (P : Params) : Obj := ⟨.none, none, (.fields #[]), #[]⟩
noncomputable def o232 (P : Params) : Obj := ⟨(.type "tuple"), none, (.seq #[(.str "self" 505), (.str "number" 506), (.str "args" 507)] 0), #[]⟩
noncomputable def o233 (P : Params) : Obj := ⟨(.type "tuple"), none, (.seq #[] 0), #[]⟩
noncomputable def o234 (P : Params) : Obj := ⟨.none, none, (.func ⟨"call", "Context.call", fA (su 23 1), .stmts (fB (su 23 1)), fS (su 23 1), 0, [], .none, .none, .none, .none, none, .none, .none, 0⟩), #[]⟩
noncomputable def o235 (P : Params) : Obj := ⟨(.type "code"), none, (.fields #[(.str "call" 502), (.str "Context.call" 503), (.str "/claim/cut.py" 504), (.int 144 0), (.int 3 0), (.int 0 0), (.int 0 0), (.int 3 0), (.ref 230), (.bool true), (.int 181 0), (.ref 231), .none, (.ref 232), (.ref 233), (.ref 234), (.int 508 0), (.int 144 0), (.str "/claim/cut.py" 509)]), #[]⟩
noncomputable def o236 (P : Params) : Obj := ⟨(.type "function"), none, (.func ⟨"call", "Context.call", fA (su 23 1), .stmts (fB (su 23 1)), fS (su 23 1), 3, [], .none, .none, .none, (.str "gateloom.store" 410), none, (.ref 235), .none, 0⟩), #[]⟩
noncomputable def o237 (P : Params) : Obj := ⟨(.type "tuple"), none, (.seq #[] 0), #[]⟩
noncomputable def o238 (P : Params) : Obj := ⟨.none, none, (.fields #[]), #[]⟩
noncomputable def o239 (P : Params) : Obj := ⟨(.type "tuple"), none, (.seq #[(.str "self" 514), (.str "seed" 515)] 0), #[]⟩
noncomputable def o240 (P : Params) : Obj := ⟨(.type "tuple"), none, (.seq #[] 0), #[]⟩
noncomputable def o241 (P : Params) : Obj := ⟨.none, none, (.func ⟨"next_random", "Context.next_random", fA (su 23 2), .stmts (fB (su 23 2)), fS (su 23 2), 0, [], .none, .none, .none, .none, none, .none, .none, 0⟩), #[]⟩
noncomputable def o242 (P : Params) : Obj := ⟨(.type "code"), none, (.fields #[(.str "next_random" 511), (.str "Context.next_random" 512), (.str "/claim/cut.py" 513), (.int 147 0), (.int 1 0), (.int 0 0), (.int 0 0), (.int 3 0), (.ref 237), (.bool true), (.int 181 0), (.ref 238), .none, (.ref 239), (.ref 240), (.ref 241), (.int 516 0), (.int 147 0), (.str "/claim/cut.py" 517)]), #[]⟩
noncomputable def o243 (P : Params) : Obj := ⟨(.type "function"), none, (.func ⟨"next_random", "Context.next_random", fA (su 23 2), .stmts (fB (su 23 2)), fS (su 23 2), 3, [], .none, .none, .none, (.str "gateloom.store" 410), none, (.ref 242), .none, 0⟩), #[]⟩
noncomputable def o244 (P : Params) : Obj := ⟨(.type "tuple"), none, (.seq #[] 0), #[]⟩
noncomputable def o245 (P : Params) : Obj := ⟨.none, none, (.fields #[]), #[]⟩
noncomputable def o246 (P : Params) : Obj := ⟨(.type "tuple"), none, (.seq #[(.str "self" 522), (.str "width" 523)] 0), #[]⟩
noncomputable def o247 (P : Params) : Obj := ⟨(.type "tuple"), none, (.seq #[] 0), #[]⟩
noncomputable def o248 (P : Params) : Obj := ⟨.none, none, (.func ⟨"time_vec", "Context.time_vec", fA (su 23 3), .stmts (fB (su 23 3)), fS (su 23 3), 0, [], .none, .none, .none, .none, none, .none, .none, 0⟩), #[]⟩
noncomputable def o249 (P : Params) : Obj := ⟨(.type "code"), none, (.fields #[(.str "time_vec" 519), (.str "Context.time_vec" 520), (.str "/claim/cut.py" 521), (.int 154 0), (.int 2 0), (.int 0 0), (.int 0 0), (.int 3 0), (.ref 244), (.bool true), (.int 181 0), (.ref 245), .none, (.ref 246), (.ref 247), (.ref 248), (.int 524 0), (.int 154 0), (.str "/claim/cut.py" 525)]), #[]⟩
noncomputable def o250 (P : Params) : Obj := ⟨(.type "function"), none, (.func ⟨"time_vec", "Context.time_vec", fA (su 23 3), .stmts (fB (su 23 3)), fS (su 23 3), 3, [], .none, .none, .none, (.str "gateloom.store" 410), none, (.ref 249), .none, 0⟩), #[]⟩
noncomputable def o251 (P : Params) : Obj := ⟨(.type "tuple"), none, (.seq #[(.str "frame" 527), (.str "now" 528), (.str "store" 529)] 0), #[]⟩
noncomputable def o252 (P : Params) : Obj := ⟨(.type "dict"), none, (.dict #[dE P "__module__" 486 (.str "gateloom.store" 410), dE P "__firstlineno__" 490 (.int 137 489), dE P "__init__" 501 (.ref 229), dE P "call" 510 (.ref 236), dE P "next_random" 518 (.ref 243), dE P "time_vec" 526 (.ref 250), dE P "__static_attributes__" 530 (.ref 251), dE P "__dict__" 532 (.ref 254), dE P "__weakref__" 534 (.ref 255), dE P "__doc__" 535 .none] 4), #[]⟩
noncomputable def o253 (P : Params) : Obj := ⟨(.type "type"), none, (.cls ⟨"Context", [(.type "object")], [(.ref 253), (.type "object")], 252, "Context", true, [], [(.ref 677)], false, none, false⟩), #[none, none, some (.str "Context" 479), some (.str "Context" 487), some (.builtin "object.__new__"), some (.bool true)]⟩
noncomputable def o254 (P : Params) : Obj := ⟨(.type "getset_descriptor"), none, (.fields #[(.str "__dict__" 531), (.ref 253), (.builtin "function.__dict__"), (.builtin "function.__dict__#set")]), #[]⟩
noncomputable def o255 (P : Params) : Obj := ⟨(.type "getset_descriptor"), none, (.fields #[(.str "__weakref__" 533), (.ref 253), (.builtin "ExceptionGroup.__weakref__"), .none]), #[]⟩
noncomputable def o256 (P : Params) : Obj := ⟨(.type "super"), none, (.fields #[(.ref 253), (.ref 253), (.ref 253)]), #[]⟩
noncomputable def o257 (P : Params) : Obj := ⟨(.type "builtin_function_or_method"), none, (.fields #[(.builtin "object.__init_subclass__"), (.ref 253)]), #[]⟩
noncomputable def o258 (P : Params) : Obj := ⟨(.type "tuple"), none, (.seq #[] 0), #[]⟩
noncomputable def o259 (P : Params) : Obj := ⟨.none, none, (.fields #[]), #[]⟩
noncomputable def o260 (P : Params) : Obj := ⟨(.type "tuple"), none, (.seq #[(.str "u" 543), (.str "v" 544)] 0), #[]⟩
noncomputable def o261 (P : Params) : Obj := ⟨(.type "tuple"), none, (.seq #[] 0), #[]⟩
noncomputable def o262 (P : Params) : Obj := ⟨.none, none, (.func ⟨"add", "add", fA (st 25), .stmts (fB (st 25)), fS (st 25), 0, [], .none, .none, .none, .none, none, .none, .none, 0⟩), #[]⟩
noncomputable def o263 (P : Params) : Obj := ⟨(.type "code"), none, (.fields #[(.str "add" 540), (.str "add" 541), (.str "/claim/cut.py" 542), (.int 157 0), (.int 2 0), (.int 0 0), (.int 0 0), (.int 3 0), (.ref 258), (.bool true), (.int 181 0), (.ref 259), .none, (.ref 260), (.ref 261), (.ref 262), (.int 545 0), (.int 157 0), (.str "/claim/cut.py" 546)]), #[]⟩
noncomputable def o264 (P : Params) : Obj := ⟨(.type "function"), none, (.func ⟨"add", "add", fA (st 25), .stmts (fB (st 25)), fS (st 25), 3, [], .none, .none, .none, (.str "gateloom.vecarith" 538), none, (.ref 263), .none, 0⟩), #[]⟩
noncomputable def o265 (P : Params) : Obj := ⟨(.type "tuple"), none, (.seq #[] 0), #[]⟩
noncomputable def o266 (P : Params) : Obj := ⟨.none, none, (.fields #[]), #[]⟩
noncomputable def o267 (P : Params) : Obj := ⟨(.type "tuple"), none, (.seq #[(.str "u" 551), (.str "v" 552)] 0), #[]⟩
noncomputable def o268 (P : Params) : Obj := ⟨(.type "tuple"), none, (.seq #[] 0), #[]⟩
noncomputable def o269 (P : Params) : Obj := ⟨.none, none, (.func ⟨"sub", "sub", fA (st 26), .stmts (fB (st 26)), fS (st 26), 0, [], .none, .none, .none, .none, none, .none, .none, 0⟩), #[]⟩
noncomputable def o270 (P : Params) : Obj := ⟨(.type "code"), none, (.fields #[(.str "sub" 548), (.str "sub" 549), (.str "/claim/cut.py" 550), (.int 161 0), (.int 2 0), (.int 0 0), (.int 0 0), (.int 3 0), (.ref 265), (.bool true), (.int 181 0), (.ref 266), .none, (.ref 267), (.ref 268), (.ref 269), (.int 553 0), (.int 161 0), (.str "/claim/cut.py" 554)]), #[]⟩
noncomputable def o271 (P : Params) : Obj := ⟨(.type "function"), none, (.func ⟨"sub", "sub", fA (st 26), .stmts (fB (st 26)), fS (st 26), 3, [], .none, .none, .none, (.str "gateloom.vecarith" 538), none, (.ref 270), .none, 0⟩), #[]⟩
noncomputable def o272 (P : Params) : Obj := ⟨(.type "tuple"), none, (.seq #[] 0), #[]⟩
noncomputable def o273 (P : Params) : Obj := ⟨.none, none, (.fields #[]), #[]⟩
noncomputable def o274 (P : Params) : Obj := ⟨(.type "tuple"), none, (.seq #[(.str "u" 559), (.str "v" 560)] 0), #[]⟩
noncomputable def o275 (P : Params) : Obj := ⟨(.type "tuple"), none, (.seq #[] 0), #[]⟩
noncomputable def o276 (P : Params) : Obj := ⟨.none, none, (.func ⟨"mul", "mul", fA (st 27), .stmts (fB (st 27)), fS (st 27), 0, [], .none, .none, .none, .none, none, .none, .none, 0⟩), #[]⟩
noncomputable def o277 (P : Params) : Obj := ⟨(.type "code"), none, (.fields #[(.str "mul" 556), (.str "mul" 557), (.str "/claim/cut.py" 558), (.int 165 0), (.int 2 0), (.int 0 0), (.int 0 0), (.int 3 0), (.ref 272), (.bool true), (.int 181 0), (.ref 273), .none, (.ref 274), (.ref 275), (.ref 276), (.int 561 0), (.int 165 0), (.str "/claim/cut.py" 562)]), #[]⟩
noncomputable def o278 (P : Params) : Obj := ⟨(.type "function"), none, (.func ⟨"mul", "mul", fA (st 27), .stmts (fB (st 27)), fS (st 27), 3, [], .none, .none, .none, (.str "gateloom.vecarith" 538), none, (.ref 277), .none, 0⟩), #[]⟩
noncomputable def o279 (P : Params) : Obj := ⟨(.type "tuple"), none, (.seq #[] 0), #[]⟩
noncomputable def o280 (P : Params) : Obj := ⟨.none, none, (.fields #[]), #[]⟩
noncomputable def o281 (P : Params) : Obj := ⟨(.type "tuple"), none, (.seq #[(.str "v" 567)] 0), #[]⟩
noncomputable def o282 (P : Params) : Obj := ⟨(.type "tuple"), none, (.seq #[] 0), #[]⟩
noncomputable def o283 (P : Params) : Obj := ⟨.none, none, (.func ⟨"neg", "neg", fA (st 28), .stmts (fB (st 28)), fS (st 28), 0, [], .none, .none, .none, .none, none, .none, .none, 0⟩), #[]⟩
noncomputable def o284 (P : Params) : Obj := ⟨(.type "code"), none, (.fields #[(.str "neg" 564), (.str "neg" 565), (.str "/claim/cut.py" 566), (.int 169 0), (.int 1 0), (.int 0 0), (.int 0 0), (.int 3 0), (.ref 279), (.bool true), (.int 181 0), (.ref 280), .none, (.ref 281), (.ref 282), (.ref 283), (.int 568 0), (.int 169 0), (.str "/claim/cut.py" 569)]), #[]⟩
noncomputable def o285 (P : Params) : Obj := ⟨(.type "function"), none, (.func ⟨"neg", "neg", fA (st 28), .stmts (fB (st 28)), fS (st 28), 3, [], .none, .none, .none, (.str "gateloom.vecarith" 538), none, (.ref 284), .none, 0⟩), #[]⟩
noncomputable def o286 (P : Params) : Obj := ⟨(.type "tuple"), none, (.seq #[] 0), #[]⟩
noncomputable def o287 (P : Params) : Obj := ⟨.none, none, (.fields #[]), #[]⟩
noncomputable def o288 (P : Params) : Obj := ⟨(.type "tuple"), none, (.seq #[(.str "m" 574), (.str "n" 575), (.str "found" 576)] 0), #[]⟩
noncomputable def o289 (P : Params) : Obj := ⟨(.type "tuple"), none, (.seq #[] 0), #[]⟩
noncomputable def o290 (P : Params) : Obj := ⟨.none, none, (.func ⟨"quotient", "quotient", fA (st 29), .stmts (fB (st 29)), fS (st 29), 0, [], .none, .none, .none, .none, none, .none, .none, 0⟩), #[]⟩
noncomputable def o291 (P : Params) : Obj := ⟨(.type "code"), none, (.fields #[(.str "quotient" 571), (.str "quotient" 572), (.str "/claim/cut.py" 573), (.int 173 0), (.int 2 0), (.int 0 0), (.int 0 0), (.int 3 0), (.ref 286), (.bool true), (.int 181 0), (.ref 287), .none, (.ref 288), (.ref 289), (.ref 290), (.int 577 0), (.int 173 0), (.str "/claim/cut.py" 578)]), #[]⟩
noncomputable def o292 (P : Params) : Obj := ⟨(.type "function"), none, (.func ⟨"quotient", "quotient", fA (st 29), .stmts (fB (st 29)), fS (st 29), 3, [], .none, .none, .none, (.str "gateloom.vecarith" 538), none, (.ref 291), .none, 0⟩), #[]⟩
noncomputable def o293 (P : Params) : Obj := ⟨(.type "tuple"), none, (.seq #[] 0), #[]⟩
noncomputable def o294 (P : Params) : Obj := ⟨.none, none, (.fields #[]), #[]⟩
noncomputable def o295 (P : Params) : Obj := ⟨(.type "tuple"), none, (.seq #[(.str "u" 583), (.str "v" 584), (.str "signed" 585), (.str "m" 586), (.str "n" 587)] 0), #[]⟩
noncomputable def o296 (P : Params) : Obj := ⟨(.type "tuple"), none, (.seq #[] 0), #[]⟩
noncomputable def o297 (P : Params) : Obj := ⟨.none, none, (.func ⟨"div", "div", fA (st 30), .stmts (fB (st 30)), fS (st 30), 0, [], .none, .none, .none, .none, none, .none, .none, 0⟩), #[]⟩
noncomputable def o298 (P : Params) : Obj := ⟨(.type "code"), none, (.fields #[(.str "div" 580), (.str "div" 581), (.str "/claim/cut.py" 582), (.int 178 0), (.int 3 0), (.int 0 0), (.int 0 0), (.int 3 0), (.ref 293), (.bool true), (.int 181 0), (.ref 294), .none, (.ref 295), (.ref 296), (.ref 297), (.int 588 0), (.int 178 0), (.str "/claim/cut.py" 589)]), #[]⟩
noncomputable def o299 (P : Params) : Obj := ⟨(.type "function"), none, (.func ⟨"div", "div", fA (st 30), .stmts (fB (st 30)), fS (st 30), 3, [], .none, .none, .none, (.str "gateloom.vecarith" 538), none, (.ref 298), .none, 0⟩), #[]⟩
noncomputable def o300 (P : Params) : Obj := ⟨(.type "tuple"), none, (.seq #[] 0), #[]⟩
noncomputable def o301 (P : Params) : Obj := ⟨.none, none, (.fields #[]), #[]⟩
noncomputable def o302 (P : Params) : Obj := ⟨(.type "tuple"), none, (.seq #[(.str "u" 594), (.str "v" 595), (.str "signed" 596), (.str "m" 597), (.str "n" 598)] 0), #[]⟩
noncomputable def o303 (P : Params) : Obj := ⟨(.type "tuple"), none, (.seq #[] 0), #[]⟩
noncomputable def o304 (P : Params) : Obj := ⟨.none, none, (.func ⟨"mod", "mod", fA (st 31), .stmts (fB (st 31)), fS (st 31), 0, [], .none, .none, .none, .none, none, .none, .none, 0⟩), #[]⟩
noncomputable def o305 (P : Params) : Obj := ⟨(.type "code"), none, (.fields #[(.str "mod" 591), (.str "mod" 592), (.str "/claim/cut.py" 593), (.int 184 0), (.int 3 0), (.int 0 0), (.int 0 0), (.int 3 0), (.ref 300), (.bool true), (.int 181 0), (.ref 301), .none, (.ref 302), (.ref 303), (.ref 304), (.int 599 0), (.int 184 0), (.str "/claim/cut.py" 600)]), #[]⟩
noncomputable def o306 (P : Params) : Obj := ⟨(.type "function"), none, (.func ⟨"mod", "mod", fA (st 31), .stmts (fB (st 31)), fS (st 31), 3, [], .none, .none, .none, (.str "gateloom.vecarith" 538), none, (.ref 305), .none, 0⟩), #[]⟩
noncomputable def o307 (P : Params) : Obj := ⟨(.type "tuple"), none, (.seq #[] 0), #[]⟩
noncomputable def o308 (P : Params) : Obj := ⟨.none, none, (.fields #[]), #[]⟩
noncomputable def o309 (P : Params) : Obj := ⟨(.type "tuple"), none, (.seq #[(.str "base" 605), (.str "exponent" 606), (.str "w" 607), (.str "full" 608), (.str "result" 609), (.str "square" 610), (.str "rest" 611)] 0), #[]⟩
noncomputable def o310 (P : Params) : Obj := ⟨(.type "tuple"), none, (.seq #[] 0), #[]⟩
noncomputable def o311 (P : Params) : Obj := ⟨.none, none, (.func ⟨"raise_whole", "raise_whole", fA (st 32), .stmts (fB (st 32)), fS (st 32), 0, [], .none, .none, .none, .none, none, .none, .none, 0⟩), #[]⟩
noncomputable def o312 (P : Params) : Obj := ⟨(.type "code"), none, (.fields #[(.str "raise_whole" 602), (.str "raise_whole" 603), (.str "/claim/cut.py" 604), (.int 190 0), (.int 3 0), (.int 0 0), (.int 0 0), (.int 3 0), (.ref 307), (.bool true), (.int 181 0), (.ref 308), .none, (.ref 309), (.ref 310), (.ref 311), (.int 612 0), (.int 190 0), (.str "/claim/cut.py" 613)]), #[]⟩
noncomputable def o313 (P : Params) : Obj := ⟨(.type "function"), none, (.func ⟨"raise_whole", "raise_whole", fA (st 32), .stmts (fB (st 32)), fS (st 32), 3, [], .none, .none, .none, (.str "gateloom.vecarith" 538), none, (.ref 312), .none, 0⟩), #[]⟩
noncomputable def o314 (P : Params) : Obj := ⟨(.type "tuple"), none, (.seq #[] 0), #[]⟩
noncomputable def o315 (P : Params) : Obj := ⟨.none, none, (.fields #[]), #[]⟩
noncomputable def o316 (P : Params) : Obj := ⟨(.type "tuple"), none, (.seq #[(.str "u" 618), (.str "v" 619), (.str "usigned" 620), (.str "vsigned" 621), (.str "w" 622), (.str "base" 623), (.str "exponent" 624)] 0), #[]⟩
noncomputable def o317 (P : Params) : Obj := ⟨(.type "tuple"), none, (.seq #[] 0), #[]⟩
noncomputable def o318 (P : Params) : Obj := ⟨.none, none, (.func ⟨"power", "power", fA (st 33), .stmts (fB (st 33)), fS (st 33), 0, [], .none, .none, .none, .none, none, .none, .none, 0⟩), #[]⟩
noncomputable def o319 (P : Params) : Obj := ⟨(.type "code"), none, (.fields #[(.str "power" 615), (.str "power" 616), (.str "/claim/cut.py" 617), (.int 201 0), (.int 4 0), (.int 0 0), (.int 0 0), (.int 3 0), (.ref 314), (.bool true), (.int 181 0), (.ref 315), .none, (.ref 316), (.ref 317), (.ref 318), (.int 625 0), (.int 201 0), (.str "/claim/cut.py" 626)]), #[]⟩
noncomputable def o320 (P : Params) : Obj := ⟨(.type "function"), none, (.func ⟨"power", "power", fA (st 33), .stmts (fB (st 33)), fS (st 33), 3, [], .none, .none, .none, (.str "gateloom.vecarith" 538), none, (.ref 319), .none, 0⟩), #[]⟩
noncomputable def o321 (P : Params) : Obj := ⟨(.type "tuple"), none, (.seq #[] 0), #[]⟩
noncomputable def o322 (P : Params) : Obj := ⟨.none, none, (.fields #[]), #[]⟩
noncomputable def o323 (P : Params) : Obj := ⟨(.type "tuple"), none, (.seq #[(.str "u" 631), (.str "n" 632), (.str "w" 633), (.str "full" 634)] 0), #[]⟩
noncomputable def o324 (P : Params) : Obj := ⟨(.type "tuple"), none, (.seq #[] 0), #[]⟩
noncomputable def o325 (P : Params) : Obj := ⟨.none, none, (.func ⟨"shift_left", "shift_left", fA (st 34), .stmts (fB (st 34)), fS (st 34), 0, [], .none, .none, .none, .none, none, .none, .none, 0⟩), #[]⟩
noncomputable def o326 (P : Params) : Obj := ⟨(.type "code"), none, (.fields #[(.str "shift_left" 628), (.str "shift_left" 629), (.str "/claim/cut.py" 630), (.int 216 0), (.int 2 0), (.int 0 0), (.int 0 0), (.int 3 0), (.ref 321), (.bool true), (.int 181 0), (.ref 322), .none, (.ref 323), (.ref 324), (.ref 325), (.int 635 0), (.int 216 0), (.str "/claim/cut.py" 636)]), #[]⟩
noncomputable def o327 (P : Params) : Obj := ⟨(.type "function"), none, (.func ⟨"shift_left", "shift_left", fA (st 34), .stmts (fB (st 34)), fS (st 34), 3, [], .none, .none, .none, (.str "gateloom.vecarith" 538), none, (.ref 326), .none, 0⟩), #[]⟩
noncomputable def o328 (P : Params) : Obj := ⟨(.type "tuple"), none, (.seq #[] 0), #[]⟩
noncomputable def o329 (P : Params) : Obj := ⟨.none, none, (.fields #[]), #[]⟩
noncomputable def o330 (P : Params) : Obj := ⟨(.type "tuple"), none, (.seq #[(.str "u" 641), (.str "n" 642), (.str "w" 643)] 0), #[]⟩
noncomputable def o331 (P : Params) : Obj := ⟨(.type "tuple"), none, (.seq #[] 0), #[]⟩
noncomputable def o332 (P : Params) : Obj := ⟨.none, none, (.func ⟨"shift_right", "shift_right", fA (st 35), .stmts (fB (st 35)), fS (st 35), 0, [], .none, .none, .none, .none, none, .none, .none, 0⟩), #[]⟩
noncomputable def o333 (P : Params) : Obj := ⟨(.type "code"), none, (.fields #[(.str "shift_right" 638), (.str "shift_right" 639), (.str "/claim/cut.py" 640), (.int 224 0), (.int 2 0), (.int 0 0), (.int 0 0), (.int 3 0), (.ref 328), (.bool true), (.int 181 0), (.ref 329), .none, (.ref 330), (.ref 331), (.ref 332), (.int 644 0), (.int 224 0), (.str "/claim/cut.py" 645)]), #[]⟩
noncomputable def o334 (P : Params) : Obj := ⟨(.type "function"), none, (.func ⟨"shift_right", "shift_right", fA (st 35), .stmts (fB (st 35)), fS (st 35), 3, [], .none, .none, .none, (.str "gateloom.vecarith" 538), none, (.ref 333), .none, 0⟩), #[]⟩
noncomputable def o335 (P : Params) : Obj := ⟨(.type "tuple"), none, (.seq #[] 0), #[]⟩
noncomputable def o336 (P : Params) : Obj := ⟨.none, none, (.fields #[]), #[]⟩
noncomputable def o337 (P : Params) : Obj := ⟨(.type "tuple"), none, (.seq #[(.str "u" 650), (.str "n" 651), (.str "signed" 652), (.str "w" 653), (.str "count" 654), (.str "fill" 655), (.str "top" 656), (.str "a" 657), (.str "b" 658)] 0), #[]⟩
noncomputable def o338 (P : Params) : Obj := ⟨(.type "tuple"), none, (.seq #[] 0), #[]⟩
noncomputable def o339 (P : Params) : Obj := ⟨.none, none, (.func ⟨"shift_arith", "shift_arith", fA (st 36), .stmts (fB (st 36)), fS (st 36), 0, [], .none, .none, .none, .none, none, .none, .none, 0⟩), #[]⟩
noncomputable def o340 (P : Params) : Obj := ⟨(.type "code"), none, (.fields #[(.str "shift_arith" 647), (.str "shift_arith" 648), (.str "/claim/cut.py" 649), (.int 231 0), (.int 3 0), (.int 0 0), (.int 0 0), (.int 3 0), (.ref 335), (.bool true), (.int 181 0), (.ref 336), .none, (.ref 337), (.ref 338), (.ref 339), (.int 659 0), (.int 231 0), (.str "/claim/cut.py" 660)]), #[]⟩
noncomputable def o341 (P : Params) : Obj := ⟨(.type "function"), none, (.func ⟨"shift_arith", "shift_arith", fA (st 36), .stmts (fB (st 36)), fS (st 36), 3, [], .none, .none, .none, (.str "gateloom.vecarith" 538), none, (.ref 340), .none, 0⟩), #[]⟩
noncomputable def o342 (P : Params) : Obj := ⟨(.type "tuple"), none, (.seq #[] 0), #[]⟩
noncomputable def o343 (P : Params) : Obj := ⟨.none, none, (.fields #[]), #[]⟩
noncomputable def o344 (P : Params) : Obj := ⟨(.type "tuple"), none, (.seq #[(.str "u" 665), (.str "v" 666), (.str "signed" 667), (.str "m" 668), (.str "n" 669)] 0), #[]⟩
noncomputable def o345 (P : Params) : Obj := ⟨(.type "tuple"), none, (.seq #[] 0), #[]⟩
noncomputable def o346 (P : Params) : Obj := ⟨.none, none, (.func ⟨"ordered", "ordered", fA (st 37), .stmts (fB (st 37)), fS (st 37), 0, [], .none, .none, .none, .none, none, .none, .none, 0⟩), #[]⟩
noncomputable def o347 (P : Params) : Obj := ⟨(.type "code"), none, (.fields #[(.str "ordered" 662), (.str "ordered" 663), (.str "/claim/cut.py" 664), (.int 241 0), (.int 3 0), (.int 0 0), (.int 0 0), (.int 3 0), (.ref 342), (.bool true), (.int 181 0), (.ref 343), .none, (.ref 344), (.ref 345), (.ref 346), (.int 670 0), (.int 241 0), (.str "/claim/cut.py" 671)]), #[]⟩
noncomputable def o348 (P : Params) : Obj := ⟨(.type "function"), none, (.func ⟨"ordered", "ordered", fA (st 37), .stmts (fB (st 37)), fS (st 37), 3, [], .none, .none, .none, (.str "gateloom.vecarith" 538), none, (.ref 347), .none, 0⟩), #[]⟩
noncomputable def o349 (P : Params) : Obj := ⟨(.type "tuple"), none, (.seq #[] 0), #[]⟩
noncomputable def o350 (P : Params) : Obj := ⟨.none, none, (.fields #[]), #[]⟩
noncomputable def o351 (P : Params) : Obj := ⟨(.type "tuple"), none, (.seq #[(.str "u" 676), (.str "v" 677), (.str "signed" 678), (.str "sign" 679)] 0), #[]⟩
noncomputable def o352 (P : Params) : Obj := ⟨(.type "tuple"), none, (.seq #[] 0), #[]⟩
noncomputable def o353 (P : Params) : Obj := ⟨.none, none, (.func ⟨"less", "less", fA (st 38), .stmts (fB (st 38)), fS (st 38), 0, [], .none, .none, .none, .none, none, .none, .none, 0⟩), #[]⟩
noncomputable def o354 (P : Params) : Obj := ⟨(.type "code"), none, (.fields #[(.str "less" 673), (.str "less" 674), (.str "/claim/cut.py" 675), (.int 249 0), (.int 3 0), (.int 0 0), (.int 0 0), (.int 3 0), (.ref 349), (.bool true), (.int 181 0), (.ref 350), .none, (.ref 351), (.ref 352), (.ref 353), (.int 680 0), (.int 249 0), (.str "/claim/cut.py" 681)]), #[]⟩
noncomputable def o355 (P : Params) : Obj := ⟨(.type "function"), none, (.func ⟨"less", "less", fA (st 38), .stmts (fB (st 38)), fS (st 38), 3, [], .none, .none, .none, (.str "gateloom.vecarith" 538), none, (.ref 354), .none, 0⟩), #[]⟩
noncomputable def o356 (P : Params) : Obj := ⟨(.type "tuple"), none, (.seq #[] 0), #[]⟩
noncomputable def o357 (P : Params) : Obj := ⟨.none, none, (.fields #[]), #[]⟩
noncomputable def o358 (P : Params) : Obj := ⟨(.type "tuple"), none, (.seq #[(.str "u" 686), (.str "v" 687), (.str "signed" 688), (.str "sign" 689)] 0), #[]⟩
noncomputable def o359 (P : Params) : Obj := ⟨(.type "tuple"), none, (.seq #[] 0), #[]⟩
noncomputable def o360 (P : Params) : Obj := ⟨.none, none, (.func ⟨"less_equal", "less_equal", fA (st 39), .stmts (fB (st 39)), fS (st 39), 0, [], .none, .none, .none, .none, none, .none, .none, 0⟩), #[]⟩
noncomputable def o361 (P : Params) : Obj := ⟨(.type "code"), none, (.fields #[(.str "less_equal" 683), (.str "less_equal" 684), (.str "/claim/cut.py" 685), (.int 254 0), (.int 3 0), (.int 0 0), (.int 0 0), (.int 3 0), (.ref 356), (.bool true), (.int 181 0), (.ref 357), .none, (.ref 358), (.ref 359), (.ref 360), (.int 690 0), (.int 254 0), (.str "/claim/cut.py" 691)]), #[]⟩
noncomputable def o362 (P : Params) : Obj := ⟨(.type "function"), none, (.func ⟨"less_equal", "less_equal", fA (st 39), .stmts (fB (st 39)), fS (st 39), 3, [], .none, .none, .none, (.str "gateloom.vecarith" 538), none, (.ref 361), .none, 0⟩), #[]⟩
noncomputable def o363 (P : Params) : Obj := ⟨(.type "tuple"), none, (.seq #[] 0), #[]⟩
noncomputable def o364 (P : Params) : Obj := ⟨.none, none, (.fields #[]), #[]⟩
noncomputable def o365 (P : Params) : Obj := ⟨(.type "tuple"), none, (.seq #[(.str "u" 696), (.str "v" 697), (.str "signed" 698)] 0), #[]⟩
noncomputable def o366 (P : Params) : Obj := ⟨(.type "tuple"), none, (.seq #[] 0), #[]⟩
noncomputable def o367 (P : Params) : Obj := ⟨.none, none, (.func ⟨"greater", "greater", fA (st 40), .stmts (fB (st 40)), fS (st 40), 0, [], .none, .none, .none, .none, none, .none, .none, 0⟩), #[]⟩
noncomputable def o368 (P : Params) : Obj := ⟨(.type "code"), none, (.fields #[(.str "greater" 693), (.str "greater" 694), (.str "/claim/cut.py" 695), (.int 259 0), (.int 3 0), (.int 0 0), (.int 0 0), (.int 3 0), (.ref 363), (.bool true), (.int 181 0), (.ref 364), .none, (.ref 365), (.ref 366), (.ref 367), (.int 699 0), (.int 259 0), (.str "/claim/cut.py" 700)]), #[]⟩
noncomputable def o369 (P : Params) : Obj := ⟨(.type "function"), none, (.func ⟨"greater", "greater", fA (st 40), .stmts (fB (st 40)), fS (st 40), 3, [], .none, .none, .none, (.str "gateloom.vecarith" 538), none, (.ref 368), .none, 0⟩), #[]⟩
noncomputable def o370 (P : Params) : Obj := ⟨(.type "tuple"), none, (.seq #[] 0), #[]⟩
noncomputable def o371 (P : Params) : Obj := ⟨.none, none, (.fields #[]), #[]⟩
noncomputable def o372 (P : Params) : Obj := ⟨(.type "tuple"), none, (.seq #[(.str "u" 705), (.str "v" 706), (.str "signed" 707)] 0), #[]⟩
noncomputable def o373 (P : Params) : Obj := ⟨(.type "tuple"), none, (.seq #[] 0), #[]⟩
noncomputable def o374 (P : Params) : Obj := ⟨.none, none, (.func ⟨"greater_equal", "greater_equal", fA (st 41), .stmts (fB (st 41)), fS (st 41), 0, [], .none, .none, .none, .none, none, .none, .none, 0⟩), #[]⟩
noncomputable def o375 (P : Params) : Obj := ⟨(.type "code"), none, (.fields #[(.str "greater_equal" 702), (.str "greater_equal" 703), (.str "/claim/cut.py" 704), (.int 261 0), (.int 3 0), (.int 0 0), (.int 0 0), (.int 3 0), (.ref 370), (.bool true), (.int 181 0), (.ref 371), .none, (.ref 372), (.ref 373), (.ref 374), (.int 708 0), (.int 261 0), (.str "/claim/cut.py" 709)]), #[]⟩
noncomputable def o376 (P : Params) : Obj := ⟨(.type "function"), none, (.func ⟨"greater_equal", "greater_equal", fA (st 41), .stmts (fB (st 41)), fS (st 41), 3, [], .none, .none, .none, (.str "gateloom.vecarith" 538), none, (.ref 375), .none, 0⟩), #[]⟩
noncomputable def o377 (P : Params) : Obj := ⟨(.type "tuple"), none, (.seq #[] 0), #[]⟩
noncomputable def o378 (P : Params) : Obj := ⟨.none, none, (.fields #[]), #[]⟩
noncomputable def o379 (P : Params) : Obj := ⟨(.type "tuple"), none, (.seq #[(.str "c" 716)] 0), #[]⟩
noncomputable def o380 (P : Params) : Obj := ⟨(.type "tuple"), none, (.seq #[] 0), #[]⟩
noncomputable def o381 (P : Params) : Obj := ⟨.none, none, (.func ⟨"one_bit", "one_bit", fA (st 43), .stmts (fB (st 43)), fS (st 43), 0, [], .none, .none, .none, .none, none, .none, .none, 0⟩), #[]⟩
noncomputable def o382 (P : Params) : Obj := ⟨(.type "code"), none, (.fields #[(.str "one_bit" 713), (.str "one_bit" 714), (.str "/claim/cut.py" 715), (.int 264 0), (.int 1 0), (.int 0 0), (.int 0 0), (.int 3 0), (.ref 377), (.bool true), (.int 181 0), (.ref 378), .none, (.ref 379), (.ref 380), (.ref 381), (.int 717 0), (.int 264 0), (.str "/claim/cut.py" 718)]), #[]⟩
noncomputable def o383 (P : Params) : Obj := ⟨(.type "function"), none, (.func ⟨"one_bit", "one_bit", fA (st 43), .stmts (fB (st 43)), fS (st 43), 3, [], .none, .none, .none, (.str "gateloom.vecops" 711), none, (.ref 382), .none, 0⟩), #[]⟩
noncomputable def o384 (P : Params) : Obj := ⟨(.type "tuple"), none, (.seq #[] 0), #[]⟩
noncomputable def o385 (P : Params) : Obj := ⟨.none, none, (.fields #[]), #[]⟩
noncomputable def o386 (P : Params) : Obj := ⟨(.type "tuple"), none, (.seq #[(.str "v" 723), (.str "w" 724), (.str "a" 725), (.str "b" 726)] 0), #[]⟩
noncomputable def o387 (P : Params) : Obj := ⟨(.type "tuple"), none, (.seq #[] 0), #[]⟩
noncomputable def o388 (P : Params) : Obj := ⟨.none, none, (.func ⟨"bit_not", "bit_not", fA (st 44), .stmts (fB (st 44)), fS (st 44), 0, [], .none, .none, .none, .none, none, .none, .none, 0⟩), #[]⟩
noncomputable def o389 (P : Params) : Obj := ⟨(.type "code"), none, (.fields #[(.str "bit_not" 720), (.str "bit_not" 721), (.str "/claim/cut.py" 722), (.int 266 0), (.int 1 0), (.int 0 0), (.int 0 0), (.int 3 0), (.ref 384), (.bool true), (.int 181 0), (.ref 385), .none, (.ref 386), (.ref 387), (.ref 388), (.int 727 0), (.int 266 0), (.str "/claim/cut.py" 728)]), #[]⟩
noncomputable def o390 (P : Params) : Obj := ⟨(.type "function"), none, (.func ⟨"bit_not", "bit_not", fA (st 44), .stmts (fB (st 44)), fS (st 44), 3, [], .none, .none, .none, (.str "gateloom.vecops" 711), none, (.ref 389), .none, 0⟩), #[]⟩
noncomputable def o391 (P : Params) : Obj := ⟨(.type "tuple"), none, (.seq #[] 0), #[]⟩
noncomputable def o392 (P : Params) : Obj := ⟨.none, none, (.fields #[]), #[]⟩
noncomputable def o393 (P : Params) : Obj := ⟨(.type "tuple"), none, (.seq #[(.str "u" 733), (.str "v" 734), (.str "w" 735), (.str "a" 736), (.str "b" 737), (.str "c" 738), (.str "d" 739), (.str "both" 740)] 0), #[]⟩
noncomputable def o394 (P : Params) : Obj := ⟨(.type "tuple"), none, (.seq #[] 0), #[]⟩
noncomputable def o395 (P : Params) : Obj := ⟨.none, none, (.func ⟨"bit_and", "bit_and", fA (st 45), .stmts (fB (st 45)), fS (st 45), 0, [], .none, .none, .none, .none, none, .none, .none, 0⟩), #[]⟩
noncomputable def o396 (P : Params) : Obj := ⟨(.type "code"), none, (.fields #[(.str "bit_and" 730), (.str "bit_and" 731), (.str "/claim/cut.py" 732), (.int 269 0), (.int 2 0), (.int 0 0), (.int 0 0), (.int 3 0), (.ref 391), (.bool true), (.int 181 0), (.ref 392), .none, (.ref 393), (.ref 394), (.ref 395), (.int 741 0), (.int 269 0), (.str "/claim/cut.py" 742)]), #[]⟩
noncomputable def o397 (P : Params) : Obj := ⟨(.type "function"), none, (.func ⟨"bit_and", "bit_and", fA (st 45), .stmts (fB (st 45)), fS (st 45), 3, [], .none, .none, .none, (.str "gateloom.vecops" 711), none, (.ref 396), .none, 0⟩), #[]⟩
noncomputable def o398 (P : Params) : Obj := ⟨(.type "tuple"), none, (.seq #[] 0), #[]⟩
noncomputable def o399 (P : Params) : Obj := ⟨.none, none, (.fields #[]), #[]⟩
noncomputable def o400 (P : Params) : Obj := ⟨(.type "tuple"), none, (.seq #[(.str "u" 747), (.str "v" 748), (.str "w" 749), (.str "a" 750), (.str "b" 751), (.str "c" 752), (.str "d" 753), (.str "either" 754), (.str "sure" 755)] 0), #[]⟩
noncomputable def o401 (P : Params) : Obj := ⟨(.type "tuple"), none, (.seq #[] 0), #[]⟩
noncomputable def o402 (P : Params) : Obj := ⟨.none, none, (.func ⟨"bit_or", "bit_or", fA (st 46), .stmts (fB (st 46)), fS (st 46), 0, [], .none, .none, .none, .none, none, .none, .none, 0⟩), #[]⟩
noncomputable def o403 (P : Params) : Obj := ⟨(.type "code"), none, (.fields #[(.str "bit_or" 744), (.str "bit_or" 745), (.str "/claim/cut.py" 746), (.int 274 0), (.int 2 0), (.int 0 0), (.int 0 0), (.int 3 0), (.ref 398), (.bool true), (.int 181 0), (.ref 399), .none, (.ref 400), (.ref 401), (.ref 402), (.int 756 0), (.int 274 0), (.str "/claim/cut.py" 757)]), #[]⟩
noncomputable def o404 (P : Params) : Obj := ⟨(.type "function"), none, (.func ⟨"bit_or", "bit_or", fA (st 46), .stmts (fB (st 46)), fS (st 46), 3, [], .none, .none, .none, (.str "gateloom.vecops" 711), none, (.ref 403), .none, 0⟩), #[]⟩
noncomputable def o405 (P : Params) : Obj := ⟨(.type "tuple"), none, (.seq #[] 0), #[]⟩
noncomputable def o406 (P : Params) : Obj := ⟨.none, none, (.fields #[]), #[]⟩
noncomputable def o407 (P : Params) : Obj := ⟨(.type "tuple"), none, (.seq #[(.str "u" 762), (.str "v" 763), (.str "b" 764)] 0), #[]⟩
noncomputable def o408 (P : Params) : Obj := ⟨(.type "tuple"), none, (.seq #[] 0), #[]⟩
noncomputable def o409 (P : Params) : Obj := ⟨.none, none, (.func ⟨"bit_xor", "bit_xor", fA (st 47), .stmts (fB (st 47)), fS (st 47), 0, [], .none, .none, .none, .none, none, .none, .none, 0⟩), #[]⟩
noncomputable def o410 (P : Params) : Obj := ⟨(.type "code"), none, (.fields #[(.str "bit_xor" 759), (.str "bit_xor" 760), (.str "/claim/cut.py" 761), (.int 280 0), (.int 2 0), (.int 0 0), (.int 0 0), (.int 3 0), (.ref 405), (.bool true), (.int 181 0), (.ref 406), .none, (.ref 407), (.ref 408), (.ref 409), (.int 765 0), (.int 280 0), (.str "/claim/cut.py" 766)]), #[]⟩
noncomputable def o411 (P : Params) : Obj := ⟨(.type "function"), none, (.func ⟨"bit_xor", "bit_xor", fA (st 47), .stmts (fB (st 47)), fS (st 47), 3, [], .none, .none, .none, (.str "gateloom.vecops" 711), none, (.ref 410), .none, 0⟩), #[]⟩
noncomputable def o412 (P : Params) : Obj := ⟨(.type "tuple"), none, (.seq #[] 0), #[]⟩
noncomputable def o413 (P : Params) : Obj := ⟨.none, none, (.fields #[]), #[]⟩
noncomputable def o414 (P : Params) : Obj := ⟨(.type "tuple"), none, (.seq #[(.str "u" 771), (.str "v" 772)] 0), #[]⟩
noncomputable def o415 (P : Params) : Obj := ⟨(.type "tuple"), none, (.seq #[] 0), #[]⟩
noncomputable def o416 (P : Params) : Obj := ⟨.none, none, (.func ⟨"bit_xnor", "bit_xnor", fA (st 48), .stmts (fB (st 48)), fS (st 48), 0, [], .none, .none, .none, .none, none, .none, .none, 0⟩), #[]⟩
noncomputable def o417 (P : Params) : Obj := ⟨(.type "code"), none, (.fields #[(.str "bit_xnor" 768), (.str "bit_xnor" 769), (.str "/claim/cut.py" 770), (.int 283 0), (.int 2 0), (.int 0 0), (.int 0 0), (.int 3 0), (.ref 412), (.bool true), (.int 181 0), (.ref 413), .none, (.ref 414), (.ref 415), (.ref 416), (.int 773 0), (.int 283 0), (.str "/claim/cut.py" 774)]), #[]⟩
noncomputable def o418 (P : Params) : Obj := ⟨(.type "function"), none, (.func ⟨"bit_xnor", "bit_xnor", fA (st 48), .stmts (fB (st 48)), fS (st 48), 3, [], .none, .none, .none, (.str "gateloom.vecops" 711), none, (.ref 417), .none, 0⟩), #[]⟩
noncomputable def o419 (P : Params) : Obj := ⟨(.type "tuple"), none, (.seq #[] 0), #[]⟩
noncomputable def o420 (P : Params) : Obj := ⟨.none, none, (.fields #[]), #[]⟩
noncomputable def o421 (P : Params) : Obj := ⟨(.type "tuple"), none, (.seq #[(.str "v" 779), (.str "w" 780), (.str "a" 781), (.str "b" 782)] 0), #[]⟩
noncomputable def o422 (P : Params) : Obj := ⟨(.type "tuple"), none, (.seq #[] 0), #[]⟩
noncomputable def o423 (P : Params) : Obj := ⟨.none, none, (.func ⟨"reduce_and", "reduce_and", fA (st 49), .stmts (fB (st 49)), fS (st 49), 0, [], .none, .none, .none, .none, none, .none, .none, 0⟩), #[]⟩
noncomputable def o424 (P : Params) : Obj := ⟨(.type "code"), none, (.fields #[(.str "reduce_and" 776), (.str "reduce_and" 777), (.str "/claim/cut.py" 778), (.int 285 0), (.int 1 0), (.int 0 0), (.int 0 0), (.int 3 0), (.ref 419), (.bool true), (.int 181 0), (.ref 420), .none, (.ref 421), (.ref 422), (.ref 423), (.int 783 0), (.int 285 0), (.str "/claim/cut.py" 784)]), #[]⟩
noncomputable def o425 (P : Params) : Obj := ⟨(.type "function"), none, (.func ⟨"reduce_and", "reduce_and", fA (st 49), .stmts (fB (st 49)), fS (st 49), 3, [], .none, .none, .none, (.str "gateloom.vecops" 711), none, (.ref 424), .none, 0⟩), #[]⟩
noncomputable def o426 (P : Params) : Obj := ⟨(.type "tuple"), none, (.seq #[] 0), #[]⟩
noncomputable def o427 (P : Params) : Obj := ⟨.none, none, (.fields #[]), #[]⟩
noncomputable def o428 (P : Params) : Obj := ⟨(.type "tuple"), none, (.seq #[(.str "v" 789)] 0), #[]⟩
noncomputable def o429 (P : Params) : Obj := ⟨(.type "tuple"), none, (.seq #[] 0), #[]⟩
noncomputable def o430 (P : Params) : Obj := ⟨.none, none, (.func ⟨"reduce_nand", "reduce_nand", fA (st 50), .stmts (fB (st 50)), fS (st 50), 0, [], .none, .none, .none, .none, none, .none, .none, 0⟩), #[]⟩
noncomputable def o431 (P : Params) : Obj := ⟨(.type "code"), none, (.fields #[(.str "reduce_nand" 786), (.str "reduce_nand" 787), (.str "/claim/cut.py" 788), (.int 290 0), (.int 1 0), (.int 0 0), (.int 0 0), (.int 3 0), (.ref 426), (.bool true), (.int 181 0), (.ref 427), .none, (.ref 428), (.ref 429), (.ref 430), (.int 790 0), (.int 290 0), (.str "/claim/cut.py" 791)]), #[]⟩
noncomputable def o432 (P : Params) : Obj := ⟨(.type "function"), none, (.func ⟨"reduce_nand", "reduce_nand", fA (st 50), .stmts (fB (st 50)), fS (st 50), 3, [], .none, .none, .none, (.str "gateloom.vecops" 711), none, (.ref 431), .none, 0⟩), #[]⟩
noncomputable def o433 (P : Params) : Obj := ⟨(.type "tuple"), none, (.seq #[] 0), #[]⟩
noncomputable def o434 (P : Params) : Obj := ⟨.none, none, (.fields #[]), #[]⟩
noncomputable def o435 (P : Params) : Obj := ⟨(.type "tuple"), none, (.seq #[(.str "v" 796)] 0), #[]⟩
noncomputable def o436 (P : Params) : Obj := ⟨(.type "tuple"), none, (.seq #[] 0), #[]⟩
noncomputable def o437 (P : Params) : Obj := ⟨.none, none, (.func ⟨"reduce_or", "reduce_or", fA (st 51), .stmts (fB (st 51)), fS (st 51), 0, [], .none, .none, .none, .none, none, .none, .none, 0⟩), #[]⟩
noncomputable def o438 (P : Params) : Obj := ⟨(.type "code"), none, (.fields #[(.str "reduce_or" 793), (.str "reduce_or" 794), (.str "/claim/cut.py" 795), (.int 292 0), (.int 1 0), (.int 0 0), (.int 0 0), (.int 3 0), (.ref 433), (.bool true), (.int 181 0), (.ref 434), .none, (.ref 435), (.ref 436), (.ref 437), (.int 797 0), (.int 292 0), (.str "/claim/cut.py" 798)]), #[]⟩
noncomputable def o439 (P : Params) : Obj := ⟨(.type "function"), none, (.func ⟨"reduce_or", "reduce_or", fA (st 51), .stmts (fB (st 51)), fS (st 51), 3, [], .none, .none, .none, (.str "gateloom.vecops" 711), none, (.ref 438), .none, 0⟩), #[]⟩
noncomputable def o440 (P : Params) : Obj := ⟨(.type "tuple"), none, (.seq #[] 0), #[]⟩
noncomputable def o441 (P : Params) : Obj := ⟨.none, none, (.fields #[]), #[]⟩
noncomputable def o442 (P : Params) : Obj := ⟨(.type "tuple"), none, (.seq #[(.str "v" 803)] 0), #[]⟩
noncomputable def o443 (P : Params) : Obj := ⟨(.type "tuple"), none, (.seq #[] 0), #[]⟩
noncomputable def o444 (P : Params) : Obj := ⟨.none, none, (.func ⟨"reduce_nor", "reduce_nor", fA (st 52), .stmts (fB (st 52)), fS (st 52), 0, [], .none, .none, .none, .none, none, .none, .none, 0⟩), #[]⟩
noncomputable def o445 (P : Params) : Obj := ⟨(.type "code"), none, (.fields #[(.str "reduce_nor" 800), (.str "reduce_nor" 801), (.str "/claim/cut.py" 802), (.int 294 0), (.int 1 0), (.int 0 0), (.int 0 0), (.int 3 0), (.ref 440), (.bool true), (.int 181 0), (.ref 441), .none, (.ref 442), (.ref 443), (.ref 444), (.int 804 0), (.int 294 0), (.str "/claim/cut.py" 805)]), #[]⟩
noncomputable def o446 (P : Params) : Obj := ⟨(.type "function"), none, (.func ⟨"reduce_nor", "reduce_nor", fA (st 52), .stmts (fB (st 52)), fS (st 52), 3, [], .none, .none, .none, (.str "gateloom.vecops" 711), none, (.ref 445), .none, 0⟩), #[]⟩
noncomputable def o447 (P : Params) : Obj := ⟨(.type "tuple"), none, (.seq #[] 0), #[]⟩
noncomputable def o448 (P : Params) : Obj := ⟨.none, none, (.fields #[]), #[]⟩
noncomputable def o449 (P : Params) : Obj := ⟨(.type "tuple"), none, (.seq #[(.str "v" 810), (.str "parity" 811), (.str "rest" 812)] 0), #[]⟩
noncomputable def o450 (P : Params) : Obj := ⟨(.type "tuple"), none, (.seq #[] 0), #[]⟩
noncomputable def o451 (P : Params) : Obj := ⟨.none, none, (.func ⟨"reduce_xor", "reduce_xor", fA (st 53), .stmts (fB (st 53)), fS (st 53), 0, [], .none, .none, .none, .none, none, .none, .none, 0⟩), #[]⟩
noncomputable def o452 (P : Params) : Obj := ⟨(.type "code"), none, (.fields #[(.str "reduce_xor" 807), (.str "reduce_xor" 808), (.str "/claim/cut.py" 809), (.int 296 0), (.int 1 0), (.int 0 0), (.int 0 0), (.int 3 0), (.ref 447), (.bool true), (.int 181 0), (.ref 448), .none, (.ref 449), (.ref 450), (.ref 451), (.int 813 0), (.int 296 0), (.str "/claim/cut.py" 814)]), #[]⟩
noncomputable def o453 (P : Params) : Obj := ⟨(.type "function"), none, (.func ⟨"reduce_xor", "reduce_xor", fA (st 53), .stmts (fB (st 53)), fS (st 53), 3, [], .none, .none, .none, (.str "gateloom.vecops" 711), none, (.ref 452), .none, 0⟩), #[]⟩
noncomputable def o454 (P : Params) : Obj := ⟨(.type "tuple"), none, (.seq #[] 0), #[]⟩
noncomputable def o455 (P : Params) : Obj := ⟨.none, none, (.fields #[]), #[]⟩
noncomputable def o456 (P : Params) : Obj := ⟨(.type "tuple"), none, (.seq #[(.str "v" 819)] 0), #[]⟩
noncomputable def o457 (P : Params) : Obj := ⟨(.type "tuple"), none, (.seq #[] 0), #[]⟩
noncomputable def o458 (P : Params) : Obj := ⟨.none, none, (.func ⟨"reduce_xnor", "reduce_xnor", fA (st 54), .stmts (fB (st 54)), fS (st 54), 0, [], .none, .none, .none, .none, none, .none, .none, 0⟩), #[]⟩
noncomputable def o459 (P : Params) : Obj := ⟨(.type "code"), none, (.fields #[(.str "reduce_xnor" 816), (.str "reduce_xnor" 817), (.str "/claim/cut.py" 818), (.int 305 0), (.int 1 0), (.int 0 0), (.int 0 0), (.int 3 0), (.ref 454), (.bool true), (.int 181 0), (.ref 455), .none, (.ref 456), (.ref 457), (.ref 458), (.int 820 0), (.int 305 0), (.str "/claim/cut.py" 821)]), #[]⟩
noncomputable def o460 (P : Params) : Obj := ⟨(.type "function"), none, (.func ⟨"reduce_xnor", "reduce_xnor", fA (st 54), .stmts (fB (st 54)), fS (st 54), 3, [], .none, .none, .none, (.str "gateloom.vecops" 711), none, (.ref 459), .none, 0⟩), #[]⟩
noncomputable def o461 (P : Params) : Obj := ⟨(.type "tuple"), none, (.seq #[] 0), #[]⟩
noncomputable def o462 (P : Params) : Obj := ⟨.none, none, (.fields #[]), #[]⟩
noncomputable def o463 (P : Params) : Obj := ⟨(.type "tuple"), none, (.seq #[(.str "v" 826)] 0), #[]⟩
noncomputable def o464 (P : Params) : Obj := ⟨(.type "tuple"), none, (.seq #[] 0), #[]⟩
noncomputable def o465 (P : Params) : Obj := ⟨.none, none, (.func ⟨"logic_not", "logic_not", fA (st 55), .stmts (fB (st 55)), fS (st 55), 0, [], .none, .none, .none, .none, none, .none, .none, 0⟩), #[]⟩
noncomputable def o466 (P : Params) : Obj := ⟨(.type "code"), none, (.fields #[(.str "logic_not" 823), (.str "logic_not" 824), (.str "/claim/cut.py" 825), (.int 307 0), (.int 1 0), (.int 0 0), (.int 0 0), (.int 3 0), (.ref 461), (.bool true), (.int 181 0), (.ref 462), .none, (.ref 463), (.ref 464), (.ref 465), (.int 827 0), (.int 307 0), (.str "/claim/cut.py" 828)]), #[]⟩
noncomputable def o467 (P : Params) : Obj := ⟨(.type "function"), none, (.func ⟨"logic_not", "logic_not", fA (st 55), .stmts (fB (st 55)), fS (st 55), 3, [], .none, .none, .none, (.str "gateloom.vecops" 711), none, (.ref 466), .none, 0⟩), #[]⟩
noncomputable def o468 (P : Params) : Obj := ⟨(.type "tuple"), none, (.seq #[] 0), #[]⟩
noncomputable def o469 (P : Params) : Obj := ⟨.none, none, (.fields #[]), #[]⟩
noncomputable def o470 (P : Params) : Obj := ⟨(.type "tuple"), none, (.seq #[(.str "u" 833), (.str "v" 834)] 0), #[]⟩
noncomputable def o471 (P : Params) : Obj := ⟨(.type "tuple"), none, (.seq #[] 0), #[]⟩
noncomputable def o472 (P : Params) : Obj := ⟨.none, none, (.func ⟨"logic_and", "logic_and", fA (st 56), .stmts (fB (st 56)), fS (st 56), 0, [], .none, .none, .none, .none, none, .none, .none, 0⟩), #[]⟩
noncomputable def o473 (P : Params) : Obj := ⟨(.type "code"), none, (.fields #[(.str "logic_and" 830), (.str "logic_and" 831), (.str "/claim/cut.py" 832), (.int 309 0), (.int 2 0), (.int 0 0), (.int 0 0), (.int 3 0), (.ref 468), (.bool true), (.int 181 0), (.ref 469), .none, (.ref 470), (.ref 471), (.ref 472), (.int 835 0), (.int 309 0), (.str "/claim/cut.py" 836)]), #[]⟩
noncomputable def o474 (P : Params) : Obj := ⟨(.type "function"), none, (.func ⟨"logic_and", "logic_and", fA (st 56), .stmts (fB (st 56)), fS (st 56), 3, [], .none, .none, .none, (.str "gateloom.vecops" 711), none, (.ref 473), .none, 0⟩), #[]⟩
noncomputable def o475 (P : Params) : Obj := ⟨(.type "tuple"), none, (.seq #[] 0), #[]⟩
noncomputable def o476 (P : Params) : Obj := ⟨.none, none, (.fields #[]), #[]⟩
noncomputable def o477 (P : Params) : Obj := ⟨(.type "tuple"), none, (.seq #[(.str "u" 841), (.str "v" 842)] 0), #[]⟩
noncomputable def o478 (P : Params) : Obj := ⟨(.type "tuple"), none, (.seq #[] 0), #[]⟩
noncomputable def o479 (P : Params) : Obj := ⟨.none, none, (.func ⟨"logic_or", "logic_or", fA (st 57), .stmts (fB (st 57)), fS (st 57), 0, [], .none, .none, .none, .none, none, .none, .none, 0⟩), #[]⟩
noncomputable def o480 (P : Params) : Obj := ⟨(.type "code"), none, (.fields #[(.str "logic_or" 838), (.str "logic_or" 839), (.str "/claim/cut.py" 840), (.int 311 0), (.int 2 0), (.int 0 0), (.int 0 0), (.int 3 0), (.ref 475), (.bool true), (.int 181 0), (.ref 476), .none, (.ref 477), (.ref 478), (.ref 479), (.int 843 0), (.int 311 0), (.str "/claim/cut.py" 844)]), #[]⟩
noncomputable def o481 (P : Params) : Obj := ⟨(.type "function"), none, (.func ⟨"logic_or", "logic_or", fA (st 57), .stmts (fB (st 57)), fS (st 57), 3, [], .none, .none, .none, (.str "gateloom.vecops" 711), none, (.ref 480), .none, 0⟩), #[]⟩
noncomputable def o482 (P : Params) : Obj := ⟨(.type "tuple"), none, (.seq #[] 0), #[]⟩
noncomputable def o483 (P : Params) : Obj := ⟨.none, none, (.fields #[]), #[]⟩
noncomputable def o484 (P : Params) : Obj := ⟨(.type "tuple"), none, (.seq #[(.str "u" 849), (.str "v" 850), (.str "unknown" 851)] 0), #[]⟩
noncomputable def o485 (P : Params) : Obj := ⟨(.type "tuple"), none, (.seq #[] 0), #[]⟩
noncomputable def o486 (P : Params) : Obj := ⟨.none, none, (.func ⟨"equal", "equal", fA (st 58), .stmts (fB (st 58)), fS (st 58), 0, [], .none, .none, .none, .none, none, .none, .none, 0⟩), #[]⟩
noncomputable def o487 (P : Params) : Obj := ⟨(.type "code"), none, (.fields #[(.str "equal" 846), (.str "equal" 847), (.str "/claim/cut.py" 848), (.int 313 0), (.int 2 0), (.int 0 0), (.int 0 0), (.int 3 0), (.ref 482), (.bool true), (.int 181 0), (.ref 483), .none, (.ref 484), (.ref 485), (.ref 486), (.int 852 0), (.int 313 0), (.str "/claim/cut.py" 853)]), #[]⟩
noncomputable def o488 (P : Params) : Obj := ⟨(.type "function"), none, (.func ⟨"equal", "equal", fA (st 58), .stmts (fB (st 58)), fS (st 58), 3, [], .none, .none, .none, (.str "gateloom.vecops" 711), none, (.ref 487), .none, 0⟩), #[]⟩
noncomputable def o489 (P : Params) : Obj := ⟨(.type "tuple"), none, (.seq #[] 0), #[]⟩
noncomputable def o490 (P : Params) : Obj := ⟨.none, none, (.fields #[]), #[]⟩
noncomputable def o491 (P : Params) : Obj := ⟨(.type "tuple"), none, (.seq #[(.str "u" 858), (.str "v" 859)] 0), #[]⟩
noncomputable def o492 (P : Params) : Obj := ⟨(.type "tuple"), none, (.seq #[] 0), #[]⟩
noncomputable def o493 (P : Params) : Obj := ⟨.none, none, (.func ⟨"not_equal", "not_equal", fA (st 59), .stmts (fB (st 59)), fS (st 59), 0, [], .none, .none, .none, .none, none, .none, .none, 0⟩), #[]⟩
noncomputable def o494 (P : Params) : Obj := ⟨(.type "code"), none, (.fields #[(.str "not_equal" 855), (.str "not_equal" 856), (.str "/claim/cut.py" 857), (.int 318 0), (.int 2 0), (.int 0 0), (.int 0 0), (.int 3 0), (.ref 489), (.bool true), (.int 181 0), (.ref 490), .none, (.ref 491), (.ref 492), (.ref 493), (.int 860 0), (.int 318 0), (.str "/claim/cut.py" 861)]), #[]⟩
noncomputable def o495 (P : Params) : Obj := ⟨(.type "function"), none, (.func ⟨"not_equal", "not_equal", fA (st 59), .stmts (fB (st 59)), fS (st 59), 3, [], .none, .none, .none, (.str "gateloom.vecops" 711), none, (.ref 494), .none, 0⟩), #[]⟩
noncomputable def o496 (P : Params) : Obj := ⟨(.type "tuple"), none, (.seq #[] 0), #[]⟩
noncomputable def o497 (P : Params) : Obj := ⟨.none, none, (.fields #[]), #[]⟩
noncomputable def o498 (P : Params) : Obj := ⟨(.type "tuple"), none, (.seq #[(.str "u" 866), (.str "v" 867)] 0), #[]⟩
noncomputable def o499 (P : Params) : Obj := ⟨(.type "tuple"), none, (.seq #[] 0), #[]⟩
noncomputable def o500 (P : Params) : Obj := ⟨.none, none, (.func ⟨"case_equal", "case_equal", fA (st 60), .stmts (fB (st 60)), fS (st 60), 0, [], .none, .none, .none, .none, none, .none, .none, 0⟩), #[]⟩
noncomputable def o501 (P : Params) : Obj := ⟨(.type "code"), none, (.fields #[(.str "case_equal" 863), (.str "case_equal" 864), (.str "/claim/cut.py" 865), (.int 320 0), (.int 2 0), (.int 0 0), (.int 0 0), (.int 3 0), (.ref 496), (.bool true), (.int 181 0), (.ref 497), .none, (.ref 498), (.ref 499), (.ref 500), (.int 868 0), (.int 320 0), (.str "/claim/cut.py" 869)]), #[]⟩
noncomputable def o502 (P : Params) : Obj := ⟨(.type "function"), none, (.func ⟨"case_equal", "case_equal", fA (st 60), .stmts (fB (st 60)), fS (st 60), 3, [], .none, .none, .none, (.str "gateloom.vecops" 711), none, (.ref 501), .none, 0⟩), #[]⟩
noncomputable def o503 (P : Params) : Obj := ⟨(.type "tuple"), none, (.seq #[] 0), #[]⟩
noncomputable def o504 (P : Params) : Obj := ⟨.none, none, (.fields #[]), #[]⟩
noncomputable def o505 (P : Params) : Obj := ⟨(.type "tuple"), none, (.seq #[(.str "u" 874), (.str "v" 875)] 0), #[]⟩
noncomputable def o506 (P : Params) : Obj := ⟨(.type "tuple"), none, (.seq #[] 0), #[]⟩
noncomputable def o507 (P : Params) : Obj := ⟨.none, none, (.func ⟨"case_not_equal", "case_not_equal", fA (st 61), .stmts (fB (st 61)), fS (st 61), 0, [], .none, .none, .none, .none, none, .none, .none, 0⟩), #[]⟩
noncomputable def o508 (P : Params) : Obj := ⟨(.type "code"), none, (.fields #[(.str "case_not_equal" 871), (.str "case_not_equal" 872), (.str "/claim/cut.py" 873), (.int 322 0), (.int 2 0), (.int 0 0), (.int 0 0), (.int 3 0), (.ref 503), (.bool true), (.int 181 0), (.ref 504), .none, (.ref 505), (.ref 506), (.ref 507), (.int 876 0), (.int 322 0), (.str "/claim/cut.py" 877)]), #[]⟩
noncomputable def o509 (P : Params) : Obj := ⟨(.type "function"), none, (.func ⟨"case_not_equal", "case_not_equal", fA (st 61), .stmts (fB (st 61)), fS (st 61), 3, [], .none, .none, .none, (.str "gateloom.vecops" 711), none, (.ref 508), .none, 0⟩), #[]⟩
noncomputable def o510 (P : Params) : Obj := ⟨(.type "tuple"), none, (.seq #[] 0), #[]⟩
noncomputable def o511 (P : Params) : Obj := ⟨.none, none, (.fields #[]), #[]⟩
noncomputable def o512 (P : Params) : Obj := ⟨(.type "tuple"), none, (.seq #[(.str "kind" 882), (.str "u" 883), (.str "v" 884), (.str "free" 885), (.str "care" 886)] 0), #[]⟩
noncomputable def o513 (P : Params) : Obj := ⟨(.type "tuple"), none, (.seq #[] 0), #[]⟩
noncomputable def o514 (P : Params) : Obj := ⟨.none, none, (.func ⟨"matches", "matches", fA (st 62), .stmts (fB (st 62)), fS (st 62), 0, [], .none, .none, .none, .none, none, .none, .none, 0⟩), #[]⟩
noncomputable def o515 (P : Params) : Obj := ⟨(.type "code"), none, (.fields #[(.str "matches" 879), (.str "matches" 880), (.str "/claim/cut.py" 881), (.int 324 0), (.int 3 0), (.int 0 0), (.int 0 0), (.int 3 0), (.ref 510), (.bool true), (.int 181 0), (.ref 511), .none, (.ref 512), (.ref 513), (.ref 514), (.int 887 0), (.int 324 0), (.str "/claim/cut.py" 888)]), #[]⟩
noncomputable def o516 (P : Params) : Obj := ⟨(.type "function"), none, (.func ⟨"matches", "matches", fA (st 62), .stmts (fB (st 62)), fS (st 62), 3, [], .none, .none, .none, (.str "gateloom.vecops" 711), none, (.ref 515), .none, 0⟩), #[]⟩
noncomputable def o517 (P : Params) : Obj := ⟨(.type "tuple"), none, (.seq #[] 0), #[]⟩
noncomputable def o518 (P : Params) : Obj := ⟨.none, none, (.fields #[]), #[]⟩
noncomputable def o519 (P : Params) : Obj := ⟨(.type "tuple"), none, (.seq #[(.str "c" 893), (.str "t" 894), (.str "f" 895), (.str "found" 896), (.str "w" 897), (.str "same" 898), (.str "unknown" 899)] 0), #[]⟩
noncomputable def o520 (P : Params) : Obj := ⟨(.type "tuple"), none, (.seq #[] 0), #[]⟩
noncomputable def o521 (P : Params) : Obj := ⟨.none, none, (.func ⟨"choose", "choose", fA (st 63), .stmts (fB (st 63)), fS (st 63), 0, [], .none, .none, .none, .none, none, .none, .none, 0⟩), #[]⟩
noncomputable def o522 (P : Params) : Obj := ⟨(.type "code"), none, (.fields #[(.str "choose" 890), (.str "choose" 891), (.str "/claim/cut.py" 892), (.int 332 0), (.int 3 0), (.int 0 0), (.int 0 0), (.int 3 0), (.ref 517), (.bool true), (.int 181 0), (.ref 518), .none, (.ref 519), (.ref 520), (.ref 521), (.int 900 0), (.int 332 0), (.str "/claim/cut.py" 901)]), #[]⟩
noncomputable def o523 (P : Params) : Obj := ⟨(.type "function"), none, (.func ⟨"choose", "choose", fA (st 63), .stmts (fB (st 63)), fS (st 63), 3, [], .none, .none, .none, (.str "gateloom.vecops" 711), none, (.ref 522), .none, 0⟩), #[]⟩
noncomputable def o524 (P : Params) : Obj := ⟨(.type "tuple"), none, (.seq #[] 0), #[]⟩
noncomputable def o525 (P : Params) : Obj := ⟨.none, none, (.fields #[]), #[]⟩
noncomputable def o526 (P : Params) : Obj := ⟨(.type "tuple"), none, (.seq #[(.str "op" 908), (.str "u" 909)] 0), #[]⟩
noncomputable def o527 (P : Params) : Obj := ⟨(.type "tuple"), none, (.seq #[] 0), #[]⟩
noncomputable def o528 (P : Params) : Obj := ⟨.none, none, (.func ⟨"unary", "unary", fA (st 65), .stmts (fB (st 65)), fS (st 65), 0, [], .none, .none, .none, .none, none, .none, .none, 0⟩), #[]⟩
noncomputable def o529 (P : Params) : Obj := ⟨(.type "code"), none, (.fields #[(.str "unary" 905), (.str "unary" 906), (.str "/claim/cut.py" 907), (.int 343 0), (.int 2 0), (.int 0 0), (.int 0 0), (.int 3 0), (.ref 524), (.bool true), (.int 181 0), (.ref 525), .none, (.ref 526), (.ref 527), (.ref 528), (.int 910 0), (.int 343 0), (.str "/claim/cut.py" 911)]), #[]⟩
noncomputable def o530 (P : Params) : Obj := ⟨(.type "function"), none, (.func ⟨"unary", "unary", fA (st 65), .stmts (fB (st 65)), fS (st 65), 3, [], .none, .none, .none, (.str "gateloom.evaluate" 903), none, (.ref 529), .none, 0⟩), #[]⟩
noncomputable def o531 (P : Params) : Obj := ⟨(.type "tuple"), none, (.seq #[] 0), #[]⟩
noncomputable def o532 (P : Params) : Obj := ⟨.none, none, (.fields #[]), #[]⟩
noncomputable def o533 (P : Params) : Obj := ⟨(.type "tuple"), none, (.seq #[(.str "op" 916), (.str "u" 917), (.str "v" 918), (.str "signed" 919)] 0), #[]⟩
noncomputable def o534 (P : Params) : Obj := ⟨(.type "tuple"), none, (.seq #[] 0), #[]⟩
noncomputable def o535 (P : Params) : Obj := ⟨.none, none, (.func ⟨"arithmetic", "arithmetic", fA (st 66), .stmts (fB (st 66)), fS (st 66), 0, [], .none, .none, .none, .none, none, .none, .none, 0⟩), #[]⟩
noncomputable def o536 (P : Params) : Obj := ⟨(.type "code"), none, (.fields #[(.str "arithmetic" 913), (.str "arithmetic" 914), (.str "/claim/cut.py" 915), (.int 363 0), (.int 4 0), (.int 0 0), (.int 0 0), (.int 3 0), (.ref 531), (.bool true), (.int 181 0), (.ref 532), .none, (.ref 533), (.ref 534), (.ref 535), (.int 920 0), (.int 363 0), (.str "/claim/cut.py" 921)]), #[]⟩
noncomputable def o537 (P : Params) : Obj := ⟨(.type "function"), none, (.func ⟨"arithmetic", "arithmetic", fA (st 66), .stmts (fB (st 66)), fS (st 66), 3, [], .none, .none, .none, (.str "gateloom.evaluate" 903), none, (.ref 536), .none, 0⟩), #[]⟩
noncomputable def o538 (P : Params) : Obj := ⟨(.type "tuple"), none, (.seq #[] 0), #[]⟩
noncomputable def o539 (P : Params) : Obj := ⟨.none, none, (.fields #[]), #[]⟩
noncomputable def o540 (P : Params) : Obj := ⟨(.type "tuple"), none, (.seq #[(.str "op" 926), (.str "u" 927), (.str "v" 928), (.str "signed" 929)] 0), #[]⟩
noncomputable def o541 (P : Params) : Obj := ⟨(.type "tuple"), none, (.seq #[] 0), #[]⟩
noncomputable def o542 (P : Params) : Obj := ⟨.none, none, (.func ⟨"comparison", "comparison", fA (st 67), .stmts (fB (st 67)), fS (st 67), 0, [], .none, .none, .none, .none, none, .none, .none, 0⟩), #[]⟩
noncomputable def o543 (P : Params) : Obj := ⟨(.type "code"), none, (.fields #[(.str "comparison" 923), (.str "comparison" 924), (.str "/claim/cut.py" 925), (.int 381 0), (.int 4 0), (.int 0 0), (.int 0 0), (.int 3 0), (.ref 538), (.bool true), (.int 181 0), (.ref 539), .none, (.ref 540), (.ref 541), (.ref 542), (.int 930 0), (.int 381 0), (.str "/claim/cut.py" 931)]), #[]⟩
noncomputable def o544 (P : Params) : Obj := ⟨(.type "function"), none, (.func ⟨"comparison", "comparison", fA (st 67), .stmts (fB (st 67)), fS (st 67), 3, [], .none, .none, .none, (.str "gateloom.evaluate" 903), none, (.ref 543), .none, 0⟩), #[]⟩
noncomputable def o545 (P : Params) : Obj := ⟨(.type "tuple"), none, (.seq #[] 0), #[]⟩
noncomputable def o546 (P : Params) : Obj := ⟨.none, none, (.fields #[]), #[]⟩
noncomputable def o547 (P : Params) : Obj := ⟨(.type "tuple"), none, (.seq #[(.str "op" 936), (.str "u" 937), (.str "v" 938)] 0), #[]⟩
noncomputable def o548 (P : Params) : Obj := ⟨(.type "tuple"), none, (.seq #[] 0), #[]⟩
noncomputable def o549 (P : Params) : Obj := ⟨.none, none, (.func ⟨"bitwise", "bitwise", fA (st 68), .stmts (fB (st 68)), fS (st 68), 0, [], .none, .none, .none, .none, none, .none, .none, 0⟩), #[]⟩
noncomputable def o550 (P : Params) : Obj := ⟨(.type "code"), none, (.fields #[(.str "bitwise" 933), (.str "bitwise" 934), (.str "/claim/cut.py" 935), (.int 399 0), (.int 3 0), (.int 0 0), (.int 0 0), (.int 3 0), (.ref 545), (.bool true), (.int 181 0), (.ref 546), .none, (.ref 547), (.ref 548), (.ref 549), (.int 939 0), (.int 399 0), (.str "/claim/cut.py" 940)]), #[]⟩
noncomputable def o551 (P : Params) : Obj := ⟨(.type "function"), none, (.func ⟨"bitwise", "bitwise", fA (st 68), .stmts (fB (st 68)), fS (st 68), 3, [], .none, .none, .none, (.str "gateloom.evaluate" 903), none, (.ref 550), .none, 0⟩), #[]⟩
noncomputable def o552 (P : Params) : Obj := ⟨(.type "tuple"), none, (.seq #[] 0), #[]⟩
noncomputable def o553 (P : Params) : Obj := ⟨.none, none, (.fields #[]), #[]⟩
noncomputable def o554 (P : Params) : Obj := ⟨(.type "tuple"), none, (.seq #[(.str "op" 945), (.str "u" 946), (.str "v" 947), (.str "signed" 948), (.str "value" 949)] 0), #[]⟩
noncomputable def o555 (P : Params) : Obj := ⟨(.type "tuple"), none, (.seq #[] 0), #[]⟩
noncomputable def o556 (P : Params) : Obj := ⟨.none, none, (.func ⟨"binary", "binary", fA (st 69), .stmts (fB (st 69)), fS (st 69), 0, [], .none, .none, .none, .none, none, .none, .none, 0⟩), #[]⟩
noncomputable def o557 (P : Params) : Obj := ⟨(.type "code"), none, (.fields #[(.str "binary" 942), (.str "binary" 943), (.str "/claim/cut.py" 944), (.int 413 0), (.int 4 0), (.int 0 0), (.int 0 0), (.int 3 0), (.ref 552), (.bool true), (.int 181 0), (.ref 553), .none, (.ref 554), (.ref 555), (.ref 556), (.int 950 0), (.int 413 0), (.str "/claim/cut.py" 951)]), #[]⟩
noncomputable def o558 (P : Params) : Obj := ⟨(.type "function"), none, (.func ⟨"binary", "binary", fA (st 69), .stmts (fB (st 69)), fS (st 69), 3, [], .none, .none, .none, (.str "gateloom.evaluate" 903), none, (.ref 557), .none, 0⟩), #[]⟩
noncomputable def o559 (P : Params) : Obj := ⟨(.type "tuple"), none, (.seq #[] 0), #[]⟩
noncomputable def o560 (P : Params) : Obj := ⟨.none, none, (.fields #[]), #[]⟩
noncomputable def o561 (P : Params) : Obj := ⟨(.type "tuple"), none, (.seq #[(.str "e" 956), (.str "signed" 957), (.str "ctx" 958)] 0), #[]⟩
noncomputable def o562 (P : Params) : Obj := ⟨(.type "tuple"), none, (.seq #[] 0), #[]⟩
noncomputable def o563 (P : Params) : Obj := ⟨.none, none, (.func ⟨"whole_of", "whole_of", fA (st 70), .stmts (fB (st 70)), fS (st 70), 0, [], .none, .none, .none, .none, none, .none, .none, 0⟩), #[]⟩
noncomputable def o564 (P : Params) : Obj := ⟨(.type "code"), none, (.fields #[(.str "whole_of" 953), (.str "whole_of" 954), (.str "/claim/cut.py" 955), (.int 422 0), (.int 3 0), (.int 0 0), (.int 0 0), (.int 3 0), (.ref 559), (.bool true), (.int 181 0), (.ref 560), .none, (.ref 561), (.ref 562), (.ref 563), (.int 959 0), (.int 422 0), (.str "/claim/cut.py" 960)]), #[]⟩
noncomputable def o565 (P : Params) : Obj := ⟨(.type "function"), none, (.func ⟨"whole_of", "whole_of", fA (st 70), .stmts (fB (st 70)), fS (st 70), 3, [], .none, .none, .none, (.str "gateloom.evaluate" 903), none, (.ref 564), .none, 0⟩), #[]⟩
noncomputable def o566 (P : Params) : Obj := ⟨(.type "tuple"), none, (.seq #[] 0), #[]⟩
noncomputable def o567 (P : Params) : Obj := ⟨.none, none, (.fields #[]), #[]⟩
noncomputable def o568 (P : Params) : Obj := ⟨(.type "tuple"), none, (.seq #[(.str "e" 965), (.str "ctx" 966), (.str "index" 967), (.str "place" 968)] 0), #[]⟩
noncomputable def o569 (P : Params) : Obj := ⟨(.type "tuple"), none, (.seq #[] 0), #[]⟩
noncomputable def o570 (P : Params) : Obj := ⟨.none, none, (.func ⟨"memory_word", "memory_word", fA (st 71), .stmts (fB (st 71)), fS (st 71), 0, [], .none, .none, .none, .none, none, .none, .none, 0⟩), #[]⟩
noncomputable def o571 (P : Params) : Obj := ⟨(.type "code"), none, (.fields #[(.str "memory_word" 962), (.str "memory_word" 963), (.str "/claim/cut.py" 964), (.int 424 0), (.int 2 0), (.int 0 0), (.int 0 0), (.int 3 0), (.ref 566), (.bool true), (.int 181 0), (.ref 567), .none, (.ref 568), (.ref 569), (.ref 570), (.int 969 0), (.int 424 0), (.str "/claim/cut.py" 970)]), #[]⟩
noncomputable def o572 (P : Params) : Obj := ⟨(.type "function"), none, (.func ⟨"memory_word", "memory_word", fA (st 71), .stmts (fB (st 71)), fS (st 71), 3, [], .none, .none, .none, (.str "gateloom.evaluate" 903), none, (.ref 571), .none, 0⟩), #[]⟩
noncomputable def o573 (P : Params) : Obj := ⟨(.type "tuple"), none, (.seq #[] 0), #[]⟩
noncomputable def o574 (P : Params) : Obj := ⟨.none, none, (.fields #[]), #[]⟩
noncomputable def o575 (P : Params) : Obj := ⟨(.type "tuple"), none, (.seq #[(.str "e" 975), (.str "ctx" 976), (.str "value" 977), (.str "index" 978)] 0), #[]⟩
noncomputable def o576 (P : Params) : Obj := ⟨(.type "tuple"), none, (.seq #[] 0), #[]⟩
noncomputable def o577 (P : Params) : Obj := ⟨.none, none, (.func ⟨"picked", "picked", fA (st 72), .stmts (fB (st 72)), fS (st 72), 0, [], .none, .none, .none, .none, none, .none, .none, 0⟩), #[]⟩
noncomputable def o578 (P : Params) : Obj := ⟨(.type "code"), none, (.fields #[(.str "picked" 972), (.str "picked" 973), (.str "/claim/cut.py" 974), (.int 432 0), (.int 2 0), (.int 0 0), (.int 0 0), (.int 3 0), (.ref 573), (.bool true), (.int 181 0), (.ref 574), .none, (.ref 575), (.ref 576), (.ref 577), (.int 979 0), (.int 432 0), (.str "/claim/cut.py" 980)]), #[]⟩
noncomputable def o579 (P : Params) : Obj := ⟨(.type "function"), none, (.func ⟨"picked", "picked", fA (st 72), .stmts (fB (st 72)), fS (st 72), 3, [], .none, .none, .none, (.str "gateloom.evaluate" 903), none, (.ref 578), .none, 0⟩), #[]⟩
noncomputable def o580 (P : Params) : Obj := ⟨(.type "tuple"), none, (.seq #[] 0), #[]⟩
noncomputable def o581 (P : Params) : Obj := ⟨.none, none, (.fields #[]), #[]⟩
noncomputable def o582 (P : Params) : Obj := ⟨(.type "tuple"), none, (.seq #[(.str "e" 985), (.str "ctx" 986), (.str "condition" 987), (.str "known" 988)] 0), #[]⟩
noncomputable def o583 (P : Params) : Obj := ⟨(.type "tuple"), none, (.seq #[] 0), #[]⟩
noncomputable def o584 (P : Params) : Obj := ⟨.none, none, (.func ⟨"conditional", "conditional", fA (st 73), .stmts (fB (st 73)), fS (st 73), 0, [], .none, .none, .none, .none, none, .none, .none, 0⟩), #[]⟩
noncomputable def o585 (P : Params) : Obj := ⟨(.type "code"), none, (.fields #[(.str "conditional" 982), (.str "conditional" 983), (.str "/claim/cut.py" 984), (.int 438 0), (.int 2 0), (.int 0 0), (.int 0 0), (.int 3 0), (.ref 580), (.bool true), (.int 181 0), (.ref 581), .none, (.ref 582), (.ref 583), (.ref 584), (.int 989 0), (.int 438 0), (.str "/claim/cut.py" 990)]), #[]⟩
noncomputable def o586 (P : Params) : Obj := ⟨(.type "function"), none, (.func ⟨"conditional", "conditional", fA (st 73), .stmts (fB (st 73)), fS (st 73), 3, [], .none, .none, .none, (.str "gateloom.evaluate" 903), none, (.ref 585), .none, 0⟩), #[]⟩
noncomputable def o587 (P : Params) : Obj := ⟨(.type "tuple"), none, (.seq #[] 0), #[]⟩
noncomputable def o588 (P : Params) : Obj := ⟨.none, none, (.fields #[]), #[]⟩
noncomputable def o589 (P : Params) : Obj := ⟨(.type "tuple"), none, (.seq #[(.str "n" 995), (.str "k" 996)] 0), #[]⟩
noncomputable def o590 (P : Params) : Obj := ⟨(.type "tuple"), none, (.seq #[] 0), #[]⟩
noncomputable def o591 (P : Params) : Obj := ⟨.none, none, (.func ⟨"bits_needed", "bits_needed", fA (st 74), .stmts (fB (st 74)), fS (st 74), 0, [], .none, .none, .none, .none, none, .none, .none, 0⟩), #[]⟩
noncomputable def o592 (P : Params) : Obj := ⟨(.type "code"), none, (.fields #[(.str "bits_needed" 992), (.str "bits_needed" 993), (.str "/claim/cut.py" 994), (.int 446 0), (.int 1 0), (.int 0 0), (.int 0 0), (.int 3 0), (.ref 587), (.bool true), (.int 181 0), (.ref 588), .none, (.ref 589), (.ref 590), (.ref 591), (.int 997 0), (.int 446 0), (.str "/claim/cut.py" 998)]), #[]⟩
noncomputable def o593 (P : Params) : Obj := ⟨(.type "function"), none, (.func ⟨"bits_needed", "bits_needed", fA (st 74), .stmts (fB (st 74)), fS (st 74), 3, [], .none, .none, .none, (.str "gateloom.evaluate" 903), none, (.ref 592), .none, 0⟩), #[]⟩
noncomputable def o594 (P : Params) : Obj := ⟨(.type "tuple"), none, (.seq #[] 0), #[]⟩
noncomputable def o595 (P : Params) : Obj := ⟨.none, none, (.fields #[]), #[]⟩
noncomputable def o596 (P : Params) : Obj := ⟨(.type "tuple"), none, (.seq #[(.str "e" 1003), (.str "ctx" 1004), (.str "w" 1005), (.str "name" 1006), (.str "n" 1007)] 0), #[]⟩
noncomputable def o597 (P : Params) : Obj := ⟨(.type "tuple"), none, (.seq #[] 0), #[]⟩
noncomputable def o598 (P : Params) : Obj := ⟨.none, none, (.func ⟨"system_value", "system_value", fA (st 75), .stmts (fB (st 75)), fS (st 75), 0, [], .none, .none, .none, .none, none, .none, .none, 0⟩), #[]⟩
noncomputable def o599 (P : Params) : Obj := ⟨(.type "code"), none, (.fields #[(.str "system_value" 1000), (.str "system_value" 1001), (.str "/claim/cut.py" 1002), (.int 451 0), (.int 2 0), (.int 0 0), (.int 0 0), (.int 3 0), (.ref 594), (.bool true), (.int 181 0), (.ref 595), .none, (.ref 596), (.ref 597), (.ref 598), (.int 1008 0), (.int 451 0), (.str "/claim/cut.py" 1009)]), #[]⟩
noncomputable def o600 (P : Params) : Obj := ⟨(.type "function"), none, (.func ⟨"system_value", "system_value", fA (st 75), .stmts (fB (st 75)), fS (st 75), 3, [], .none, .none, .none, (.str "gateloom.evaluate" 903), none, (.ref 599), .none, 0⟩), #[]⟩
noncomputable def o601 (P : Params) : Obj := ⟨(.type "tuple"), none, (.seq #[] 0), #[]⟩
noncomputable def o602 (P : Params) : Obj := ⟨.none, none, (.fields #[]), #[]⟩
noncomputable def o603 (P : Params) : Obj := ⟨.none, none, (.func ⟨"evaluate", "evaluate", fA (st 77), .stmts (fB (st 77)), fS (st 77), 0, [], .none, .none, .none, .none, none, .none, .none, 0⟩), #[]⟩
noncomputable def o604 (P : Params) : Obj := ⟨(.type "code"), none, (.fields #[(.str "evaluate" 1012), (.str "evaluate" 1013), (.str "/claim/cut.py" 1014), (.int 465 0), (.int 2 0), (.int 0 0), (.int 0 0), (.int 3 0), (.ref 601), (.bool true), (.int 181 0), (.ref 602), .none, .none, .none, (.ref 603), (.int 1015 0), (.int 465 0), (.str "/claim/cut.py" 1016)]), #[]⟩
noncomputable def o605 (P : Params) : Obj := ⟨(.type "function"), none, (.func ⟨"evaluate", "evaluate", fA (st 77), .stmts (fB (st 77)), fS (st 77), 3, [], .none, .none, .none, (.str "gateloom.evaluate" 903), none, (.ref 604), .none, 0⟩), #[]⟩
noncomputable def o606 (P : Params) : Obj := ⟨(.type "tuple"), none, (.seq #[] 0), #[]⟩
noncomputable def o607 (P : Params) : Obj := ⟨.none, none, (.fields #[]), #[]⟩
noncomputable def o608 (P : Params) : Obj := ⟨(.type "tuple"), none, (.seq #[(.str "where" 1021), (.str "ctx" 1022), (.str "index" 1023)] 0), #[]⟩
noncomputable def o609 (P : Params) : Obj := ⟨(.type "tuple"), none, (.seq #[] 0), #[]⟩
noncomputable def o610 (P : Params) : Obj := ⟨.none, none, (.func ⟨"locate", "locate", fA (st 78), .stmts (fB (st 78)), fS (st 78), 0, [], .none, .none, .none, .none, none, .none, .none, 0⟩), #[]⟩
noncomputable def o611 (P : Params) : Obj := ⟨(.type "code"), none, (.fields #[(.str "locate" 1018), (.str "locate" 1019), (.str "/claim/cut.py" 1020), (.int 496 0), (.int 2 0), (.int 0 0), (.int 0 0), (.int 3 0), (.ref 606), (.bool true), (.int 181 0), (.ref 607), .none, (.ref 608), (.ref 609), (.ref 610), (.int 1024 0), (.int 496 0), (.str "/claim/cut.py" 1025)]), #[]⟩
noncomputable def o612 (P : Params) : Obj := ⟨(.type "function"), none, (.func ⟨"locate", "locate", fA (st 78), .stmts (fB (st 78)), fS (st 78), 3, [], .none, .none, .none, (.str "gateloom.evaluate" 903), none, (.ref 611), .none, 0⟩), #[]⟩
noncomputable def o613 (P : Params) : Obj := ⟨(.type "tuple"), none, (.seq #[] 0), #[]⟩
noncomputable def o614 (P : Params) : Obj := ⟨.none, none, (.fields #[]), #[]⟩
noncomputable def o615 (P : Params) : Obj := ⟨(.type "tuple"), none, (.seq #[(.str "part" 1030), (.str "ctx" 1031)] 0), #[]⟩
noncomputable def o616 (P : Params) : Obj := ⟨(.type "tuple"), none, (.seq #[] 0), #[]⟩
noncomputable def o617 (P : Params) : Obj := ⟨.none, none, (.func ⟨"holder_width", "holder_width", fA (st 79), .stmts (fB (st 79)), fS (st 79), 0, [], .none, .none, .none, .none, none, .none, .none, 0⟩), #[]⟩
noncomputable def o618 (P : Params) : Obj := ⟨(.type "code"), none, (.fields #[(.str "holder_width" 1027), (.str "holder_width" 1028), (.str "/claim/cut.py" 1029), (.int 503 0), (.int 2 0), (.int 0 0), (.int 0 0), (.int 3 0), (.ref 613), (.bool true), (.int 181 0), (.ref 614), .none, (.ref 615), (.ref 616), (.ref 617), (.int 1032 0), (.int 503 0), (.str "/claim/cut.py" 1033)]), #[]⟩
noncomputable def o619 (P : Params) : Obj := ⟨(.type "function"), none, (.func ⟨"holder_width", "holder_width", fA (st 79), .stmts (fB (st 79)), fS (st 79), 3, [], .none, .none, .none, (.str "gateloom.evaluate" 903), none, (.ref 618), .none, 0⟩), #[]⟩
noncomputable def o620 (P : Params) : Obj := ⟨(.type "tuple"), none, (.seq #[] 0), #[]⟩
noncomputable def o621 (P : Params) : Obj := ⟨.none, none, (.fields #[]), #[]⟩
noncomputable def o622 (P : Params) : Obj := ⟨(.type "tuple"), none, (.seq #[(.str "lv" 1038), (.str "ctx" 1039), (.str "rows" 1040), (.str "take" 1041), (.str "part" 1042), (.str "kind" 1043), (.str "w" 1044), (.str "ref" 1045), (.str "word" 1046), (.str "where" 1047), (.str "place" 1048), (.str "index" 1049), (.str "lo" 1050)] 0), #[]⟩
noncomputable def o623 (P : Params) : Obj := ⟨(.type "tuple"), none, (.seq #[] 0), #[]⟩
noncomputable def o624 (P : Params) : Obj := ⟨.none, none, (.func ⟨"resolve_target", "resolve_target", fA (st 80), .stmts (fB (st 80)), fS (st 80), 0, [], .none, .none, .none, .none, none, .none, .none, 0⟩), #[]⟩
noncomputable def o625 (P : Params) : Obj := ⟨(.type "code"), none, (.fields #[(.str "resolve_target" 1035), (.str "resolve_target" 1036), (.str "/claim/cut.py" 1037), (.int 507 0), (.int 2 0), (.int 0 0), (.int 0 0), (.int 3 0), (.ref 620), (.bool true), (.int 181 0), (.ref 621), .none, (.ref 622), (.ref 623), (.ref 624), (.int 1051 0), (.int 507 0), (.str "/claim/cut.py" 1052)]), #[]⟩
noncomputable def o626 (P : Params) : Obj := ⟨(.type "function"), none, (.func ⟨"resolve_target", "resolve_target", fA (st 80), .stmts (fB (st 80)), fS (st 80), 3, [], .none, .none, .none, (.str "gateloom.evaluate" 903), none, (.ref 625), .none, 0⟩), #[]⟩
noncomputable def o627 (P : Params) : Obj := ⟨(.type "tuple"), none, (.seq #[] 0), #[]⟩
noncomputable def o628 (P : Params) : Obj := ⟨.none, none, (.fields #[]), #[]⟩
noncomputable def o629 (P : Params) : Obj := ⟨(.type "tuple"), none, (.seq #[(.str "rows" 1057), (.str "value" 1058), (.str "ctx" 1059), (.str "changed" 1060), (.str "kind" 1061), (.str "ref" 1062), (.str "place" 1063), (.str "lo" 1064), (.str "w" 1065), (.str "take" 1066), (.str "piece" 1067)] 0), #[]⟩
noncomputable def o630 (P : Params) : Obj := ⟨(.type "tuple"), none, (.seq #[] 0), #[]⟩
noncomputable def o631 (P : Params) : Obj := ⟨.none, none, (.func ⟨"store_rows", "store_rows", fA (st 81), .stmts (fB (st 81)), fS (st 81), 0, [], .none, .none, .none, .none, none, .none, .none, 0⟩), #[]⟩
noncomputable def o632 (P : Params) : Obj := ⟨(.type "code"), none, (.fields #[(.str "store_rows" 1054), (.str "store_rows" 1055), (.str "/claim/cut.py" 1056), (.int 526 0), (.int 3 0), (.int 0 0), (.int 0 0), (.int 3 0), (.ref 627), (.bool true), (.int 181 0), (.ref 628), .none, (.ref 629), (.ref 630), (.ref 631), (.int 1068 0), (.int 526 0), (.str "/claim/cut.py" 1069)]), #[]⟩
noncomputable def o633 (P : Params) : Obj := ⟨(.type "function"), none, (.func ⟨"store_rows", "store_rows", fA (st 81), .stmts (fB (st 81)), fS (st 81), 3, [], .none, .none, .none, (.str "gateloom.evaluate" 903), none, (.ref 632), .none, 0⟩), #[]⟩
noncomputable def o634 (P : Params) : Obj := ⟨(.type "tuple"), none, (.seq #[(.ref 253)] 0), #[]⟩
noncomputable def o635 (P : Params) : Obj := ⟨(.type "builtin_function_or_method"), none, (.fields #[(.builtin "type.__prepare__"), (.type "type")]), #[]⟩
noncomputable def o636 (P : Params) : Obj := ⟨(.type "dict"), none, (.dict #[dE P "__module__" 1082 (.str "gateloom.funcs" 1071), dE P "__qualname__" 1084 (.str "FunctionContext" 1083), dE P "__firstlineno__" 1086 (.int 538 1085), dE P "__init__" 1099 (.ref 648), dE P "call" 1111 (.ref 655), dE P "new_frame" 1117 (.ref 660), dE P "burn" 1124 (.ref 667), dE P "is_true" 1132 (.ref 674), dE P "__static_attributes__" 1138 (.ref 675)] 9), #[]⟩
noncomputable def o637 (P : Params) : Obj := ⟨(.type "tuple"), none, (.seq #[] 0), #[]⟩
noncomputable def o638 (P : Params) : Obj := ⟨.none, none, (.fields #[(.int 540 0), (.int 4 0), (.ref 647), (.int 547 0), (.int 4 0), (.ref 654), (.int 562 0), (.int 4 0), (.ref 659), (.int 574 0), (.int 4 0), (.ref 666), (.int 579 0), (.int 4 0), (.ref 673)]), #[]⟩
noncomputable def o639 (P : Params) : Obj := ⟨(.type "code"), none, (.fields #[(.str "FunctionContext" 1077), (.str "FunctionContext" 1078), (.str "/claim/cut.py" 1079), (.int 538 0), (.int 0 0), (.int 0 0), (.int 0 0), (.int 0 0), (.ref 637), (.bool false), (.int 181 0), (.ref 638), .none, .none, .none, .none, (.int 1080 0), (.int 538 0), (.str "/claim/cut.py" 1081)]), #[]⟩
noncomputable def o640 (P : Params) : Obj := ⟨(.type "frame"), none, .plain, #[some (.ref 639), some (.ref 3), some (.ref 636), none, some (.str "gateloom.funcs" 1071), none, some (.ref 0)]⟩
noncomputable def o641 (P : Params) : Obj := ⟨(.type "tuple"), none, (.seq #[(.int 10000 1087)] 0), #[]⟩
noncomputable def o642 (P : Params) : Obj := ⟨(.type "tuple"), none, (.seq #[] 0), #[]⟩
noncomputable def o643 (P : Params) : Obj := ⟨.none, none, (.fields #[]), #[]⟩
noncomputable def o644 (P : Params) : Obj := ⟨(.type "tuple"), none, (.seq #[(.str "self" 1091), (.str "design" 1092), (.str "store" 1093), (.str "frame" 1094), (.str "now" 1095), (.str "fuel" 1096)] 0), #[]⟩
noncomputable def o645 (P : Params) : Obj := ⟨(.type "tuple"), none, (.seq #[] 0), #[]⟩
noncomputable def o646 (P : Params) : Obj := ⟨.none, none, (.func ⟨"__init__", "FunctionContext.__init__", fA (su 84 0), .stmts (fB (su 84 0)), fS (su 84 0), 0, [], .none, .none, .none, .none, none, .none, .none, 0⟩), #[]⟩
noncomputable def o647 (P : Params) : Obj := ⟨(.type "code"), none, (.fields #[(.str "__init__" 1088), (.str "FunctionContext.__init__" 1089), (.str "/claim/cut.py" 1090), (.int 540 0), (.int 6 0), (.int 0 0), (.int 0 0), (.int 3 0), (.ref 642), (.bool true), (.int 181 0), (.ref 643), .none, (.ref 644), (.ref 645), (.ref 646), (.int 1097 0), (.int 540 0), (.str "/claim/cut.py" 1098)]), #[]⟩
noncomputable def o648 (P : Params) : Obj := ⟨(.type "function"), none, (.func ⟨"__init__", "FunctionContext.__init__", fA (su 84 0), .stmts (fB (su 84 0)), fS (su 84 0), 3, [], (.ref 641), .none, .none, (.str "gateloom.funcs" 1071), none, (.ref 647), .none, 0⟩), #[]⟩
noncomputable def o649 (P : Params) : Obj := ⟨(.type "tuple"), none, (.seq #[] 0), #[]⟩
noncomputable def o650 (P : Params) : Obj := ⟨.none, none, (.fields #[]), #[]⟩
noncomputable def o651 (P : Params) : Obj := ⟨(.type "tuple"), none, (.seq #[(.str "self" 1103), (.str "number" 1104), (.str "args" 1105), (.str "routine" 1106), (.str "caller" 1107), (.str "value" 1108)] 0), #[]⟩
noncomputable def o652 (P : Params) : Obj := ⟨(.type "tuple"), none, (.seq #[] 0), #[]⟩
noncomputable def o653 (P : Params) : Obj := ⟨.none, none, (.func ⟨"call", "FunctionContext.call", fA (su 84 1), .stmts (fB (su 84 1)), fS (su 84 1), 0, [], .none, .none, .none, .none, none, .none, .none, 0⟩), #[]⟩
noncomputable def o654 (P : Params) : Obj := ⟨(.type "code"), none, (.fields #[(.str "call" 1100), (.str "FunctionContext.call" 1101), (.str "/claim/cut.py" 1102), (.int 547 0), (.int 3 0), (.int 0 0), (.int 0 0), (.int 3 0), (.ref 649), (.bool true), (.int 181 0), (.ref 650), .none, (.ref 651), (.ref 652), (.ref 653), (.int 1109 0), (.int 547 0), (.str "/claim/cut.py" 1110)]), #[]⟩
noncomputable def o655 (P : Params) : Obj := ⟨(.type "function"), none, (.func ⟨"call", "FunctionContext.call", fA (su 84 1), .stmts (fB (su 84 1)), fS (su 84 1), 3, [], .none, .none, .none, (.str "gateloom.funcs" 1071), none, (.ref 654), .none, 0⟩), #[]⟩
noncomputable def o656 (P : Params) : Obj := ⟨(.type "tuple"), none, (.seq #[] 0), #[]⟩
noncomputable def o657 (P : Params) : Obj := ⟨.none, none, (.fields #[]), #[]⟩
noncomputable def o658 (P : Params) : Obj := ⟨.none, none, (.func ⟨"new_frame", "FunctionContext.new_frame", fA (su 84 2), .stmts (fB (su 84 2)), fS (su 84 2), 0, [], .none, .none, .none, .none, none, .none, .none, 0⟩), #[]⟩
noncomputable def o659 (P : Params) : Obj := ⟨(.type "code"), none, (.fields #[(.str "new_frame" 1112), (.str "FunctionContext.new_frame" 1113), (.str "/claim/cut.py" 1114), (.int 562 0), (.int 3 0), (.int 0 0), (.int 0 0), (.int 3 0), (.ref 656), (.bool true), (.int 181 0), (.ref 657), .none, .none, .none, (.ref 658), (.int 1115 0), (.int 562 0), (.str "/claim/cut.py" 1116)]), #[]⟩
noncomputable def o660 (P : Params) : Obj := ⟨(.type "function"), none, (.func ⟨"new_frame", "FunctionContext.new_frame", fA (su 84 2), .stmts (fB (su 84 2)), fS (su 84 2), 3, [], .none, .none, .none, (.str "gateloom.funcs" 1071), none, (.ref 659), .none, 0⟩), #[]⟩
noncomputable def o661 (P : Params) : Obj := ⟨(.type "tuple"), none, (.seq #[] 0), #[]⟩
noncomputable def o662 (P : Params) : Obj := ⟨.none, none, (.fields #[]), #[]⟩
noncomputable def o663 (P : Params) : Obj := ⟨(.type "tuple"), none, (.seq #[(.str "self" 1121)] 0), #[]⟩
noncomputable def o664 (P : Params) : Obj := ⟨(.type "tuple"), none, (.seq #[] 0), #[]⟩
noncomputable def o665 (P : Params) : Obj := ⟨.none, none, (.func ⟨"burn", "FunctionContext.burn", fA (su 84 3), .stmts (fB (su 84 3)), fS (su 84 3), 0, [], .none, .none, .none, .none, none, .none, .none, 0⟩), #[]⟩
noncomputable def o666 (P : Params) : Obj := ⟨(.type "code"), none, (.fields #[(.str "burn" 1118), (.str "FunctionContext.burn" 1119), (.str "/claim/cut.py" 1120), (.int 574 0), (.int 1 0), (.int 0 0), (.int 0 0), (.int 3 0), (.ref 661), (.bool true), (.int 181 0), (.ref 662), .none, (.ref 663), (.ref 664), (.ref 665), (.int 1122 0), (.int 574 0), (.str "/claim/cut.py" 1123)]), #[]⟩
noncomputable def o667 (P : Params) : Obj := ⟨(.type "function"), none, (.func ⟨"burn", "FunctionContext.burn", fA (su 84 3), .stmts (fB (su 84 3)), fS (su 84 3), 3, [], .none, .none, .none, (.str "gateloom.funcs" 1071), none, (.ref 666), .none, 0⟩), #[]⟩
noncomputable def o668 (P : Params) : Obj := ⟨(.type "tuple"), none, (.seq #[] 0), #[]⟩
noncomputable def o669 (P : Params) : Obj := ⟨.none, none, (.fields #[]), #[]⟩
noncomputable def o670 (P : Params) : Obj := ⟨(.type "tuple"), none, (.seq #[(.str "self" 1128), (.str "e" 1129)] 0), #[]⟩
noncomputable def o671 (P : Params) : Obj := ⟨(.type "tuple"), none, (.seq #[] 0), #[]⟩
noncomputable def o672 (P : Params) : Obj := ⟨.none, none, (.func ⟨"is_true", "FunctionContext.is_true", fA (su 84 4), .stmts (fB (su 84 4)), fS (su 84 4), 0, [], .none, .none, .none, .none, none, .none, .none, 0⟩), #[]⟩
noncomputable def o673 (P : Params) : Obj := ⟨(.type "code"), none, (.fields #[(.str "is_true" 1125), (.str "FunctionContext.is_true" 1126), (.str "/claim/cut.py" 1127), (.int 579 0), (.int 2 0), (.int 0 0), (.int 0 0), (.int 3 0), (.ref 668), (.bool true), (.int 181 0), (.ref 669), .none, (.ref 670), (.ref 671), (.ref 672), (.int 1130 0), (.int 579 0), (.str "/claim/cut.py" 1131)]), #[]⟩
noncomputable def o674 (P : Params) : Obj := ⟨(.type "function"), none, (.func ⟨"is_true", "FunctionContext.is_true", fA (su 84 4), .stmts (fB (su 84 4)), fS (su 84 4), 3, [], .none, .none, .none, (.str "gateloom.funcs" 1071), none, (.ref 673), .none, 0⟩), #[]⟩
noncomputable def o675 (P : Params) : Obj := ⟨(.type "tuple"), none, (.seq #[(.str "depth" 1133), (.str "design" 1134), (.str "frame" 1135), (.str "fuel" 1136), (.str "written" 1137)] 0), #[]⟩
noncomputable def o676 (P : Params) : Obj := ⟨(.type "dict"), none, (.dict #[dE P "__module__" 1082 (.str "gateloom.funcs" 1071), dE P "__firstlineno__" 1086 (.int 538 1085), dE P "__init__" 1099 (.ref 648), dE P "call" 1111 (.ref 655), dE P "new_frame" 1117 (.ref 660), dE P "burn" 1124 (.ref 667), dE P "is_true" 1132 (.ref 674), dE P "__static_attributes__" 1138 (.ref 675), dE P "__doc__" 1139 .none] 2), #[]⟩
noncomputable def o677 (P : Params) : Obj := ⟨(.type "type"), none, (.cls ⟨"FunctionContext", [(.ref 253)], [(.ref 677), (.ref 253), (.type "object")], 676, "FunctionContext", true, [], [], false, none, false⟩), #[some (.ref 634), none, some (.str "FunctionContext" 1075), some (.str "FunctionContext" 1083), some (.builtin "object.__new__"), some (.bool true)]⟩
noncomputable def o678 (P : Params) : Obj := ⟨(.type "super"), none, (.fields #[(.ref 677), (.ref 677), (.ref 677)]), #[]⟩
noncomputable def o679 (P : Params) : Obj := ⟨(.type "builtin_function_or_method"), none, (.fields #[(.builtin "object.__init_subclass__"), (.ref 677)]), #[]⟩
noncomputable def o680 (P : Params) : Obj := ⟨(.type "tuple"), none, (.seq #[] 0), #[]⟩
noncomputable def o681 (P : Params) : Obj := ⟨.none, none, (.fields #[]), #[]⟩
noncomputable def o682 (P : Params) : Obj := ⟨(.type "tuple"), none, (.seq #[(.str "s" 1145), (.str "ctx" 1146), (.str "inner" 1147), (.str "disabled" 1148)] 0), #[]⟩
noncomputable def o683 (P : Params) : Obj := ⟨(.type "tuple"), none, (.seq #[] 0), #[]⟩
noncomputable def o684 (P : Params) : Obj := ⟨.none, none, (.func ⟨"run_block", "run_block", fA (st 85), .stmts (fB (st 85)), fS (st 85), 0, [], .none, .none, .none, .none, none, .none, .none, 0⟩), #[]⟩
noncomputable def o685 (P : Params) : Obj := ⟨(.type "code"), none, (.fields #[(.str "run_block" 1142), (.str "run_block" 1143), (.str "/claim/cut.py" 1144), (.int 581 0), (.int 2 0), (.int 0 0), (.int 0 0), (.int 3 0), (.ref 680), (.bool true), (.int 181 0), (.ref 681), .none, (.ref 682), (.ref 683), (.ref 684), (.int 1149 0), (.int 581 0), (.str "/claim/cut.py" 1150)]), #[]⟩
noncomputable def o686 (P : Params) : Obj := ⟨(.type "function"), none, (.func ⟨"run_block", "run_block", fA (st 85), .stmts (fB (st 85)), fS (st 85), 3, [], .none, .none, .none, (.str "gateloom.funcs" 1071), none, (.ref 685), .none, 0⟩), #[]⟩
noncomputable def o687 (P : Params) : Obj := ⟨(.type "tuple"), none, (.seq #[] 0), #[]⟩
noncomputable def o688 (P : Params) : Obj := ⟨.none, none, (.fields #[]), #[]⟩
noncomputable def o689 (P : Params) : Obj := ⟨(.type "tuple"), none, (.seq #[(.str "s" 1155), (.str "ctx" 1156), (.str "value" 1157), (.str "key" 1158)] 0), #[]⟩
noncomputable def o690 (P : Params) : Obj := ⟨(.type "tuple"), none, (.seq #[] 0), #[]⟩
noncomputable def o691 (P : Params) : Obj := ⟨.none, none, (.func ⟨"run_set", "run_set", fA (st 86), .stmts (fB (st 86)), fS (st 86), 0, [], .none, .none, .none, .none, none, .none, .none, 0⟩), #[]⟩
noncomputable def o692 (P : Params) : Obj := ⟨(.type "code"), none, (.fields #[(.str "run_set" 1152), (.str "run_set" 1153), (.str "/claim/cut.py" 1154), (.int 589 0), (.int 2 0), (.int 0 0), (.int 0 0), (.int 3 0), (.ref 687), (.bool true), (.int 181 0), (.ref 688), .none, (.ref 689), (.ref 690), (.ref 691), (.int 1159 0), (.int 589 0), (.str "/claim/cut.py" 1160)]), #[]⟩
noncomputable def o693 (P : Params) : Obj := ⟨(.type "function"), none, (.func ⟨"run_set", "run_set", fA (st 86), .stmts (fB (st 86)), fS (st 86), 3, [], .none, .none, .none, (.str "gateloom.funcs" 1071), none, (.ref 692), .none, 0⟩), #[]⟩
noncomputable def o694 (P : Params) : Obj := ⟨(.type "tuple"), none, (.seq #[] 0), #[]⟩
noncomputable def o695 (P : Params) : Obj := ⟨.none, none, (.fields #[]), #[]⟩
noncomputable def o696 (P : Params) : Obj := ⟨(.type "tuple"), none, (.seq #[(.str "s" 1165), (.str "ctx" 1166), (.str "value" 1167), (.str "default" 1168), (.str "labels" 1169), (.str "inner" 1170), (.str "label" 1171)] 0), #[]⟩
noncomputable def o697 (P : Params) : Obj := ⟨(.type "tuple"), none, (.seq #[] 0), #[]⟩
noncomputable def o698 (P : Params) : Obj := ⟨.none, none, (.func ⟨"run_case", "run_case", fA (st 87), .stmts (fB (st 87)), fS (st 87), 0, [], .none, .none, .none, .none, none, .none, .none, 0⟩), #[]⟩
noncomputable def o699 (P : Params) : Obj := ⟨(.type "code"), none, (.fields #[(.str "run_case" 1162), (.str "run_case" 1163), (.str "/claim/cut.py" 1164), (.int 596 0), (.int 2 0), (.int 0 0), (.int 0 0), (.int 3 0), (.ref 694), (.bool true), (.int 181 0), (.ref 695), .none, (.ref 696), (.ref 697), (.ref 698), (.int 1172 0), (.int 596 0), (.str "/claim/cut.py" 1173)]), #[]⟩
noncomputable def o700 (P : Params) : Obj := ⟨(.type "function"), none, (.func ⟨"run_case", "run_case", fA (st 87), .stmts (fB (st 87)), fS (st 87), 3, [], .none, .none, .none, (.str "gateloom.funcs" 1071), none, (.ref 699), .none, 0⟩), #[]⟩
noncomputable def o701 (P : Params) : Obj := ⟨(.type "tuple"), none, (.seq #[] 0), #[]⟩
noncomputable def o702 (P : Params) : Obj := ⟨.none, none, (.fields #[]), #[]⟩
noncomputable def o703 (P : Params) : Obj := ⟨(.type "tuple"), none, (.seq #[(.str "condition" 1178), (.str "body" 1179), (.str "step" 1180), (.str "ctx" 1181), (.str "disabled" 1182)] 0), #[]⟩
noncomputable def o704 (P : Params) : Obj := ⟨(.type "tuple"), none, (.seq #[] 0), #[]⟩
noncomputable def o705 (P : Params) : Obj := ⟨.none, none, (.func ⟨"run_while", "run_while", fA (st 88), .stmts (fB (st 88)), fS (st 88), 0, [], .none, .none, .none, .none, none, .none, .none, 0⟩), #[]⟩
noncomputable def o706 (P : Params) : Obj := ⟨(.type "code"), none, (.fields #[(.str "run_while" 1175), (.str "run_while" 1176), (.str "/claim/cut.py" 1177), (.int 607 0), (.int 4 0), (.int 0 0), (.int 0 0), (.int 3 0), (.ref 701), (.bool true), (.int 181 0), (.ref 702), .none, (.ref 703), (.ref 704), (.ref 705), (.int 1183 0), (.int 607 0), (.str "/claim/cut.py" 1184)]), #[]⟩
noncomputable def o707 (P : Params) : Obj := ⟨(.type "function"), none, (.func ⟨"run_while", "run_while", fA (st 88), .stmts (fB (st 88)), fS (st 88), 3, [], .none, .none, .none, (.str "gateloom.funcs" 1071), none, (.ref 706), .none, 0⟩), #[]⟩
noncomputable def o708 (P : Params) : Obj := ⟨(.type "tuple"), none, (.seq #[] 0), #[]⟩
noncomputable def o709 (P : Params) : Obj := ⟨.none, none, (.fields #[]), #[]⟩
noncomputable def o710 (P : Params) : Obj := ⟨(.type "tuple"), none, (.seq #[(.str "s" 1189), (.str "ctx" 1190), (.str "count" 1191), (.str "disabled" 1192)] 0), #[]⟩
noncomputable def o711 (P : Params) : Obj := ⟨(.type "tuple"), none, (.seq #[] 0), #[]⟩
noncomputable def o712 (P : Params) : Obj := ⟨.none, none, (.func ⟨"run_repeat", "run_repeat", fA (st 89), .stmts (fB (st 89)), fS (st 89), 0, [], .none, .none, .none, .none, none, .none, .none, 0⟩), #[]⟩
noncomputable def o713 (P : Params) : Obj := ⟨(.type "code"), none, (.fields #[(.str "run_repeat" 1186), (.str "run_repeat" 1187), (.str "/claim/cut.py" 1188), (.int 615 0), (.int 2 0), (.int 0 0), (.int 0 0), (.int 3 0), (.ref 708), (.bool true), (.int 181 0), (.ref 709), .none, (.ref 710), (.ref 711), (.ref 712), (.int 1193 0), (.int 615 0), (.str "/claim/cut.py" 1194)]), #[]⟩
noncomputable def o714 (P : Params) : Obj := ⟨(.type "function"), none, (.func ⟨"run_repeat", "run_repeat", fA (st 89), .stmts (fB (st 89)), fS (st 89), 3, [], .none, .none, .none, (.str "gateloom.funcs" 1071), none, (.ref 713), .none, 0⟩), #[]⟩
noncomputable def o715 (P : Params) : Obj := ⟨(.type "tuple"), none, (.seq #[] 0), #[]⟩
noncomputable def o716 (P : Params) : Obj := ⟨.none, none, (.fields #[]), #[]⟩
noncomputable def o717 (P : Params) : Obj := ⟨(.type "tuple"), none, (.seq #[(.str "s" 1199), (.str "ctx" 1200)] 0), #[]⟩
noncomputable def o718 (P : Params) : Obj := ⟨(.type "tuple"), none, (.seq #[] 0), #[]⟩
noncomputable def o719 (P : Params) : Obj := ⟨.none, none, (.func ⟨"run_for", "run_for", fA (st 90), .stmts (fB (st 90)), fS (st 90), 0, [], .none, .none, .none, .none, none, .none, .none, 0⟩), #[]⟩
noncomputable def o720 (P : Params) : Obj := ⟨(.type "code"), none, (.fields #[(.str "run_for" 1196), (.str "run_for" 1197), (.str "/claim/cut.py" 1198), (.int 626 0), (.int 2 0), (.int 0 0), (.int 0 0), (.int 3 0), (.ref 715), (.bool true), (.int 181 0), (.ref 716), .none, (.ref 717), (.ref 718), (.ref 719), (.int 1201 0), (.int 626 0), (.str "/claim/cut.py" 1202)]), #[]⟩
noncomputable def o721 (P : Params) : Obj := ⟨(.type "function"), none, (.func ⟨"run_for", "run_for", fA (st 90), .stmts (fB (st 90)), fS (st 90), 3, [], .none, .none, .none, (.str "gateloom.funcs" 1071), none, (.ref 720), .none, 0⟩), #[]⟩
noncomputable def o722 (P : Params) : Obj := ⟨(.type "tuple"), none, (.seq #[] 0), #[]⟩
noncomputable def o723 (P : Params) : Obj := ⟨.none, none, (.fields #[]), #[]⟩
noncomputable def o724 (P : Params) : Obj := ⟨(.type "tuple"), none, (.seq #[(.str "s" 1207), (.str "ctx" 1208), (.str "tag" 1209)] 0), #[]⟩
noncomputable def o725 (P : Params) : Obj := ⟨(.type "tuple"), none, (.seq #[] 0), #[]⟩
noncomputable def o726 (P : Params) : Obj := ⟨.none, none, (.func ⟨"run_statement", "run_statement", fA (st 91), .stmts (fB (st 91)), fS (st 91), 0, [], .none, .none, .none, .none, none, .none, .none, 0⟩), #[]⟩
noncomputable def o727 (P : Params) : Obj := ⟨(.type "code"), none, (.fields #[(.str "run_statement" 1204), (.str "run_statement" 1205), (.str "/claim/cut.py" 1206), (.int 629 0), (.int 2 0), (.int 0 0), (.int 0 0), (.int 3 0), (.ref 722), (.bool true), (.int 181 0), (.ref 723), .none, (.ref 724), (.ref 725), (.ref 726), (.int 1210 0), (.int 629 0), (.str "/claim/cut.py" 1211)]), #[]⟩
noncomputable def o728 (P : Params) : Obj := ⟨(.type "function"), none, (.func ⟨"run_statement", "run_statement", fA (st 91), .stmts (fB (st 91)), fS (st 91), 3, [], .none, .none, .none, (.str "gateloom.funcs" 1071), none, (.ref 727), .none, 0⟩), #[]⟩
noncomputable def o729 (P : Params) : Obj := ⟨(.type "tuple"), none, (.seq #[] 0), #[]⟩
noncomputable def o730 (P : Params) : Obj := ⟨.none, none, (.fields #[]), #[]⟩
noncomputable def o731 (P : Params) : Obj := ⟨(.type "tuple"), none, (.seq #[(.str "e" 1218), (.str "tag" 1219)] 0), #[]⟩
noncomputable def o732 (P : Params) : Obj := ⟨(.type "tuple"), none, (.seq #[] 0), #[]⟩
noncomputable def o733 (P : Params) : Obj := ⟨.none, none, (.func ⟨"children", "children", fA (st 93), .stmts (fB (st 93)), fS (st 93), 0, [], .none, .none, .none, .none, none, .none, .none, 0⟩), #[]⟩
noncomputable def o734 (P : Params) : Obj := ⟨(.type "code"), none, (.fields #[(.str "children" 1215), (.str "children" 1216), (.str "/claim/cut.py" 1217), (.int 656 0), (.int 1 0), (.int 0 0), (.int 0 0), (.int 3 0), (.ref 729), (.bool true), (.int 181 0), (.ref 730), .none, (.ref 731), (.ref 732), (.ref 733), (.int 1220 0), (.int 656 0), (.str "/claim/cut.py" 1221)]), #[]⟩
noncomputable def o735 (P : Params) : Obj := ⟨(.type "function"), none, (.func ⟨"children", "children", fA (st 93), .stmts (fB (st 93)), fS (st 93), 3, [], .none, .none, .none, (.str "gateloom.walks" 1213), none, (.ref 734), .none, 0⟩), #[]⟩
noncomputable def o736 (P : Params) : Obj := ⟨(.type "tuple"), none, (.seq #[] 0), #[]⟩
noncomputable def o737 (P : Params) : Obj := ⟨.none, none, (.fields #[]), #[]⟩
noncomputable def o738 (P : Params) : Obj := ⟨(.type "tuple"), none, (.seq #[(.str "e" 1226), (.str "found" 1227), (.str "stack" 1228), (.str "node" 1229), (.str "part" 1230)] 0), #[]⟩
noncomputable def o739 (P : Params) : Obj := ⟨(.type "tuple"), none, (.seq #[] 0), #[]⟩
noncomputable def o740 (P : Params) : Obj := ⟨.none, none, (.func ⟨"subexpressions", "subexpressions", fA (st 94), .stmts (fB (st 94)), fS (st 94), 0, [], .none, .none, .none, .none, none, .none, .none, 0⟩), #[]⟩
noncomputable def o741 (P : Params) : Obj := ⟨(.type "code"), none, (.fields #[(.str "subexpressions" 1223), (.str "subexpressions" 1224), (.str "/claim/cut.py" 1225), (.int 675 0), (.int 1 0), (.int 0 0), (.int 0 0), (.int 3 0), (.ref 736), (.bool true), (.int 181 0), (.ref 737), .none, (.ref 738), (.ref 739), (.ref 740), (.int 1231 0), (.int 675 0), (.str "/claim/cut.py" 1232)]), #[]⟩
noncomputable def o742 (P : Params) : Obj := ⟨(.type "function"), none, (.func ⟨"subexpressions", "subexpressions", fA (st 94), .stmts (fB (st 94)), fS (st 94), 3, [], .none, .none, .none, (.str "gateloom.walks" 1213), none, (.ref 741), .none, 0⟩), #[]⟩
noncomputable def o743 (P : Params) : Obj := ⟨(.type "tuple"), none, (.seq #[] 0), #[]⟩
noncomputable def o744 (P : Params) : Obj := ⟨.none, none, (.fields #[]), #[]⟩
noncomputable def o745 (P : Params) : Obj := ⟨(.type "tuple"), none, (.seq #[(.str "e" 1237), (.str "keys" 1238), (.str "node" 1239)] 0), #[]⟩
noncomputable def o746 (P : Params) : Obj := ⟨(.type "tuple"), none, (.seq #[] 0), #[]⟩
noncomputable def o747 (P : Params) : Obj := ⟨.none, none, (.func ⟨"expr_reads", "expr_reads", fA (st 95), .stmts (fB (st 95)), fS (st 95), 0, [], .none, .none, .none, .none, none, .none, .none, 0⟩), #[]⟩
noncomputable def o748 (P : Params) : Obj := ⟨(.type "code"), none, (.fields #[(.str "expr_reads" 1234), (.str "expr_reads" 1235), (.str "/claim/cut.py" 1236), (.int 684 0), (.int 1 0), (.int 0 0), (.int 0 0), (.int 3 0), (.ref 743), (.bool true), (.int 181 0), (.ref 744), .none, (.ref 745), (.ref 746), (.ref 747), (.int 1240 0), (.int 684 0), (.str "/claim/cut.py" 1241)]), #[]⟩
noncomputable def o749 (P : Params) : Obj := ⟨(.type "function"), none, (.func ⟨"expr_reads", "expr_reads", fA (st 95), .stmts (fB (st 95)), fS (st 95), 3, [], .none, .none, .none, (.str "gateloom.walks" 1213), none, (.ref 748), .none, 0⟩), #[]⟩
noncomputable def o750 (P : Params) : Obj := ⟨(.type "tuple"), none, (.seq #[] 0), #[]⟩
noncomputable def o751 (P : Params) : Obj := ⟨.none, none, (.fields #[]), #[]⟩
noncomputable def o752 (P : Params) : Obj := ⟨(.type "tuple"), none, (.seq #[(.str "e" 1246), (.str "numbers" 1247), (.str "node" 1248)] 0), #[]⟩
noncomputable def o753 (P : Params) : Obj := ⟨(.type "tuple"), none, (.seq #[] 0), #[]⟩
noncomputable def o754 (P : Params) : Obj := ⟨.none, none, (.func ⟨"expr_calls", "expr_calls", fA (st 96), .stmts (fB (st 96)), fS (st 96), 0, [], .none, .none, .none, .none, none, .none, .none, 0⟩), #[]⟩
noncomputable def o755 (P : Params) : Obj := ⟨(.type "code"), none, (.fields #[(.str "expr_calls" 1243), (.str "expr_calls" 1244), (.str "/claim/cut.py" 1245), (.int 690 0), (.int 1 0), (.int 0 0), (.int 0 0), (.int 3 0), (.ref 750), (.bool true), (.int 181 0), (.ref 751), .none, (.ref 752), (.ref 753), (.ref 754), (.int 1249 0), (.int 690 0), (.str "/claim/cut.py" 1250)]), #[]⟩
noncomputable def o756 (P : Params) : Obj := ⟨(.type "function"), none, (.func ⟨"expr_calls", "expr_calls", fA (st 96), .stmts (fB (st 96)), fS (st 96), 3, [], .none, .none, .none, (.str "gateloom.walks" 1213), none, (.ref 755), .none, 0⟩), #[]⟩
noncomputable def o757 (P : Params) : Obj := ⟨(.type "tuple"), none, (.seq #[] 0), #[]⟩
noncomputable def o758 (P : Params) : Obj := ⟨.none, none, (.fields #[]), #[]⟩
noncomputable def o759 (P : Params) : Obj := ⟨(.type "tuple"), none, (.seq #[(.str "lv" 1255), (.str "found" 1256), (.str "part" 1257)] 0), #[]⟩
noncomputable def o760 (P : Params) : Obj := ⟨(.type "tuple"), none, (.seq #[] 0), #[]⟩
noncomputable def o761 (P : Params) : Obj := ⟨.none, none, (.func ⟨"target_indexes", "target_indexes", fA (st 97), .stmts (fB (st 97)), fS (st 97), 0, [], .none, .none, .none, .none, none, .none, .none, 0⟩), #[]⟩
noncomputable def o762 (P : Params) : Obj := ⟨(.type "code"), none, (.fields #[(.str "target_indexes" 1252), (.str "target_indexes" 1253), (.str "/claim/cut.py" 1254), (.int 696 0), (.int 1 0), (.int 0 0), (.int 0 0), (.int 3 0), (.ref 757), (.bool true), (.int 181 0), (.ref 758), .none, (.ref 759), (.ref 760), (.ref 761), (.int 1258 0), (.int 696 0), (.str "/claim/cut.py" 1259)]), #[]⟩
noncomputable def o763 (P : Params) : Obj := ⟨(.type "function"), none, (.func ⟨"target_indexes", "target_indexes", fA (st 97), .stmts (fB (st 97)), fS (st 97), 3, [], .none, .none, .none, (.str "gateloom.walks" 1213), none, (.ref 762), .none, 0⟩), #[]⟩
noncomputable def o764 (P : Params) : Obj := ⟨(.type "tuple"), none, (.seq #[] 0), #[]⟩
noncomputable def o765 (P : Params) : Obj := ⟨.none, none, (.fields #[]), #[]⟩
noncomputable def o766 (P : Params) : Obj := ⟨(.type "tuple"), none, (.seq #[(.str "lv" 1264), (.str "keys" 1265), (.str "part" 1266)] 0), #[]⟩
noncomputable def o767 (P : Params) : Obj := ⟨(.type "tuple"), none, (.seq #[] 0), #[]⟩
noncomputable def o768 (P : Params) : Obj := ⟨.none, none, (.func ⟨"target_writes", "target_writes", fA (st 98), .stmts (fB (st 98)), fS (st 98), 0, [], .none, .none, .none, .none, none, .none, .none, 0⟩), #[]⟩
noncomputable def o769 (P : Params) : Obj := ⟨(.type "code"), none, (.fields #[(.str "target_writes" 1261), (.str "target_writes" 1262), (.str "/claim/cut.py" 1263), (.int 704 0), (.int 1 0), (.int 0 0), (.int 0 0), (.int 3 0), (.ref 764), (.bool true), (.int 181 0), (.ref 765), .none, (.ref 766), (.ref 767), (.ref 768), (.int 1267 0), (.int 704 0), (.str "/claim/cut.py" 1268)]), #[]⟩
noncomputable def o770 (P : Params) : Obj := ⟨(.type "function"), none, (.func ⟨"target_writes", "target_writes", fA (st 98), .stmts (fB (st 98)), fS (st 98), 3, [], .none, .none, .none, (.str "gateloom.walks" 1213), none, (.ref 769), .none, 0⟩), #[]⟩
noncomputable def o771 (P : Params) : Obj := ⟨(.type "tuple"), none, (.seq #[] 0), #[]⟩
noncomputable def o772 (P : Params) : Obj := ⟨.none, none, (.fields #[]), #[]⟩
noncomputable def o773 (P : Params) : Obj := ⟨.none, none, (.func ⟨"stmt_parts", "stmt_parts", fA (st 99), .stmts (fB (st 99)), fS (st 99), 0, [], .none, .none, .none, .none, none, .none, .none, 0⟩), #[]⟩
noncomputable def o774 (P : Params) : Obj := ⟨(.type "code"), none, (.fields #[(.str "stmt_parts" 1270), (.str "stmt_parts" 1271), (.str "/claim/cut.py" 1272), (.int 710 0), (.int 1 0), (.int 0 0), (.int 0 0), (.int 3 0), (.ref 771), (.bool true), (.int 181 0), (.ref 772), .none, .none, .none, (.ref 773), (.int 1273 0), (.int 710 0), (.str "/claim/cut.py" 1274)]), #[]⟩
noncomputable def o775 (P : Params) : Obj := ⟨(.type "function"), none, (.func ⟨"stmt_parts", "stmt_parts", fA (st 99), .stmts (fB (st 99)), fS (st 99), 3, [], .none, .none, .none, (.str "gateloom.walks" 1213), none, (.ref 774), .none, 0⟩), #[]⟩
noncomputable def o776 (P : Params) : Obj := ⟨(.type "tuple"), none, (.seq #[] 0), #[]⟩
noncomputable def o777 (P : Params) : Obj := ⟨.none, none, (.fields #[]), #[]⟩
noncomputable def o778 (P : Params) : Obj := ⟨(.type "tuple"), none, (.seq #[(.str "s" 1279), (.str "found" 1280), (.str "stack" 1281), (.str "node" 1282), (.str "part" 1283)] 0), #[]⟩
noncomputable def o779 (P : Params) : Obj := ⟨(.type "tuple"), none, (.seq #[] 0), #[]⟩
noncomputable def o780 (P : Params) : Obj := ⟨.none, none, (.func ⟨"substatements", "substatements", fA (st 100), .stmts (fB (st 100)), fS (st 100), 0, [], .none, .none, .none, .none, none, .none, .none, 0⟩), #[]⟩
noncomputable def o781 (P : Params) : Obj := ⟨(.type "code"), none, (.fields #[(.str "substatements" 1276), (.str "substatements" 1277), (.str "/claim/cut.py" 1278), (.int 728 0), (.int 1 0), (.int 0 0), (.int 0 0), (.int 3 0), (.ref 776), (.bool true), (.int 181 0), (.ref 777), .none, (.ref 778), (.ref 779), (.ref 780), (.int 1284 0), (.int 728 0), (.str "/claim/cut.py" 1285)]), #[]⟩
noncomputable def o782 (P : Params) : Obj := ⟨(.type "function"), none, (.func ⟨"substatements", "substatements", fA (st 100), .stmts (fB (st 100)), fS (st 100), 3, [], .none, .none, .none, (.str "gateloom.walks" 1213), none, (.ref 781), .none, 0⟩), #[]⟩
noncomputable def o783 (P : Params) : Obj := ⟨(.type "tuple"), none, (.seq #[] 0), #[]⟩
noncomputable def o784 (P : Params) : Obj := ⟨.none, none, (.fields #[]), #[]⟩
noncomputable def o785 (P : Params) : Obj := ⟨.none, none, (.func ⟨"stmt_targets", "stmt_targets", fA (st 101), .stmts (fB (st 101)), fS (st 101), 0, [], .none, .none, .none, .none, none, .none, .none, 0⟩), #[]⟩
noncomputable def o786 (P : Params) : Obj := ⟨(.type "code"), none, (.fields #[(.str "stmt_targets" 1287), (.str "stmt_targets" 1288), (.str "/claim/cut.py" 1289), (.int 739 0), (.int 1 0), (.int 0 0), (.int 0 0), (.int 3 0), (.ref 783), (.bool true), (.int 181 0), (.ref 784), .none, .none, .none, (.ref 785), (.int 1290 0), (.int 739 0), (.str "/claim/cut.py" 1291)]), #[]⟩
noncomputable def o787 (P : Params) : Obj := ⟨(.type "function"), none, (.func ⟨"stmt_targets", "stmt_targets", fA (st 101), .stmts (fB (st 101)), fS (st 101), 3, [], .none, .none, .none, (.str "gateloom.walks" 1213), none, (.ref 786), .none, 0⟩), #[]⟩
noncomputable def o788 (P : Params) : Obj := ⟨(.type "tuple"), none, (.seq #[] 0), #[]⟩
noncomputable def o789 (P : Params) : Obj := ⟨.none, none, (.fields #[]), #[]⟩
noncomputable def o790 (P : Params) : Obj := ⟨(.type "tuple"), none, (.seq #[(.str "s" 1296), (.str "tag" 1297), (.str "found" 1298), (.str "row" 1299), (.str "arg" 1300), (.str "lv" 1301)] 0), #[]⟩
noncomputable def o791 (P : Params) : Obj := ⟨(.type "tuple"), none, (.seq #[] 0), #[]⟩
noncomputable def o792 (P : Params) : Obj := ⟨.none, none, (.func ⟨"stmt_exprs", "stmt_exprs", fA (st 102), .stmts (fB (st 102)), fS (st 102), 0, [], .none, .none, .none, .none, none, .none, .none, 0⟩), #[]⟩
noncomputable def o793 (P : Params) : Obj := ⟨(.type "code"), none, (.fields #[(.str "stmt_exprs" 1293), (.str "stmt_exprs" 1294), (.str "/claim/cut.py" 1295), (.int 745 0), (.int 1 0), (.int 0 0), (.int 0 0), (.int 3 0), (.ref 788), (.bool true), (.int 181 0), (.ref 789), .none, (.ref 790), (.ref 791), (.ref 792), (.int 1302 0), (.int 745 0), (.str "/claim/cut.py" 1303)]), #[]⟩
noncomputable def o794 (P : Params) : Obj := ⟨(.type "function"), none, (.func ⟨"stmt_exprs", "stmt_exprs", fA (st 102), .stmts (fB (st 102)), fS (st 102), 3, [], .none, .none, .none, (.str "gateloom.walks" 1213), none, (.ref 793), .none, 0⟩), #[]⟩
noncomputable def o795 (P : Params) : Obj := ⟨(.type "tuple"), none, (.seq #[] 0), #[]⟩
noncomputable def o796 (P : Params) : Obj := ⟨.none, none, (.fields #[]), #[]⟩
noncomputable def o797 (P : Params) : Obj := ⟨(.type "tuple"), none, (.seq #[(.str "s" 1308), (.str "keys" 1309), (.str "node" 1310), (.str "e" 1311), (.str "key" 1312)] 0), #[]⟩
noncomputable def o798 (P : Params) : Obj := ⟨(.type "tuple"), none, (.seq #[] 0), #[]⟩
noncomputable def o799 (P : Params) : Obj := ⟨.none, none, (.func ⟨"stmt_reads", "stmt_reads", fA (st 103), .stmts (fB (st 103)), fS (st 103), 0, [], .none, .none, .none, .none, none, .none, .none, 0⟩), #[]⟩
noncomputable def o800 (P : Params) : Obj := ⟨(.type "code"), none, (.fields #[(.str "stmt_reads" 1305), (.str "stmt_reads" 1306), (.str "/claim/cut.py" 1307), (.int 770 0), (.int 1 0), (.int 0 0), (.int 0 0), (.int 3 0), (.ref 795), (.bool true), (.int 181 0), (.ref 796), .none, (.ref 797), (.ref 798), (.ref 799), (.int 1313 0), (.int 770 0), (.str "/claim/cut.py" 1314)]), #[]⟩
noncomputable def o801 (P : Params) : Obj := ⟨(.type "function"), none, (.func ⟨"stmt_reads", "stmt_reads", fA (st 103), .stmts (fB (st 103)), fS (st 103), 3, [], .none, .none, .none, (.str "gateloom.walks" 1213), none, (.ref 800), .none, 0⟩), #[]⟩
noncomputable def o802 (P : Params) : Obj := ⟨(.type "tuple"), none, (.seq #[] 0), #[]⟩
noncomputable def o803 (P : Params) : Obj := ⟨.none, none, (.fields #[]), #[]⟩
noncomputable def o804 (P : Params) : Obj := ⟨(.type "tuple"), none, (.seq #[(.str "s" 1319), (.str "keys" 1320), (.str "node" 1321), (.str "lv" 1322), (.str "key" 1323)] 0), #[]⟩
noncomputable def o805 (P : Params) : Obj := ⟨(.type "tuple"), none, (.seq #[] 0), #[]⟩
noncomputable def o806 (P : Params) : Obj := ⟨.none, none, (.func ⟨"stmt_writes", "stmt_writes", fA (st 104), .stmts (fB (st 104)), fS (st 104), 0, [], .none, .none, .none, .none, none, .none, .none, 0⟩), #[]⟩
noncomputable def o807 (P : Params) : Obj := ⟨(.type "code"), none, (.fields #[(.str "stmt_writes" 1316), (.str "stmt_writes" 1317), (.str "/claim/cut.py" 1318), (.int 777 0), (.int 1 0), (.int 0 0), (.int 0 0), (.int 3 0), (.ref 802), (.bool true), (.int 181 0), (.ref 803), .none, (.ref 804), (.ref 805), (.ref 806), (.int 1324 0), (.int 777 0), (.str "/claim/cut.py" 1325)]), #[]⟩
noncomputable def o808 (P : Params) : Obj := ⟨(.type "function"), none, (.func ⟨"stmt_writes", "stmt_writes", fA (st 104), .stmts (fB (st 104)), fS (st 104), 3, [], .none, .none, .none, (.str "gateloom.walks" 1213), none, (.ref 807), .none, 0⟩), #[]⟩
noncomputable def o809 (P : Params) : Obj := ⟨(.type "tuple"), none, (.seq #[] 0), #[]⟩
noncomputable def o810 (P : Params) : Obj := ⟨.none, none, (.fields #[]), #[]⟩
noncomputable def o811 (P : Params) : Obj := ⟨(.type "tuple"), none, (.seq #[(.str "s" 1330), (.str "numbers" 1331), (.str "node" 1332), (.str "e" 1333), (.str "number" 1334)] 0), #[]⟩
noncomputable def o812 (P : Params) : Obj := ⟨(.type "tuple"), none, (.seq #[] 0), #[]⟩
noncomputable def o813 (P : Params) : Obj := ⟨.none, none, (.func ⟨"stmt_calls", "stmt_calls", fA (st 105), .stmts (fB (st 105)), fS (st 105), 0, [], .none, .none, .none, .none, none, .none, .none, 0⟩), #[]⟩
noncomputable def o814 (P : Params) : Obj := ⟨(.type "code"), none, (.fields #[(.str "stmt_calls" 1327), (.str "stmt_calls" 1328), (.str "/claim/cut.py" 1329), (.int 784 0), (.int 1 0), (.int 0 0), (.int 0 0), (.int 3 0), (.ref 809), (.bool true), (.int 181 0), (.ref 810), .none, (.ref 811), (.ref 812), (.ref 813), (.int 1335 0), (.int 784 0), (.str "/claim/cut.py" 1336)]), #[]⟩
noncomputable def o815 (P : Params) : Obj := ⟨(.type "function"), none, (.func ⟨"stmt_calls", "stmt_calls", fA (st 105), .stmts (fB (st 105)), fS (st 105), 3, [], .none, .none, .none, (.str "gateloom.walks" 1213), none, (.ref 814), .none, 0⟩), #[]⟩
noncomputable def o816 (P : Params) : Obj := ⟨(.type "tuple"), none, (.seq #[] 0), #[]⟩
noncomputable def o817 (P : Params) : Obj := ⟨.none, none, (.fields #[]), #[]⟩
noncomputable def o818 (P : Params) : Obj := ⟨(.type "tuple"), none, (.seq #[(.str "e" 1345), (.str "name" 1346), (.str "index" 1347)] 0), #[]⟩
noncomputable def o819 (P : Params) : Obj := ⟨(.type "tuple"), none, (.seq #[] 0), #[]⟩
noncomputable def o820 (P : Params) : Obj := ⟨.none, none, (.func ⟨"last_select", "last_select", fA (st 108), .stmts (fB (st 108)), fS (st 108), 0, [], .none, .none, .none, .none, none, .none, .none, 0⟩), #[]⟩
noncomputable def o821 (P : Params) : Obj := ⟨(.type "code"), none, (.fields #[(.str "last_select" 1342), (.str "last_select" 1343), (.str "/claim/cut.py" 1344), (.int 795 0), (.int 1 0), (.int 0 0), (.int 0 0), (.int 3 0), (.ref 816), (.bool true), (.int 181 0), (.ref 817), .none, (.ref 818), (.ref 819), (.ref 820), (.int 1348 0), (.int 795 0), (.str "/claim/cut.py" 1349)]), #[]⟩
noncomputable def o822 (P : Params) : Obj := ⟨(.type "function"), none, (.func ⟨"last_select", "last_select", fA (st 108), .stmts (fB (st 108)), fS (st 108), 3, [], .none, .none, .none, (.str "gateloom.elabparts" 1338), none, (.ref 821), .none, 0⟩), #[]⟩
noncomputable def o823 (P : Params) : Obj := ⟨(.type "tuple"), none, (.seq #[] 0), #[]⟩
noncomputable def o824 (P : Params) : Obj := ⟨.none, none, (.fields #[]), #[]⟩
noncomputable def o825 (P : Params) : Obj := ⟨(.type "tuple"), none, (.seq #[(.str "scope" 1354), (.str "entry" 1355)] 0), #[]⟩
noncomputable def o826 (P : Params) : Obj := ⟨(.type "tuple"), none, (.seq #[] 0), #[]⟩
noncomputable def o827 (P : Params) : Obj := ⟨.none, none, (.func ⟨"is_memory", "is_memory", fA (st 109), .stmts (fB (st 109)), fS (st 109), 0, [], .none, .none, .none, .none, none, .none, .none, 0⟩), #[]⟩
noncomputable def o828 (P : Params) : Obj := ⟨(.type "code"), none, (.fields #[(.str "is_memory" 1351), (.str "is_memory" 1352), (.str "/claim/cut.py" 1353), (.int 800 0), (.int 2 0), (.int 0 0), (.int 0 0), (.int 3 0), (.ref 823), (.bool true), (.int 181 0), (.ref 824), .none, (.ref 825), (.ref 826), (.ref 827), (.int 1356 0), (.int 800 0), (.str "/claim/cut.py" 1357)]), #[]⟩
noncomputable def o829 (P : Params) : Obj := ⟨(.type "function"), none, (.func ⟨"is_memory", "is_memory", fA (st 109), .stmts (fB (st 109)), fS (st 109), 3, [], .none, .none, .none, (.str "gateloom.elabparts" 1338), none, (.ref 828), .none, 0⟩), #[]⟩
noncomputable def o830 (P : Params) : Obj := ⟨(.type "tuple"), none, (.seq #[] 0), #[]⟩
noncomputable def o831 (P : Params) : Obj := ⟨.none, none, (.fields #[]), #[]⟩
noncomputable def o832 (P : Params) : Obj := ⟨(.type "tuple"), none, (.seq #[(.str "scope" 1362), (.str "entry" 1363), (.str "at" 1364), (.str "signal" 1365)] 0), #[]⟩
noncomputable def o833 (P : Params) : Obj := ⟨(.type "tuple"), none, (.seq #[] 0), #[]⟩
noncomputable def o834 (P : Params) : Obj := ⟨.none, none, (.func ⟨"shape", "shape", fA (st 110), .stmts (fB (st 110)), fS (st 110), 0, [], .none, .none, .none, .none, none, .none, .none, 0⟩), #[]⟩
noncomputable def o835 (P : Params) : Obj := ⟨(.type "code"), none, (.fields #[(.str "shape" 1359), (.str "shape" 1360), (.str "/claim/cut.py" 1361), (.int 802 0), (.int 3 0), (.int 0 0), (.int 0 0), (.int 3 0), (.ref 830), (.bool true), (.int 181 0), (.ref 831), .none, (.ref 832), (.ref 833), (.ref 834), (.int 1366 0), (.int 802 0), (.str "/claim/cut.py" 1367)]), #[]⟩
noncomputable def o836 (P : Params) : Obj := ⟨(.type "function"), none, (.func ⟨"shape", "shape", fA (st 110), .stmts (fB (st 110)), fS (st 110), 3, [], .none, .none, .none, (.str "gateloom.elabparts" 1338), none, (.ref 835), .none, 0⟩), #[]⟩
noncomputable def o837 (P : Params) : Obj := ⟨(.type "tuple"), none, (.seq #[] 0), #[]⟩
noncomputable def o838 (P : Params) : Obj := ⟨.none, none, (.fields #[]), #[]⟩
noncomputable def o839 (P : Params) : Obj := ⟨(.type "tuple"), none, (.seq #[(.str "scope" 1372), (.str "entry" 1373), (.str "word" 1374), (.str "width" 1375)] 0), #[]⟩
noncomputable def o840 (P : Params) : Obj := ⟨(.type "tuple"), none, (.seq #[] 0), #[]⟩
noncomputable def o841 (P : Params) : Obj := ⟨.none, none, (.func ⟨"read_entry", "read_entry", fA (st 111), .stmts (fB (st 111)), fS (st 111), 0, [], .none, .none, .none, .none, none, .none, .none, 0⟩), #[]⟩
noncomputable def o842 (P : Params) : Obj := ⟨(.type "code"), none, (.fields #[(.str "read_entry" 1369), (.str "read_entry" 1370), (.str "/claim/cut.py" 1371), (.int 819 0), (.int 3 0), (.int 0 0), (.int 0 0), (.int 3 0), (.ref 837), (.bool true), (.int 181 0), (.ref 838), .none, (.ref 839), (.ref 840), (.ref 841), (.int 1376 0), (.int 819 0), (.str "/claim/cut.py" 1377)]), #[]⟩
noncomputable def o843 (P : Params) : Obj := ⟨(.type "function"), none, (.func ⟨"read_entry", "read_entry", fA (st 111), .stmts (fB (st 111)), fS (st 111), 3, [], .none, .none, .none, (.str "gateloom.elabparts" 1338), none, (.ref 842), .none, 0⟩), #[]⟩
noncomputable def o844 (P : Params) : Obj := ⟨(.type "tuple"), none, (.seq #[] 0), #[]⟩
noncomputable def o845 (P : Params) : Obj := ⟨.none, none, (.fields #[]), #[]⟩
noncomputable def o846 (P : Params) : Obj := ⟨(.type "tuple"), none, (.seq #[(.str "e" 1382)] 0), #[]⟩
noncomputable def o847 (P : Params) : Obj := ⟨(.type "tuple"), none, (.seq #[] 0), #[]⟩
noncomputable def o848 (P : Params) : Obj := ⟨.none, none, (.func ⟨"folds", "folds", fA (st 112), .stmts (fB (st 112)), fS (st 112), 0, [], .none, .none, .none, .none, none, .none, .none, 0⟩), #[]⟩
noncomputable def o849 (P : Params) : Obj := ⟨(.type "code"), none, (.fields #[(.str "folds" 1379), (.str "folds" 1380), (.str "/claim/cut.py" 1381), (.int 830 0), (.int 1 0), (.int 0 0), (.int 0 0), (.int 3 0), (.ref 844), (.bool true), (.int 181 0), (.ref 845), .none, (.ref 846), (.ref 847), (.ref 848), (.int 1383 0), (.int 830 0), (.str "/claim/cut.py" 1384)]), #[]⟩
noncomputable def o850 (P : Params) : Obj := ⟨(.type "function"), none, (.func ⟨"folds", "folds", fA (st 112), .stmts (fB (st 112)), fS (st 112), 3, [], .none, .none, .none, (.str "gateloom.elabparts" 1338), none, (.ref 849), .none, 0⟩), #[]⟩
noncomputable def o851 (P : Params) : Obj := ⟨(.type "tuple"), none, (.seq #[] 0), #[]⟩
noncomputable def o852 (P : Params) : Obj := ⟨.none, none, (.fields #[]), #[]⟩
noncomputable def o853 (P : Params) : Obj := ⟨(.type "tuple"), none, (.seq #[(.str "e" 1389), (.str "part" 1390)] 0), #[]⟩
noncomputable def o854 (P : Params) : Obj := ⟨(.type "tuple"), none, (.seq #[] 0), #[]⟩
noncomputable def o855 (P : Params) : Obj := ⟨.none, none, (.func ⟨"folded", "folded", fA (st 113), .stmts (fB (st 113)), fS (st 113), 0, [], .none, .none, .none, .none, none, .none, .none, 0⟩), #[]⟩
noncomputable def o856 (P : Params) : Obj := ⟨(.type "code"), none, (.fields #[(.str "folded" 1386), (.str "folded" 1387), (.str "/claim/cut.py" 1388), (.int 834 0), (.int 1 0), (.int 0 0), (.int 0 0), (.int 3 0), (.ref 851), (.bool true), (.int 181 0), (.ref 852), .none, (.ref 853), (.ref 854), (.ref 855), (.int 1391 0), (.int 834 0), (.str "/claim/cut.py" 1392)]), #[]⟩
noncomputable def o857 (P : Params) : Obj := ⟨(.type "function"), none, (.func ⟨"folded", "folded", fA (st 113), .stmts (fB (st 113)), fS (st 113), 3, [], .none, .none, .none, (.str "gateloom.elabparts" 1338), none, (.ref 856), .none, 0⟩), #[]⟩
noncomputable def o858 (P : Params) : Obj := ⟨(.type "tuple"), none, (.seq #[] 0), #[]⟩
noncomputable def o859 (P : Params) : Obj := ⟨.none, none, (.fields #[]), #[]⟩
noncomputable def o860 (P : Params) : Obj := ⟨(.type "tuple"), none, (.seq #[(.str "width" 1397), (.str "at" 1398)] 0), #[]⟩
noncomputable def o861 (P : Params) : Obj := ⟨(.type "tuple"), none, (.seq #[] 0), #[]⟩
noncomputable def o862 (P : Params) : Obj := ⟨.none, none, (.func ⟨"checked_width", "checked_width", fA (st 114), .stmts (fB (st 114)), fS (st 114), 0, [], .none, .none, .none, .none, none, .none, .none, 0⟩), #[]⟩
noncomputable def o863 (P : Params) : Obj := ⟨(.type "code"), none, (.fields #[(.str "checked_width" 1394), (.str "checked_width" 1395), (.str "/claim/cut.py" 1396), (.int 841 0), (.int 2 0), (.int 0 0), (.int 0 0), (.int 3 0), (.ref 858), (.bool true), (.int 181 0), (.ref 859), .none, (.ref 860), (.ref 861), (.ref 862), (.int 1399 0), (.int 841 0), (.str "/claim/cut.py" 1400)]), #[]⟩
noncomputable def o864 (P : Params) : Obj := ⟨(.type "function"), none, (.func ⟨"checked_width", "checked_width", fA (st 114), .stmts (fB (st 114)), fS (st 114), 3, [], .none, .none, .none, (.str "gateloom.elabparts" 1338), none, (.ref 863), .none, 0⟩), #[]⟩
noncomputable def o865 (P : Params) : Obj := ⟨(.type "tuple"), none, (.seq #[] 0), #[]⟩
noncomputable def o866 (P : Params) : Obj := ⟨.none, none, (.fields #[]), #[]⟩
noncomputable def o867 (P : Params) : Obj := ⟨(.type "tuple"), none, (.seq #[(.str "value" 1405), (.str "width" 1406), (.str "where" 1407)] 0), #[]⟩
noncomputable def o868 (P : Params) : Obj := ⟨(.type "tuple"), none, (.seq #[] 0), #[]⟩
noncomputable def o869 (P : Params) : Obj := ⟨.none, none, (.func ⟨"selected", "selected", fA (st 115), .stmts (fB (st 115)), fS (st 115), 0, [], .none, .none, .none, .none, none, .none, .none, 0⟩), #[]⟩
noncomputable def o870 (P : Params) : Obj := ⟨(.type "code"), none, (.fields #[(.str "selected" 1402), (.str "selected" 1403), (.str "/claim/cut.py" 1404), (.int 847 0), (.int 3 0), (.int 0 0), (.int 0 0), (.int 3 0), (.ref 865), (.bool true), (.int 181 0), (.ref 866), .none, (.ref 867), (.ref 868), (.ref 869), (.int 1408 0), (.int 847 0), (.str "/claim/cut.py" 1409)]), #[]⟩
noncomputable def o871 (P : Params) : Obj := ⟨(.type "function"), none, (.func ⟨"selected", "selected", fA (st 115), .stmts (fB (st 115)), fS (st 115), 3, [], .none, .none, .none, (.str "gateloom.elabparts" 1338), none, (.ref 870), .none, 0⟩), #[]⟩
noncomputable def o872 (P : Params) : Obj := ⟨(.type "tuple"), none, (.seq #[] 0), #[]⟩
noncomputable def o873 (P : Params) : Obj := ⟨.none, none, (.fields #[]), #[]⟩
noncomputable def o874 (P : Params) : Obj := ⟨(.type "tuple"), none, (.seq #[(.str "text" 1414), (.str "value" 1415), (.str "sign" 1416)] 0), #[]⟩
noncomputable def o875 (P : Params) : Obj := ⟨(.type "tuple"), none, (.seq #[] 0), #[]⟩
noncomputable def o876 (P : Params) : Obj := ⟨.none, none, (.func ⟨"text_vec", "text_vec", fA (st 116), .stmts (fB (st 116)), fS (st 116), 0, [], .none, .none, .none, .none, none, .none, .none, 0⟩), #[]⟩
noncomputable def o877 (P : Params) : Obj := ⟨(.type "code"), none, (.fields #[(.str "text_vec" 1411), (.str "text_vec" 1412), (.str "/claim/cut.py" 1413), (.int 851 0), (.int 1 0), (.int 0 0), (.int 0 0), (.int 3 0), (.ref 872), (.bool true), (.int 181 0), (.ref 873), .none, (.ref 874), (.ref 875), (.ref 876), (.int 1417 0), (.int 851 0), (.str "/claim/cut.py" 1418)]), #[]⟩
noncomputable def o878 (P : Params) : Obj := ⟨(.type "function"), none, (.func ⟨"text_vec", "text_vec", fA (st 116), .stmts (fB (st 116)), fS (st 116), 3, [], .none, .none, .none, (.str "gateloom.elabparts" 1338), none, (.ref 877), .none, 0⟩), #[]⟩
noncomputable def o879 (P : Params) : Obj := ⟨(.type "tuple"), none, (.seq #[] 0), #[]⟩
noncomputable def o880 (P : Params) : Obj := ⟨.none, none, (.fields #[]), #[]⟩
noncomputable def o881 (P : Params) : Obj := ⟨(.type "tuple"), none, (.seq #[(.str "e" 1423)] 0), #[]⟩
noncomputable def o882 (P : Params) : Obj := ⟨(.type "tuple"), none, (.seq #[] 0), #[]⟩
noncomputable def o883 (P : Params) : Obj := ⟨.none, none, (.func ⟨"inner_join", "inner_join", fA (st 117), .stmts (fB (st 117)), fS (st 117), 0, [], .none, .none, .none, .none, none, .none, .none, 0⟩), #[]⟩
noncomputable def o884 (P : Params) : Obj := ⟨(.type "code"), none, (.fields #[(.str "inner_join" 1420), (.str "inner_join" 1421), (.str "/claim/cut.py" 1422), (.int 856 0), (.int 1 0), (.int 0 0), (.int 0 0), (.int 3 0), (.ref 879), (.bool true), (.int 181 0), (.ref 880), .none, (.ref 881), (.ref 882), (.ref 883), (.int 1424 0), (.int 856 0), (.str "/claim/cut.py" 1425)]), #[]⟩
noncomputable def o885 (P : Params) : Obj := ⟨(.type "function"), none, (.func ⟨"inner_join", "inner_join", fA (st 117), .stmts (fB (st 117)), fS (st 117), 3, [], .none, .none, .none, (.str "gateloom.elabparts" 1338), none, (.ref 884), .none, 0⟩), #[]⟩
noncomputable def o886 (P : Params) : Obj := ⟨(.type "tuple"), none, (.seq #[] 0), #[]⟩
noncomputable def o887 (P : Params) : Obj := ⟨.none, none, (.fields #[]), #[]⟩
noncomputable def o888 (P : Params) : Obj := ⟨(.type "tuple"), none, (.seq #[(.str "op" 1430)] 0), #[]⟩
noncomputable def o889 (P : Params) : Obj := ⟨(.type "tuple"), none, (.seq #[] 0), #[]⟩
noncomputable def o890 (P : Params) : Obj := ⟨.none, none, (.func ⟨"is_context_operator", "is_context_operator", fA (st 118), .stmts (fB (st 118)), fS (st 118), 0, [], .none, .none, .none, .none, none, .none, .none, 0⟩), #[]⟩
noncomputable def o891 (P : Params) : Obj := ⟨(.type "code"), none, (.fields #[(.str "is_context_operator" 1427), (.str "is_context_operator" 1428), (.str "/claim/cut.py" 1429), (.int 858 0), (.int 1 0), (.int 0 0), (.int 0 0), (.int 3 0), (.ref 886), (.bool true), (.int 181 0), (.ref 887), .none, (.ref 888), (.ref 889), (.ref 890), (.int 1431 0), (.int 858 0), (.str "/claim/cut.py" 1432)]), #[]⟩
noncomputable def o892 (P : Params) : Obj := ⟨(.type "function"), none, (.func ⟨"is_context_operator", "is_context_operator", fA (st 118), .stmts (fB (st 118)), fS (st 118), 3, [], .none, .none, .none, (.str "gateloom.elabparts" 1338), none, (.ref 891), .none, 0⟩), #[]⟩
noncomputable def o893 (P : Params) : Obj := ⟨(.type "tuple"), none, (.seq #[] 0), #[]⟩
noncomputable def o894 (P : Params) : Obj := ⟨.none, none, (.fields #[]), #[]⟩
noncomputable def o895 (P : Params) : Obj := ⟨(.type "tuple"), none, (.seq #[(.str "op" 1437)] 0), #[]⟩
noncomputable def o896 (P : Params) : Obj := ⟨(.type "tuple"), none, (.seq #[] 0), #[]⟩
noncomputable def o897 (P : Params) : Obj := ⟨.none, none, (.func ⟨"is_shift", "is_shift", fA (st 119), .stmts (fB (st 119)), fS (st 119), 0, [], .none, .none, .none, .none, none, .none, .none, 0⟩), #[]⟩
noncomputable def o898 (P : Params) : Obj := ⟨(.type "code"), none, (.fields #[(.str "is_shift" 1434), (.str "is_shift" 1435), (.str "/claim/cut.py" 1436), (.int 860 0), (.int 1 0), (.int 0 0), (.int 0 0), (.int 3 0), (.ref 893), (.bool true), (.int 181 0), (.ref 894), .none, (.ref 895), (.ref 896), (.ref 897), (.int 1438 0), (.int 860 0), (.str "/claim/cut.py" 1439)]), #[]⟩
noncomputable def o899 (P : Params) : Obj := ⟨(.type "function"), none, (.func ⟨"is_shift", "is_shift", fA (st 119), .stmts (fB (st 119)), fS (st 119), 3, [], .none, .none, .none, (.str "gateloom.elabparts" 1338), none, (.ref 898), .none, 0⟩), #[]⟩
noncomputable def o900 (P : Params) : Obj := ⟨(.type "tuple"), none, (.seq #[] 0), #[]⟩
noncomputable def o901 (P : Params) : Obj := ⟨.none, none, (.fields #[]), #[]⟩
noncomputable def o902 (P : Params) : Obj := ⟨(.type "tuple"), none, (.seq #[(.str "value" 1444), (.str "w" 1445), (.str "signed" 1446)] 0), #[]⟩
noncomputable def o903 (P : Params) : Obj := ⟨(.type "tuple"), none, (.seq #[] 0), #[]⟩
noncomputable def o904 (P : Params) : Obj := ⟨.none, none, (.func ⟨"widen", "widen", fA (st 120), .stmts (fB (st 120)), fS (st 120), 0, [], .none, .none, .none, .none, none, .none, .none, 0⟩), #[]⟩
noncomputable def o905 (P : Params) : Obj := ⟨(.type "code"), none, (.fields #[(.str "widen" 1441), (.str "widen" 1442), (.str "/claim/cut.py" 1443), (.int 862 0), (.int 3 0), (.int 0 0), (.int 0 0), (.int 3 0), (.ref 900), (.bool true), (.int 181 0), (.ref 901), .none, (.ref 902), (.ref 903), (.ref 904), (.int 1447 0), (.int 862 0), (.str "/claim/cut.py" 1448)]), #[]⟩
noncomputable def o906 (P : Params) : Obj := ⟨(.type "function"), none, (.func ⟨"widen", "widen", fA (st 120), .stmts (fB (st 120)), fS (st 120), 3, [], .none, .none, .none, (.str "gateloom.elabparts" 1338), none, (.ref 905), .none, 0⟩), #[]⟩
noncomputable def o907 (P : Params) : Obj := ⟨(.type "tuple"), none, (.seq #[] 0), #[]⟩
noncomputable def o908 (P : Params) : Obj := ⟨.none, none, (.fields #[]), #[]⟩
noncomputable def o909 (P : Params) : Obj := ⟨(.type "tuple"), none, (.seq #[(.str "e" 1453), (.str "w" 1454), (.str "signed" 1455), (.str "number" 1456), (.str "fill" 1457)] 0), #[]⟩
noncomputable def o910 (P : Params) : Obj := ⟨(.type "tuple"), none, (.seq #[] 0), #[]⟩
noncomputable def o911 (P : Params) : Obj := ⟨.none, none, (.func ⟨"number_value", "number_value", fA (st 121), .stmts (fB (st 121)), fS (st 121), 0, [], .none, .none, .none, .none, none, .none, .none, 0⟩), #[]⟩
noncomputable def o912 (P : Params) : Obj := ⟨(.type "code"), none, (.fields #[(.str "number_value" 1450), (.str "number_value" 1451), (.str "/claim/cut.py" 1452), (.int 866 0), (.int 3 0), (.int 0 0), (.int 0 0), (.int 3 0), (.ref 907), (.bool true), (.int 181 0), (.ref 908), .none, (.ref 909), (.ref 910), (.ref 911), (.int 1458 0), (.int 866 0), (.str "/claim/cut.py" 1459)]), #[]⟩
noncomputable def o913 (P : Params) : Obj := ⟨(.type "function"), none, (.func ⟨"number_value", "number_value", fA (st 121), .stmts (fB (st 121)), fS (st 121), 3, [], .none, .none, .none, (.str "gateloom.elabparts" 1338), none, (.ref 912), .none, 0⟩), #[]⟩
noncomputable def o914 (P : Params) : Obj := ⟨(.type "tuple"), none, (.seq #[] 0), #[]⟩
noncomputable def o915 (P : Params) : Obj := ⟨.none, none, (.fields #[]), #[]⟩
noncomputable def o916 (P : Params) : Obj := ⟨(.type "tuple"), none, (.seq #[(.str "node" 1464)] 0), #[]⟩
noncomputable def o917 (P : Params) : Obj := ⟨(.type "tuple"), none, (.seq #[] 0), #[]⟩
noncomputable def o918 (P : Params) : Obj := ⟨.none, none, (.func ⟨"is_changing", "is_changing", fA (st 122), .stmts (fB (st 122)), fS (st 122), 0, [], .none, .none, .none, .none, none, .none, .none, 0⟩), #[]⟩
noncomputable def o919 (P : Params) : Obj := ⟨(.type "code"), none, (.fields #[(.str "is_changing" 1461), (.str "is_changing" 1462), (.str "/claim/cut.py" 1463), (.int 870 0), (.int 1 0), (.int 0 0), (.int 0 0), (.int 3 0), (.ref 914), (.bool true), (.int 181 0), (.ref 915), .none, (.ref 916), (.ref 917), (.ref 918), (.int 1465 0), (.int 870 0), (.str "/claim/cut.py" 1466)]), #[]⟩
noncomputable def o920 (P : Params) : Obj := ⟨(.type "function"), none, (.func ⟨"is_changing", "is_changing", fA (st 122), .stmts (fB (st 122)), fS (st 122), 3, [], .none, .none, .none, (.str "gateloom.elabparts" 1338), none, (.ref 919), .none, 0⟩), #[]⟩
noncomputable def o921 (P : Params) : Obj := ⟨(.type "tuple"), none, (.seq #[] 0), #[]⟩
noncomputable def o922 (P : Params) : Obj := ⟨.none, none, (.fields #[]), #[]⟩
noncomputable def o923 (P : Params) : Obj := ⟨(.type "tuple"), none, (.seq #[(.str "body" 1471), (.str "s" 1472), (.str "e" 1473), (.str "node" 1474)] 0), #[]⟩
noncomputable def o924 (P : Params) : Obj := ⟨(.type "tuple"), none, (.seq #[] 0), #[]⟩
noncomputable def o925 (P : Params) : Obj := ⟨.none, none, (.func ⟨"asks_system", "asks_system", fA (st 123), .stmts (fB (st 123)), fS (st 123), 0, [], .none, .none, .none, .none, none, .none, .none, 0⟩), #[]⟩
noncomputable def o926 (P : Params) : Obj := ⟨(.type "code"), none, (.fields #[(.str "asks_system" 1468), (.str "asks_system" 1469), (.str "/claim/cut.py" 1470), (.int 872 0), (.int 1 0), (.int 0 0), (.int 0 0), (.int 3 0), (.ref 921), (.bool true), (.int 181 0), (.ref 922), .none, (.ref 923), (.ref 924), (.ref 925), (.int 1475 0), (.int 872 0), (.str "/claim/cut.py" 1476)]), #[]⟩
noncomputable def o927 (P : Params) : Obj := ⟨(.type "function"), none, (.func ⟨"asks_system", "asks_system", fA (st 123), .stmts (fB (st 123)), fS (st 123), 3, [], .none, .none, .none, (.str "gateloom.elabparts" 1338), none, (.ref 926), .none, 0⟩), #[]⟩
noncomputable def o928 (P : Params) : Obj := ⟨(.type "tuple"), none, (.seq #[] 0), #[]⟩
noncomputable def o929 (P : Params) : Obj := ⟨.none, none, (.fields #[]), #[]⟩
noncomputable def o930 (P : Params) : Obj := ⟨(.type "tuple"), none, (.seq #[(.str "design" 1481), (.str "e" 1482), (.str "node" 1483), (.str "numbers" 1484), (.str "seen" 1485), (.str "n" 1486), (.str "body" 1487)] 0), #[]⟩
noncomputable def o931 (P : Params) : Obj := ⟨(.type "tuple"), none, (.seq #[] 0), #[]⟩
noncomputable def o932 (P : Params) : Obj := ⟨.none, none, (.func ⟨"is_constant", "is_constant", fA (st 124), .stmts (fB (st 124)), fS (st 124), 0, [], .none, .none, .none, .none, none, .none, .none, 0⟩), #[]⟩
noncomputable def o933 (P : Params) : Obj := ⟨(.type "code"), none, (.fields #[(.str "is_constant" 1478), (.str "is_constant" 1479), (.str "/claim/cut.py" 1480), (.int 879 0), (.int 2 0), (.int 0 0), (.int 0 0), (.int 3 0), (.ref 928), (.bool true), (.int 181 0), (.ref 929), .none, (.ref 930), (.ref 931), (.ref 932), (.int 1488 0), (.int 879 0), (.str "/claim/cut.py" 1489)]), #[]⟩
noncomputable def o934 (P : Params) : Obj := ⟨(.type "function"), none, (.func ⟨"is_constant", "is_constant", fA (st 124), .stmts (fB (st 124)), fS (st 124), 3, [], .none, .none, .none, (.str "gateloom.elabparts" 1338), none, (.ref 933), .none, 0⟩), #[]⟩
noncomputable def o935 (P : Params) : Obj := ⟨(.type "tuple"), none, (.seq #[] 0), #[]⟩
noncomputable def o936 (P : Params) : Obj := ⟨.none, none, (.fields #[]), #[]⟩
noncomputable def o937 (P : Params) : Obj := ⟨(.type "tuple"), none, (.seq #[(.str "scope" 1498), (.str "e" 1499), (.str "names" 1500), (.str "name" 1501), (.str "index" 1502)] 0), #[]⟩
noncomputable def o938 (P : Params) : Obj := ⟨(.type "tuple"), none, (.seq #[] 0), #[]⟩
noncomputable def o939 (P : Params) : Obj := ⟨.none, none, (.func ⟨"path_names", "path_names", fA (st 127), .stmts (fB (st 127)), fS (st 127), 0, [], .none, .none, .none, .none, none, .none, .none, 0⟩), #[]⟩
noncomputable def o940 (P : Params) : Obj := ⟨(.type "code"), none, (.fields #[(.str "path_names" 1495), (.str "path_names" 1496), (.str "/claim/cut.py" 1497), (.int 898 0), (.int 2 0), (.int 0 0), (.int 0 0), (.int 3 0), (.ref 935), (.bool true), (.int 181 0), (.ref 936), .none, (.ref 937), (.ref 938), (.ref 939), (.int 1503 0), (.int 898 0), (.str "/claim/cut.py" 1504)]), #[]⟩
noncomputable def o941 (P : Params) : Obj := ⟨(.type "function"), none, (.func ⟨"path_names", "path_names", fA (st 127), .stmts (fB (st 127)), fS (st 127), 3, [], .none, .none, .none, (.str "gateloom.elabexpr" 1491), none, (.ref 940), .none, 0⟩), #[]⟩
noncomputable def o942 (P : Params) : Obj := ⟨(.type "tuple"), none, (.seq #[] 0), #[]⟩
noncomputable def o943 (P : Params) : Obj := ⟨.none, none, (.fields #[]), #[]⟩
noncomputable def o944 (P : Params) : Obj := ⟨(.type "tuple"), none, (.seq #[(.str "scope" 1509), (.str "e" 1510), (.str "entry" 1511)] 0), #[]⟩
noncomputable def o945 (P : Params) : Obj := ⟨(.type "tuple"), none, (.seq #[] 0), #[]⟩
noncomputable def o946 (P : Params) : Obj := ⟨.none, none, (.func ⟨"entry_of", "entry_of", fA (st 128), .stmts (fB (st 128)), fS (st 128), 0, [], .none, .none, .none, .none, none, .none, .none, 0⟩), #[]⟩
noncomputable def o947 (P : Params) : Obj := ⟨(.type "code"), none, (.fields #[(.str "entry_of" 1506), (.str "entry_of" 1507), (.str "/claim/cut.py" 1508), (.int 905 0), (.int 2 0), (.int 0 0), (.int 0 0), (.int 3 0), (.ref 942), (.bool true), (.int 181 0), (.ref 943), .none, (.ref 944), (.ref 945), (.ref 946), (.int 1512 0), (.int 905 0), (.str "/claim/cut.py" 1513)]), #[]⟩
noncomputable def o948 (P : Params) : Obj := ⟨(.type "function"), none, (.func ⟨"entry_of", "entry_of", fA (st 128), .stmts (fB (st 128)), fS (st 128), 3, [], .none, .none, .none, (.str "gateloom.elabexpr" 1491), none, (.ref 947), .none, 0⟩), #[]⟩
noncomputable def o949 (P : Params) : Obj := ⟨(.type "tuple"), none, (.seq #[] 0), #[]⟩
noncomputable def o950 (P : Params) : Obj := ⟨.none, none, (.fields #[]), #[]⟩
noncomputable def o951 (P : Params) : Obj := ⟨(.type "tuple"), none, (.seq #[(.str "scope" 1518), (.str "e" 1519), (.str "entry" 1520), (.str "inner" 1521)] 0), #[]⟩
noncomputable def o952 (P : Params) : Obj := ⟨(.type "tuple"), none, (.seq #[] 0), #[]⟩
noncomputable def o953 (P : Params) : Obj := ⟨.none, none, (.func ⟨"base_entry", "base_entry", fA (st 129), .stmts (fB (st 129)), fS (st 129), 0, [], .none, .none, .none, .none, none, .none, .none, 0⟩), #[]⟩
noncomputable def o954 (P : Params) : Obj := ⟨(.type "code"), none, (.fields #[(.str "base_entry" 1515), (.str "base_entry" 1516), (.str "/claim/cut.py" 1517), (.int 912 0), (.int 2 0), (.int 0 0), (.int 0 0), (.int 3 0), (.ref 949), (.bool true), (.int 181 0), (.ref 950), .none, (.ref 951), (.ref 952), (.ref 953), (.int 1522 0), (.int 912 0), (.str "/claim/cut.py" 1523)]), #[]⟩
noncomputable def o955 (P : Params) : Obj := ⟨(.type "function"), none, (.func ⟨"base_entry", "base_entry", fA (st 129), .stmts (fB (st 129)), fS (st 129), 3, [], .none, .none, .none, (.str "gateloom.elabexpr" 1491), none, (.ref 954), .none, 0⟩), #[]⟩
noncomputable def o956 (P : Params) : Obj := ⟨(.type "tuple"), none, (.seq #[] 0), #[]⟩
noncomputable def o957 (P : Params) : Obj := ⟨.none, none, (.fields #[]), #[]⟩
noncomputable def o958 (P : Params) : Obj := ⟨(.type "tuple"), none, (.seq #[(.str "scope" 1528), (.str "e" 1529)] 0), #[]⟩
noncomputable def o959 (P : Params) : Obj := ⟨(.type "tuple"), none, (.seq #[] 0), #[]⟩
noncomputable def o960 (P : Params) : Obj := ⟨.none, none, (.func ⟨"select_width", "select_width", fA (st 130), .stmts (fB (st 130)), fS (st 130), 0, [], .none, .none, .none, .none, none, .none, .none, 0⟩), #[]⟩
noncomputable def o961 (P : Params) : Obj := ⟨(.type "code"), none, (.fields #[(.str "select_width" 1525), (.str "select_width" 1526), (.str "/claim/cut.py" 1527), (.int 922 0), (.int 2 0), (.int 0 0), (.int 0 0), (.int 3 0), (.ref 956), (.bool true), (.int 181 0), (.ref 957), .none, (.ref 958), (.ref 959), (.ref 960), (.int 1530 0), (.int 922 0), (.str "/claim/cut.py" 1531)]), #[]⟩
noncomputable def o962 (P : Params) : Obj := ⟨(.type "function"), none, (.func ⟨"select_width", "select_width", fA (st 130), .stmts (fB (st 130)), fS (st 130), 3, [], .none, .none, .none, (.str "gateloom.elabexpr" 1491), none, (.ref 961), .none, 0⟩), #[]⟩
noncomputable def o963 (P : Params) : Obj := ⟨(.type "tuple"), none, (.seq #[] 0), #[]⟩
noncomputable def o964 (P : Params) : Obj := ⟨.none, none, (.fields #[]), #[]⟩
noncomputable def o965 (P : Params) : Obj := ⟨(.type "tuple"), none, (.seq #[(.str "scope" 1536), (.str "e" 1537), (.str "form" 1538), (.str "msb" 1539), (.str "lsb" 1540), (.str "step" 1541), (.str "left" 1542), (.str "right" 1543), (.str "width" 1544), (.str "base" 1545), (.str "index" 1546), (.str "signed" 1547)] 0), #[]⟩
noncomputable def o966 (P : Params) : Obj := ⟨(.type "tuple"), none, (.seq #[] 0), #[]⟩
noncomputable def o967 (P : Params) : Obj := ⟨.none, none, (.func ⟨"select_where", "select_where", fA (st 131), .stmts (fB (st 131)), fS (st 131), 0, [], .none, .none, .none, .none, none, .none, .none, 0⟩), #[]⟩
noncomputable def o968 (P : Params) : Obj := ⟨(.type "code"), none, (.fields #[(.str "select_where" 1533), (.str "select_where" 1534), (.str "/claim/cut.py" 1535), (.int 928 0), (.int 3 0), (.int 0 0), (.int 0 0), (.int 3 0), (.ref 963), (.bool true), (.int 181 0), (.ref 964), .none, (.ref 965), (.ref 966), (.ref 967), (.int 1548 0), (.int 928 0), (.str "/claim/cut.py" 1549)]), #[]⟩
noncomputable def o969 (P : Params) : Obj := ⟨(.type "function"), none, (.func ⟨"select_where", "select_where", fA (st 131), .stmts (fB (st 131)), fS (st 131), 3, [], .none, .none, .none, (.str "gateloom.elabexpr" 1491), none, (.ref 968), .none, 0⟩), #[]⟩
noncomputable def o970 (P : Params) : Obj := ⟨(.type "tuple"), none, (.seq #[] 0), #[]⟩
noncomputable def o971 (P : Params) : Obj := ⟨.none, none, (.fields #[]), #[]⟩
noncomputable def o972 (P : Params) : Obj := ⟨(.type "tuple"), none, (.seq #[(.str "scope" 1554), (.str "e" 1555), (.str "entry" 1556), (.str "inner" 1557)] 0), #[]⟩
noncomputable def o973 (P : Params) : Obj := ⟨(.type "tuple"), none, (.seq #[] 0), #[]⟩
noncomputable def o974 (P : Params) : Obj := ⟨.none, none, (.func ⟨"named_type", "named_type", fA (st 132), .stmts (fB (st 132)), fS (st 132), 0, [], .none, .none, .none, .none, none, .none, .none, 0⟩), #[]⟩
noncomputable def o975 (P : Params) : Obj := ⟨(.type "code"), none, (.fields #[(.str "named_type" 1551), (.str "named_type" 1552), (.str "/claim/cut.py" 1553), (.int 950 0), (.int 2 0), (.int 0 0), (.int 0 0), (.int 3 0), (.ref 970), (.bool true), (.int 181 0), (.ref 971), .none, (.ref 972), (.ref 973), (.ref 974), (.int 1558 0), (.int 950 0), (.str "/claim/cut.py" 1559)]), #[]⟩
noncomputable def o976 (P : Params) : Obj := ⟨(.type "function"), none, (.func ⟨"named_type", "named_type", fA (st 132), .stmts (fB (st 132)), fS (st 132), 3, [], .none, .none, .none, (.str "gateloom.elabexpr" 1491), none, (.ref 975), .none, 0⟩), #[]⟩
noncomputable def o977 (P : Params) : Obj := ⟨(.type "tuple"), none, (.seq #[] 0), #[]⟩
noncomputable def o978 (P : Params) : Obj := ⟨.none, none, (.fields #[]), #[]⟩
noncomputable def o979 (P : Params) : Obj := ⟨(.type "tuple"), none, (.seq #[(.str "scope" 1564), (.str "e" 1565), (.str "entry" 1566), (.str "inner" 1567), (.str "form" 1568), (.str "word" 1569), (.str "where" 1570)] 0), #[]⟩
noncomputable def o980 (P : Params) : Obj := ⟨(.type "tuple"), none, (.seq #[] 0), #[]⟩
noncomputable def o981 (P : Params) : Obj := ⟨.none, none, (.func ⟨"named_value", "named_value", fA (st 133), .stmts (fB (st 133)), fS (st 133), 0, [], .none, .none, .none, .none, none, .none, .none, 0⟩), #[]⟩
noncomputable def o982 (P : Params) : Obj := ⟨(.type "code"), none, (.fields #[(.str "named_value" 1561), (.str "named_value" 1562), (.str "/claim/cut.py" 1563), (.int 963 0), (.int 2 0), (.int 0 0), (.int 0 0), (.int 3 0), (.ref 977), (.bool true), (.int 181 0), (.ref 978), .none, (.ref 979), (.ref 980), (.ref 981), (.int 1571 0), (.int 963 0), (.str "/claim/cut.py" 1572)]), #[]⟩
noncomputable def o983 (P : Params) : Obj := ⟨(.type "function"), none, (.func ⟨"named_value", "named_value", fA (st 133), .stmts (fB (st 133)), fS (st 133), 3, [], .none, .none, .none, (.str "gateloom.elabexpr" 1491), none, (.ref 982), .none, 0⟩), #[]⟩
noncomputable def o984 (P : Params) : Obj := ⟨(.type "tuple"), none, (.seq #[] 0), #[]⟩
noncomputable def o985 (P : Params) : Obj := ⟨.none, none, (.fields #[]), #[]⟩
noncomputable def o986 (P : Params) : Obj := ⟨(.type "tuple"), none, (.seq #[(.str "scope" 1577), (.str "e" 1578), (.str "entry" 1579), (.str "routine" 1580)] 0), #[]⟩
noncomputable def o987 (P : Params) : Obj := ⟨(.type "tuple"), none, (.seq #[] 0), #[]⟩
noncomputable def o988 (P : Params) : Obj := ⟨.none, none, (.func ⟨"function_of", "function_of", fA (st 134), .stmts (fB (st 134)), fS (st 134), 0, [], .none, .none, .none, .none, none, .none, .none, 0⟩), #[]⟩
noncomputable def o989 (P : Params) : Obj := ⟨(.type "code"), none, (.fields #[(.str "function_of" 1574), (.str "function_of" 1575), (.str "/claim/cut.py" 1576), (.int 982 0), (.int 2 0), (.int 0 0), (.int 0 0), (.int 3 0), (.ref 984), (.bool true), (.int 181 0), (.ref 985), .none, (.ref 986), (.ref 987), (.ref 988), (.int 1581 0), (.int 982 0), (.str "/claim/cut.py" 1582)]), #[]⟩
noncomputable def o990 (P : Params) : Obj := ⟨(.type "function"), none, (.func ⟨"function_of", "function_of", fA (st 134), .stmts (fB (st 134)), fS (st 134), 3, [], .none, .none, .none, (.str "gateloom.elabexpr" 1491), none, (.ref 989), .none, 0⟩), #[]⟩
noncomputable def o991 (P : Params) : Obj := ⟨(.type "tuple"), none, (.seq #[] 0), #[]⟩
noncomputable def o992 (P : Params) : Obj := ⟨.none, none, (.fields #[]), #[]⟩
noncomputable def o993 (P : Params) : Obj := ⟨(.type "tuple"), none, (.seq #[(.str "scope" 1587), (.str "e" 1588), (.str "routine" 1589), (.str "args" 1590), (.str "at" 1591), (.str "port" 1592)] 0), #[]⟩
noncomputable def o994 (P : Params) : Obj := ⟨(.type "tuple"), none, (.seq #[] 0), #[]⟩
noncomputable def o995 (P : Params) : Obj := ⟨.none, none, (.func ⟨"call_value", "call_value", fA (st 135), .stmts (fB (st 135)), fS (st 135), 0, [], .none, .none, .none, .none, none, .none, .none, 0⟩), #[]⟩
noncomputable def o996 (P : Params) : Obj := ⟨(.type "code"), none, (.fields #[(.str "call_value" 1584), (.str "call_value" 1585), (.str "/claim/cut.py" 1586), (.int 994 0), (.int 2 0), (.int 0 0), (.int 0 0), (.int 3 0), (.ref 991), (.bool true), (.int 181 0), (.ref 992), .none, (.ref 993), (.ref 994), (.ref 995), (.int 1593 0), (.int 994 0), (.str "/claim/cut.py" 1594)]), #[]⟩
noncomputable def o997 (P : Params) : Obj := ⟨(.type "function"), none, (.func ⟨"call_value", "call_value", fA (st 135), .stmts (fB (st 135)), fS (st 135), 3, [], .none, .none, .none, (.str "gateloom.elabexpr" 1491), none, (.ref 996), .none, 0⟩), #[]⟩
noncomputable def o998 (P : Params) : Obj := ⟨(.type "tuple"), none, (.seq #[] 0), #[]⟩
noncomputable def o999 (P : Params) : Obj := ⟨.none, none, (.fields #[]), #[]⟩
noncomputable def o1000 (P : Params) : Obj := ⟨(.type "tuple"), none, (.seq #[(.str "scope" 1599), (.str "e" 1600), (.str "name" 1601), (.str "count" 1602)] 0), #[]⟩
noncomputable def o1001 (P : Params) : Obj := ⟨(.type "tuple"), none, (.seq #[] 0), #[]⟩
noncomputable def o1002 (P : Params) : Obj := ⟨.none, none, (.func ⟨"system_type", "system_type", fA (st 136), .stmts (fB (st 136)), fS (st 136), 0, [], .none, .none, .none, .none, none, .none, .none, 0⟩), #[]⟩
noncomputable def o1003 (P : Params) : Obj := ⟨(.type "code"), none, (.fields #[(.str "system_type" 1596), (.str "system_type" 1597), (.str "/claim/cut.py" 1598), (.int 1002 0), (.int 2 0), (.int 0 0), (.int 0 0), (.int 3 0), (.ref 998), (.bool true), (.int 181 0), (.ref 999), .none, (.ref 1000), (.ref 1001), (.ref 1002), (.int 1603 0), (.int 1002 0), (.str "/claim/cut.py" 1604)]), #[]⟩
noncomputable def o1004 (P : Params) : Obj := ⟨(.type "function"), none, (.func ⟨"system_type", "system_type", fA (st 136), .stmts (fB (st 136)), fS (st 136), 3, [], .none, .none, .none, (.str "gateloom.elabexpr" 1491), none, (.ref 1003), .none, 0⟩), #[]⟩
noncomputable def o1005 (P : Params) : Obj := ⟨(.type "tuple"), none, (.seq #[] 0), #[]⟩
noncomputable def o1006 (P : Params) : Obj := ⟨.none, none, (.fields #[]), #[]⟩
noncomputable def o1007 (P : Params) : Obj := ⟨(.type "tuple"), none, (.seq #[(.str "scope" 1609), (.str "e" 1610), (.str "width" 1611), (.str "args" 1612), (.str "arg" 1613)] 0), #[]⟩
noncomputable def o1008 (P : Params) : Obj := ⟨(.type "tuple"), none, (.seq #[] 0), #[]⟩
noncomputable def o1009 (P : Params) : Obj := ⟨.none, none, (.func ⟨"system_value", "system_value", fA (st 137), .stmts (fB (st 137)), fS (st 137), 0, [], .none, .none, .none, .none, none, .none, .none, 0⟩), #[]⟩
noncomputable def o1010 (P : Params) : Obj := ⟨(.type "code"), none, (.fields #[(.str "system_value" 1606), (.str "system_value" 1607), (.str "/claim/cut.py" 1608), (.int 1020 0), (.int 2 0), (.int 0 0), (.int 0 0), (.int 3 0), (.ref 1005), (.bool true), (.int 181 0), (.ref 1006), .none, (.ref 1007), (.ref 1008), (.ref 1009), (.int 1614 0), (.int 1020 0), (.str "/claim/cut.py" 1615)]), #[]⟩
noncomputable def o1011 (P : Params) : Obj := ⟨(.type "function"), none, (.func ⟨"system_value", "system_value", fA (st 137), .stmts (fB (st 137)), fS (st 137), 3, [], .none, .none, .none, (.str "gateloom.elabexpr" 1491), none, (.ref 1010), .none, 0⟩), #[]⟩
noncomputable def o1012 (P : Params) : Obj := ⟨(.type "tuple"), none, (.seq #[] 0), #[]⟩
noncomputable def o1013 (P : Params) : Obj := ⟨.none, none, (.fields #[]), #[]⟩
noncomputable def o1014 (P : Params) : Obj := ⟨(.type "tuple"), none, (.seq #[(.str "scope" 1621), (.str "e" 1622), (.str "parts" 1623), (.str "part" 1624)] 0), #[]⟩
noncomputable def o1015 (P : Params) : Obj := ⟨(.type "tuple"), none, (.seq #[] 0), #[]⟩
noncomputable def o1016 (P : Params) : Obj := ⟨.none, none, (.func ⟨"joined_parts", "joined_parts", fA (st 139), .stmts (fB (st 139)), fS (st 139), 0, [], .none, .none, .none, .none, none, .none, .none, 0⟩), #[]⟩
noncomputable def o1017 (P : Params) : Obj := ⟨(.type "code"), none, (.fields #[(.str "joined_parts" 1618), (.str "joined_parts" 1619), (.str "/claim/cut.py" 1620), (.int 1029 0), (.int 2 0), (.int 0 0), (.int 0 0), (.int 3 0), (.ref 1012), (.bool true), (.int 181 0), (.ref 1013), .none, (.ref 1014), (.ref 1015), (.ref 1016), (.int 1625 0), (.int 1029 0), (.str "/claim/cut.py" 1626)]), #[]⟩
noncomputable def o1018 (P : Params) : Obj := ⟨(.type "function"), none, (.func ⟨"joined_parts", "joined_parts", fA (st 139), .stmts (fB (st 139)), fS (st 139), 3, [], .none, .none, .none, (.str "gateloom.elabexpr" 1491), none, (.ref 1017), .none, 0⟩), #[]⟩
noncomputable def o1019 (P : Params) : Obj := ⟨(.type "tuple"), none, (.seq #[] 0), #[]⟩
noncomputable def o1020 (P : Params) : Obj := ⟨.none, none, (.fields #[]), #[]⟩
noncomputable def o1021 (P : Params) : Obj := ⟨(.type "tuple"), none, (.seq #[(.str "scope" 1631), (.str "e" 1632), (.str "n" 1633)] 0), #[]⟩
noncomputable def o1022 (P : Params) : Obj := ⟨(.type "tuple"), none, (.seq #[] 0), #[]⟩
noncomputable def o1023 (P : Params) : Obj := ⟨.none, none, (.func ⟨"copies", "copies", fA (st 140), .stmts (fB (st 140)), fS (st 140), 0, [], .none, .none, .none, .none, none, .none, .none, 0⟩), #[]⟩
noncomputable def o1024 (P : Params) : Obj := ⟨(.type "code"), none, (.fields #[(.str "copies" 1628), (.str "copies" 1629), (.str "/claim/cut.py" 1630), (.int 1039 0), (.int 2 0), (.int 0 0), (.int 0 0), (.int 3 0), (.ref 1019), (.bool true), (.int 181 0), (.ref 1020), .none, (.ref 1021), (.ref 1022), (.ref 1023), (.int 1634 0), (.int 1039 0), (.str "/claim/cut.py" 1635)]), #[]⟩
noncomputable def o1025 (P : Params) : Obj := ⟨(.type "function"), none, (.func ⟨"copies", "copies", fA (st 140), .stmts (fB (st 140)), fS (st 140), 3, [], .none, .none, .none, (.str "gateloom.elabexpr" 1491), none, (.ref 1024), .none, 0⟩), #[]⟩
noncomputable def o1026 (P : Params) : Obj := ⟨(.type "tuple"), none, (.seq #[] 0), #[]⟩
noncomputable def o1027 (P : Params) : Obj := ⟨.none, none, (.fields #[]), #[]⟩
noncomputable def o1028 (P : Params) : Obj := ⟨(.type "tuple"), none, (.seq #[(.str "scope" 1640), (.str "e" 1641), (.str "width" 1642), (.str "part" 1643)] 0), #[]⟩
noncomputable def o1029 (P : Params) : Obj := ⟨(.type "tuple"), none, (.seq #[] 0), #[]⟩
noncomputable def o1030 (P : Params) : Obj := ⟨.none, none, (.func ⟨"joined_width", "joined_width", fA (st 141), .stmts (fB (st 141)), fS (st 141), 0, [], .none, .none, .none, .none, none, .none, .none, 0⟩), #[]⟩
noncomputable def o1031 (P : Params) : Obj := ⟨(.type "code"), none, (.fields #[(.str "joined_width" 1637), (.str "joined_width" 1638), (.str "/claim/cut.py" 1639), (.int 1044 0), (.int 2 0), (.int 0 0), (.int 0 0), (.int 3 0), (.ref 1026), (.bool true), (.int 181 0), (.ref 1027), .none, (.ref 1028), (.ref 1029), (.ref 1030), (.int 1644 0), (.int 1044 0), (.str "/claim/cut.py" 1645)]), #[]⟩
noncomputable def o1032 (P : Params) : Obj := ⟨(.type "function"), none, (.func ⟨"joined_width", "joined_width", fA (st 141), .stmts (fB (st 141)), fS (st 141), 3, [], .none, .none, .none, (.str "gateloom.elabexpr" 1491), none, (.ref 1031), .none, 0⟩), #[]⟩
noncomputable def o1033 (P : Params) : Obj := ⟨(.type "tuple"), none, (.seq #[] 0), #[]⟩
noncomputable def o1034 (P : Params) : Obj := ⟨.none, none, (.fields #[]), #[]⟩
noncomputable def o1035 (P : Params) : Obj := ⟨(.type "tuple"), none, (.seq #[(.str "scope" 1650), (.str "e" 1651), (.str "width" 1652), (.str "parts" 1653), (.str "part" 1654)] 0), #[]⟩
noncomputable def o1036 (P : Params) : Obj := ⟨(.type "tuple"), none, (.seq #[] 0), #[]⟩
noncomputable def o1037 (P : Params) : Obj := ⟨.none, none, (.func ⟨"joined_value", "joined_value", fA (st 142), .stmts (fB (st 142)), fS (st 142), 0, [], .none, .none, .none, .none, none, .none, .none, 0⟩), #[]⟩
noncomputable def o1038 (P : Params) : Obj := ⟨(.type "code"), none, (.fields #[(.str "joined_value" 1647), (.str "joined_value" 1648), (.str "/claim/cut.py" 1649), (.int 1051 0), (.int 2 0), (.int 0 0), (.int 0 0), (.int 3 0), (.ref 1033), (.bool true), (.int 181 0), (.ref 1034), .none, (.ref 1035), (.ref 1036), (.ref 1037), (.int 1655 0), (.int 1051 0), (.str "/claim/cut.py" 1656)]), #[]⟩
noncomputable def o1039 (P : Params) : Obj := ⟨(.type "function"), none, (.func ⟨"joined_value", "joined_value", fA (st 142), .stmts (fB (st 142)), fS (st 142), 3, [], .none, .none, .none, (.str "gateloom.elabexpr" 1491), none, (.ref 1038), .none, 0⟩), #[]⟩
noncomputable def o1040 (P : Params) : Obj := ⟨(.type "tuple"), none, (.seq #[] 0), #[]⟩
noncomputable def o1041 (P : Params) : Obj := ⟨.none, none, (.fields #[]), #[]⟩
noncomputable def o1042 (P : Params) : Obj := ⟨(.type "tuple"), none, (.seq #[(.str "scope" 1661), (.str "left" 1662), (.str "right" 1663), (.str "one" 1664), (.str "other" 1665)] 0), #[]⟩
noncomputable def o1043 (P : Params) : Obj := ⟨(.type "tuple"), none, (.seq #[] 0), #[]⟩
noncomputable def o1044 (P : Params) : Obj := ⟨.none, none, (.func ⟨"both_types", "both_types", fA (st 143), .stmts (fB (st 143)), fS (st 143), 0, [], .none, .none, .none, .none, none, .none, .none, 0⟩), #[]⟩
noncomputable def o1045 (P : Params) : Obj := ⟨(.type "code"), none, (.fields #[(.str "both_types" 1658), (.str "both_types" 1659), (.str "/claim/cut.py" 1660), (.int 1059 0), (.int 3 0), (.int 0 0), (.int 0 0), (.int 3 0), (.ref 1040), (.bool true), (.int 181 0), (.ref 1041), .none, (.ref 1042), (.ref 1043), (.ref 1044), (.int 1666 0), (.int 1059 0), (.str "/claim/cut.py" 1667)]), #[]⟩
noncomputable def o1046 (P : Params) : Obj := ⟨(.type "function"), none, (.func ⟨"both_types", "both_types", fA (st 143), .stmts (fB (st 143)), fS (st 143), 3, [], .none, .none, .none, (.str "gateloom.elabexpr" 1491), none, (.ref 1045), .none, 0⟩), #[]⟩
noncomputable def o1047 (P : Params) : Obj := ⟨(.type "tuple"), none, (.seq #[] 0), #[]⟩
noncomputable def o1048 (P : Params) : Obj := ⟨.none, none, (.fields #[]), #[]⟩
noncomputable def o1049 (P : Params) : Obj := ⟨(.type "tuple"), none, (.seq #[(.str "scope" 1672), (.str "e" 1673), (.str "tag" 1674), (.str "routine" 1675)] 0), #[]⟩
noncomputable def o1050 (P : Params) : Obj := ⟨(.type "tuple"), none, (.seq #[] 0), #[]⟩
noncomputable def o1051 (P : Params) : Obj := ⟨.none, none, (.func ⟨"expr_type", "expr_type", fA (st 144), .stmts (fB (st 144)), fS (st 144), 0, [], .none, .none, .none, .none, none, .none, .none, 0⟩), #[]⟩
noncomputable def o1052 (P : Params) : Obj := ⟨(.type "code"), none, (.fields #[(.str "expr_type" 1669), (.str "expr_type" 1670), (.str "/claim/cut.py" 1671), (.int 1063 0), (.int 2 0), (.int 0 0), (.int 0 0), (.int 3 0), (.ref 1047), (.bool true), (.int 181 0), (.ref 1048), .none, (.ref 1049), (.ref 1050), (.ref 1051), (.int 1676 0), (.int 1063 0), (.str "/claim/cut.py" 1677)]), #[]⟩
noncomputable def o1053 (P : Params) : Obj := ⟨(.type "function"), none, (.func ⟨"expr_type", "expr_type", fA (st 144), .stmts (fB (st 144)), fS (st 144), 3, [], .none, .none, .none, (.str "gateloom.elabexpr" 1491), none, (.ref 1052), .none, 0⟩), #[]⟩
noncomputable def o1054 (P : Params) : Obj := ⟨(.type "tuple"), none, (.seq #[] 0), #[]⟩
noncomputable def o1055 (P : Params) : Obj := ⟨.none, none, (.fields #[]), #[]⟩
noncomputable def o1056 (P : Params) : Obj := ⟨(.type "tuple"), none, (.seq #[(.str "scope" 1682), (.str "e" 1683), (.str "w" 1684), (.str "signed" 1685), (.str "op" 1686)] 0), #[]⟩
noncomputable def o1057 (P : Params) : Obj := ⟨(.type "tuple"), none, (.seq #[] 0), #[]⟩
noncomputable def o1058 (P : Params) : Obj := ⟨.none, none, (.func ⟨"unary_value", "unary_value", fA (st 145), .stmts (fB (st 145)), fS (st 145), 0, [], .none, .none, .none, .none, none, .none, .none, 0⟩), #[]⟩
noncomputable def o1059 (P : Params) : Obj := ⟨(.type "code"), none, (.fields #[(.str "unary_value" 1679), (.str "unary_value" 1680), (.str "/claim/cut.py" 1681), (.int 1091 0), (.int 4 0), (.int 0 0), (.int 0 0), (.int 3 0), (.ref 1054), (.bool true), (.int 181 0), (.ref 1055), .none, (.ref 1056), (.ref 1057), (.ref 1058), (.int 1687 0), (.int 1091 0), (.str "/claim/cut.py" 1688)]), #[]⟩
noncomputable def o1060 (P : Params) : Obj := ⟨(.type "function"), none, (.func ⟨"unary_value", "unary_value", fA (st 145), .stmts (fB (st 145)), fS (st 145), 3, [], .none, .none, .none, (.str "gateloom.elabexpr" 1491), none, (.ref 1059), .none, 0⟩), #[]⟩
noncomputable def o1061 (P : Params) : Obj := ⟨(.type "tuple"), none, (.seq #[] 0), #[]⟩
noncomputable def o1062 (P : Params) : Obj := ⟨.none, none, (.fields #[]), #[]⟩
noncomputable def o1063 (P : Params) : Obj := ⟨(.type "tuple"), none, (.seq #[(.str "scope" 1693), (.str "e" 1694), (.str "w" 1695), (.str "signed" 1696), (.str "op" 1697), (.str "left" 1698), (.str "right" 1699), (.str "right_signed" 1700), (.str "width" 1701), (.str "both" 1702)] 0), #[]⟩
noncomputable def o1064 (P : Params) : Obj := ⟨(.type "tuple"), none, (.seq #[] 0), #[]⟩
noncomputable def o1065 (P : Params) : Obj := ⟨.none, none, (.func ⟨"binary_value", "binary_value", fA (st 146), .stmts (fB (st 146)), fS (st 146), 0, [], .none, .none, .none, .none, none, .none, .none, 0⟩), #[]⟩
noncomputable def o1066 (P : Params) : Obj := ⟨(.type "code"), none, (.fields #[(.str "binary_value" 1690), (.str "binary_value" 1691), (.str "/claim/cut.py" 1692), (.int 1098 0), (.int 4 0), (.int 0 0), (.int 0 0), (.int 3 0), (.ref 1061), (.bool true), (.int 181 0), (.ref 1062), .none, (.ref 1063), (.ref 1064), (.ref 1065), (.int 1703 0), (.int 1098 0), (.str "/claim/cut.py" 1704)]), #[]⟩
noncomputable def o1067 (P : Params) : Obj := ⟨(.type "function"), none, (.func ⟨"binary_value", "binary_value", fA (st 146), .stmts (fB (st 146)), fS (st 146), 3, [], .none, .none, .none, (.str "gateloom.elabexpr" 1491), none, (.ref 1066), .none, 0⟩), #[]⟩
noncomputable def o1068 (P : Params) : Obj := ⟨(.type "tuple"), none, (.seq #[] 0), #[]⟩
noncomputable def o1069 (P : Params) : Obj := ⟨.none, none, (.fields #[]), #[]⟩
noncomputable def o1070 (P : Params) : Obj := ⟨(.type "tuple"), none, (.seq #[(.str "scope" 1709), (.str "e" 1710), (.str "w" 1711), (.str "signed" 1712), (.str "tag" 1713), (.str "test" 1714), (.str "then" 1715), (.str "value" 1716)] 0), #[]⟩
noncomputable def o1071 (P : Params) : Obj := ⟨(.type "tuple"), none, (.seq #[] 0), #[]⟩
noncomputable def o1072 (P : Params) : Obj := ⟨.none, none, (.func ⟨"build", "build", fA (st 147), .stmts (fB (st 147)), fS (st 147), 0, [], .none, .none, .none, .none, none, .none, .none, 0⟩), #[]⟩
noncomputable def o1073 (P : Params) : Obj := ⟨(.type "code"), none, (.fields #[(.str "build" 1706), (.str "build" 1707), (.str "/claim/cut.py" 1708), (.int 1117 0), (.int 4 0), (.int 0 0), (.int 0 0), (.int 3 0), (.ref 1068), (.bool true), (.int 181 0), (.ref 1069), .none, (.ref 1070), (.ref 1071), (.ref 1072), (.int 1717 0), (.int 1117 0), (.str "/claim/cut.py" 1718)]), #[]⟩
noncomputable def o1074 (P : Params) : Obj := ⟨(.type "function"), none, (.func ⟨"build", "build", fA (st 147), .stmts (fB (st 147)), fS (st 147), 3, [], .none, .none, .none, (.str "gateloom.elabexpr" 1491), none, (.ref 1073), .none, 0⟩), #[]⟩
noncomputable def o1075 (P : Params) : Obj := ⟨(.type "tuple"), none, (.seq #[] 0), #[]⟩
noncomputable def o1076 (P : Params) : Obj := ⟨.none, none, (.fields #[]), #[]⟩
noncomputable def o1077 (P : Params) : Obj := ⟨(.type "tuple"), none, (.seq #[(.str "scope" 1723), (.str "e" 1724), (.str "width" 1725), (.str "signed" 1726)] 0), #[]⟩
noncomputable def o1078 (P : Params) : Obj := ⟨(.type "tuple"), none, (.seq #[] 0), #[]⟩
noncomputable def o1079 (P : Params) : Obj := ⟨.none, none, (.func ⟨"self_determined", "self_determined", fA (st 148), .stmts (fB (st 148)), fS (st 148), 0, [], .none, .none, .none, .none, none, .none, .none, 0⟩), #[]⟩
noncomputable def o1080 (P : Params) : Obj := ⟨(.type "code"), none, (.fields #[(.str "self_determined" 1720), (.str "self_determined" 1721), (.str "/claim/cut.py" 1722), (.int 1140 0), (.int 2 0), (.int 0 0), (.int 0 0), (.int 3 0), (.ref 1075), (.bool true), (.int 181 0), (.ref 1076), .none, (.ref 1077), (.ref 1078), (.ref 1079), (.int 1727 0), (.int 1140 0), (.str "/claim/cut.py" 1728)]), #[]⟩
noncomputable def o1081 (P : Params) : Obj := ⟨(.type "function"), none, (.func ⟨"self_determined", "self_determined", fA (st 148), .stmts (fB (st 148)), fS (st 148), 3, [], .none, .none, .none, (.str "gateloom.elabexpr" 1491), none, (.ref 1080), .none, 0⟩), #[]⟩
noncomputable def o1082 (P : Params) : Obj := ⟨(.type "tuple"), none, (.seq #[] 0), #[]⟩
noncomputable def o1083 (P : Params) : Obj := ⟨.none, none, (.fields #[]), #[]⟩
noncomputable def o1084 (P : Params) : Obj := ⟨(.type "tuple"), none, (.seq #[(.str "scope" 1733), (.str "e" 1734), (.str "w" 1735), (.str "width" 1736), (.str "signed" 1737)] 0), #[]⟩
noncomputable def o1085 (P : Params) : Obj := ⟨(.type "tuple"), none, (.seq #[] 0), #[]⟩
noncomputable def o1086 (P : Params) : Obj := ⟨.none, none, (.func ⟨"sized", "sized", fA (st 149), .stmts (fB (st 149)), fS (st 149), 0, [], .none, .none, .none, .none, none, .none, .none, 0⟩), #[]⟩
noncomputable def o1087 (P : Params) : Obj := ⟨(.type "code"), none, (.fields #[(.str "sized" 1730), (.str "sized" 1731), (.str "/claim/cut.py" 1732), (.int 1143 0), (.int 3 0), (.int 0 0), (.int 0 0), (.int 3 0), (.ref 1082), (.bool true), (.int 181 0), (.ref 1083), .none, (.ref 1084), (.ref 1085), (.ref 1086), (.int 1738 0), (.int 1143 0), (.str "/claim/cut.py" 1739)]), #[]⟩
noncomputable def o1088 (P : Params) : Obj := ⟨(.type "function"), none, (.func ⟨"sized", "sized", fA (st 149), .stmts (fB (st 149)), fS (st 149), 3, [], .none, .none, .none, (.str "gateloom.elabexpr" 1491), none, (.ref 1087), .none, 0⟩), #[]⟩
noncomputable def o1089 (P : Params) : Obj := ⟨(.type "tuple"), none, (.seq #[] 0), #[]⟩
noncomputable def o1090 (P : Params) : Obj := ⟨.none, none, (.fields #[]), #[]⟩
noncomputable def o1091 (P : Params) : Obj := ⟨(.type "tuple"), none, (.seq #[(.str "scope" 1744), (.str "value" 1745), (.str "at" 1746), (.str "store" 1747)] 0), #[]⟩
noncomputable def o1092 (P : Params) : Obj := ⟨(.type "tuple"), none, (.seq #[] 0), #[]⟩
noncomputable def o1093 (P : Params) : Obj := ⟨.none, none, (.func ⟨"constant_vec", "constant_vec", fA (st 150), .stmts (fB (st 150)), fS (st 150), 0, [], .none, .none, .none, .none, none, .none, .none, 0⟩), #[]⟩
noncomputable def o1094 (P : Params) : Obj := ⟨(.type "code"), none, (.fields #[(.str "constant_vec" 1741), (.str "constant_vec" 1742), (.str "/claim/cut.py" 1743), (.int 1146 0), (.int 3 0), (.int 0 0), (.int 0 0), (.int 3 0), (.ref 1089), (.bool true), (.int 181 0), (.ref 1090), .none, (.ref 1091), (.ref 1092), (.ref 1093), (.int 1748 0), (.int 1146 0), (.str "/claim/cut.py" 1749)]), #[]⟩
noncomputable def o1095 (P : Params) : Obj := ⟨(.type "function"), none, (.func ⟨"constant_vec", "constant_vec", fA (st 150), .stmts (fB (st 150)), fS (st 150), 3, [], .none, .none, .none, (.str "gateloom.elabexpr" 1491), none, (.ref 1094), .none, 0⟩), #[]⟩
noncomputable def o1096 (P : Params) : Obj := ⟨(.type "tuple"), none, (.seq #[] 0), #[]⟩
noncomputable def o1097 (P : Params) : Obj := ⟨.none, none, (.fields #[]), #[]⟩
noncomputable def o1098 (P : Params) : Obj := ⟨(.type "tuple"), none, (.seq #[(.str "scope" 1754), (.str "e" 1755), (.str "value" 1756), (.str "signed" 1757)] 0), #[]⟩
noncomputable def o1099 (P : Params) : Obj := ⟨(.type "tuple"), none, (.seq #[] 0), #[]⟩
noncomputable def o1100 (P : Params) : Obj := ⟨.none, none, (.func ⟨"constant", "constant", fA (st 151), .stmts (fB (st 151)), fS (st 151), 0, [], .none, .none, .none, .none, none, .none, .none, 0⟩), #[]⟩
noncomputable def o1101 (P : Params) : Obj := ⟨(.type "code"), none, (.fields #[(.str "constant" 1751), (.str "constant" 1752), (.str "/claim/cut.py" 1753), (.int 1153 0), (.int 2 0), (.int 0 0), (.int 0 0), (.int 3 0), (.ref 1096), (.bool true), (.int 181 0), (.ref 1097), .none, (.ref 1098), (.ref 1099), (.ref 1100), (.int 1758 0), (.int 1153 0), (.str "/claim/cut.py" 1759)]), #[]⟩
noncomputable def o1102 (P : Params) : Obj := ⟨(.type "function"), none, (.func ⟨"constant", "constant", fA (st 151), .stmts (fB (st 151)), fS (st 151), 3, [], .none, .none, .none, (.str "gateloom.elabexpr" 1491), none, (.ref 1101), .none, 0⟩), #[]⟩
noncomputable def o1103 (P : Params) : Obj := ⟨(.type "tuple"), none, (.seq #[] 0), #[]⟩
noncomputable def o1104 (P : Params) : Obj := ⟨.none, none, (.fields #[]), #[]⟩
noncomputable def o1105 (P : Params) : Obj := ⟨(.type "tuple"), none, (.seq #[(.str "scope" 1764), (.str "e" 1765), (.str "design" 1766), (.str "value" 1767), (.str "signed" 1768), (.str "number" 1769)] 0), #[]⟩
noncomputable def o1106 (P : Params) : Obj := ⟨(.type "tuple"), none, (.seq #[] 0), #[]⟩
noncomputable def o1107 (P : Params) : Obj := ⟨.none, none, (.func ⟨"whole", "whole", fA (st 152), .stmts (fB (st 152)), fS (st 152), 0, [], .none, .none, .none, .none, none, .none, .none, 0⟩), #[]⟩
noncomputable def o1108 (P : Params) : Obj := ⟨(.type "code"), none, (.fields #[(.str "whole" 1761), (.str "whole" 1762), (.str "/claim/cut.py" 1763), (.int 1156 0), (.int 2 0), (.int 0 0), (.int 0 0), (.int 3 0), (.ref 1103), (.bool true), (.int 181 0), (.ref 1104), .none, (.ref 1105), (.ref 1106), (.ref 1107), (.int 1770 0), (.int 1156 0), (.str "/claim/cut.py" 1771)]), #[]⟩
noncomputable def o1109 (P : Params) : Obj := ⟨(.type "function"), none, (.func ⟨"whole", "whole", fA (st 152), .stmts (fB (st 152)), fS (st 152), 3, [], .none, .none, .none, (.str "gateloom.elabexpr" 1491), none, (.ref 1108), .none, 0⟩), #[]⟩
noncomputable def o1110 (P : Params) : Obj := ⟨(.type "tuple"), none, (.seq #[] 0), #[]⟩
noncomputable def o1111 (P : Params) : Obj := ⟨.none, none, (.fields #[]), #[]⟩
noncomputable def o1112 (P : Params) : Obj := ⟨(.type "tuple"), none, (.seq #[(.str "scope" 1776), (.str "e" 1777), (.str "number" 1778)] 0), #[]⟩
noncomputable def o1113 (P : Params) : Obj := ⟨(.type "tuple"), none, (.seq #[] 0), #[]⟩
noncomputable def o1114 (P : Params) : Obj := ⟨.none, none, (.func ⟨"small_whole", "small_whole", fA (st 153), .stmts (fB (st 153)), fS (st 153), 0, [], .none, .none, .none, .none, none, .none, .none, 0⟩), #[]⟩
noncomputable def o1115 (P : Params) : Obj := ⟨(.type "code"), none, (.fields #[(.str "small_whole" 1773), (.str "small_whole" 1774), (.str "/claim/cut.py" 1775), (.int 1169 0), (.int 2 0), (.int 0 0), (.int 0 0), (.int 3 0), (.ref 1110), (.bool true), (.int 181 0), (.ref 1111), .none, (.ref 1112), (.ref 1113), (.ref 1114), (.int 1779 0), (.int 1169 0), (.str "/claim/cut.py" 1780)]), #[]⟩
noncomputable def o1116 (P : Params) : Obj := ⟨(.type "function"), none, (.func ⟨"small_whole", "small_whole", fA (st 153), .stmts (fB (st 153)), fS (st 153), 3, [], .none, .none, .none, (.str "gateloom.elabexpr" 1491), none, (.ref 1115), .none, 0⟩), #[]⟩
noncomputable def o1117 (P : Params) : Obj := ⟨(.type "tuple"), none, (.seq #[] 0), #[]⟩
noncomputable def o1118 (P : Params) : Obj := ⟨.none, none, (.fields #[]), #[]⟩
noncomputable def o1119 (P : Params) : Obj := ⟨(.type "tuple"), none, (.seq #[] 0), #[]⟩
noncomputable def o1120 (P : Params) : Obj := ⟨(.type "tuple"), none, (.seq #[] 0), #[]⟩
noncomputable def o1121 (P : Params) : Obj := ⟨.none, none, (.func ⟨"net_kinds", "net_kinds", fA (st 155), .stmts (fB (st 155)), fS (st 155), 0, [], .none, .none, .none, .none, none, .none, .none, 0⟩), #[]⟩
noncomputable def o1122 (P : Params) : Obj := ⟨(.type "code"), none, (.fields #[(.str "net_kinds" 1784), (.str "net_kinds" 1785), (.str "/claim/cut.py" 1786), (.int 1175 0), (.int 0 0), (.int 0 0), (.int 0 0), (.int 3 0), (.ref 1117), (.bool true), (.int 181 0), (.ref 1118), .none, (.ref 1119), (.ref 1120), (.ref 1121), (.int 1787 0), (.int 1175 0), (.str "/claim/cut.py" 1788)]), #[]⟩
noncomputable def o1123 (P : Params) : Obj := ⟨(.type "function"), none, (.func ⟨"net_kinds", "net_kinds", fA (st 155), .stmts (fB (st 155)), fS (st 155), 3, [], .none, .none, .none, (.str "gateloom.design" 1782), none, (.ref 1122), .none, 0⟩), #[]⟩
noncomputable def o1124 (P : Params) : Obj := ⟨(.type "tuple"), none, (.seq #[] 0), #[]⟩
noncomputable def o1125 (P : Params) : Obj := ⟨(.type "builtin_function_or_method"), none, (.fields #[(.builtin "type.__prepare__"), (.type "type")]), #[]⟩
noncomputable def o1126 (P : Params) : Obj := ⟨(.type "dict"), none, (.dict #[dE P "__module__" 1797 (.str "gateloom.design" 1782), dE P "__qualname__" 1799 (.str "Signal" 1798), dE P "__firstlineno__" 1801 (.int 1177 1800), dE P "__init__" 1815 (.ref 1137), dE P "is_net" 1822 (.ref 1144), dE P "is_memory" 1829 (.ref 1151), dE P "words" 1836 (.ref 1158), dE P "offset" 1845 (.ref 1165), dE P "place" 1854 (.ref 1172), dE P "__static_attributes__" 1867 (.ref 1173)] 10), #[]⟩
noncomputable def o1127 (P : Params) : Obj := ⟨(.type "tuple"), none, (.seq #[] 0), #[]⟩
noncomputable def o1128 (P : Params) : Obj := ⟨.none, none, (.fields #[(.int 1179 0), (.int 4 0), (.ref 1136), (.int 1193 0), (.int 4 0), (.ref 1143), (.int 1196 0), (.int 4 0), (.ref 1150), (.int 1199 0), (.int 4 0), (.ref 1157), (.int 1204 0), (.int 4 0), (.ref 1164), (.int 1213 0), (.int 4 0), (.ref 1171)]), #[]⟩
noncomputable def o1129 (P : Params) : Obj := ⟨(.type "code"), none, (.fields #[(.str "Signal" 1792), (.str "Signal" 1793), (.str "/claim/cut.py" 1794), (.int 1177 0), (.int 0 0), (.int 0 0), (.int 0 0), (.int 0 0), (.ref 1127), (.bool false), (.int 181 0), (.ref 1128), .none, .none, .none, .none, (.int 1795 0), (.int 1177 0), (.str "/claim/cut.py" 1796)]), #[]⟩
noncomputable def o1130 (P : Params) : Obj := ⟨(.type "frame"), none, .plain, #[some (.ref 1129), some (.ref 3), some (.ref 1126), none, some (.str "gateloom.design" 1782), none, some (.ref 0)]⟩
noncomputable def o1131 (P : Params) : Obj := ⟨(.type "tuple"), none, (.seq #[] 0), #[]⟩
noncomputable def o1132 (P : Params) : Obj := ⟨.none, none, (.fields #[]), #[]⟩
noncomputable def o1133 (P : Params) : Obj := ⟨(.type "tuple"), none, (.seq #[(.str "self" 1805), (.str "key" 1806), (.str "path" 1807), (.str "kind" 1808), (.str "width" 1809), (.str "signed" 1810), (.str "msb" 1811), (.str "lsb" 1812)] 0), #[]⟩
noncomputable def o1134 (P : Params) : Obj := ⟨(.type "tuple"), none, (.seq #[] 0), #[]⟩
noncomputable def o1135 (P : Params) : Obj := ⟨.none, none, (.func ⟨"__init__", "Signal.__init__", fA (su 156 0), .stmts (fB (su 156 0)), fS (su 156 0), 0, [], .none, .none, .none, .none, none, .none, .none, 0⟩), #[]⟩
noncomputable def o1136 (P : Params) : Obj := ⟨(.type "code"), none, (.fields #[(.str "__init__" 1802), (.str "Signal.__init__" 1803), (.str "/claim/cut.py" 1804), (.int 1179 0), (.int 8 0), (.int 0 0), (.int 0 0), (.int 3 0), (.ref 1131), (.bool true), (.int 181 0), (.ref 1132), .none, (.ref 1133), (.ref 1134), (.ref 1135), (.int 1813 0), (.int 1179 0), (.str "/claim/cut.py" 1814)]), #[]⟩
noncomputable def o1137 (P : Params) : Obj := ⟨(.type "function"), none, (.func ⟨"__init__", "Signal.__init__", fA (su 156 0), .stmts (fB (su 156 0)), fS (su 156 0), 3, [], .none, .none, .none, (.str "gateloom.design" 1782), none, (.ref 1136), .none, 0⟩), #[]⟩
noncomputable def o1138 (P : Params) : Obj := ⟨(.type "tuple"), none, (.seq #[] 0), #[]⟩
noncomputable def o1139 (P : Params) : Obj := ⟨.none, none, (.fields #[]), #[]⟩
noncomputable def o1140 (P : Params) : Obj := ⟨(.type "tuple"), none, (.seq #[(.str "self" 1819)] 0), #[]⟩
noncomputable def o1141 (P : Params) : Obj := ⟨(.type "tuple"), none, (.seq #[] 0), #[]⟩
noncomputable def o1142 (P : Params) : Obj := ⟨.none, none, (.func ⟨"is_net", "Signal.is_net", fA (su 156 1), .stmts (fB (su 156 1)), fS (su 156 1), 0, [], .none, .none, .none, .none, none, .none, .none, 0⟩), #[]⟩
noncomputable def o1143 (P : Params) : Obj := ⟨(.type "code"), none, (.fields #[(.str "is_net" 1816), (.str "Signal.is_net" 1817), (.str "/claim/cut.py" 1818), (.int 1193 0), (.int 1 0), (.int 0 0), (.int 0 0), (.int 3 0), (.ref 1138), (.bool true), (.int 181 0), (.ref 1139), .none, (.ref 1140), (.ref 1141), (.ref 1142), (.int 1820 0), (.int 1193 0), (.str "/claim/cut.py" 1821)]), #[]⟩
noncomputable def o1144 (P : Params) : Obj := ⟨(.type "function"), none, (.func ⟨"is_net", "Signal.is_net", fA (su 156 1), .stmts (fB (su 156 1)), fS (su 156 1), 3, [], .none, .none, .none, (.str "gateloom.design" 1782), none, (.ref 1143), .none, 0⟩), #[]⟩
noncomputable def o1145 (P : Params) : Obj := ⟨(.type "tuple"), none, (.seq #[] 0), #[]⟩
noncomputable def o1146 (P : Params) : Obj := ⟨.none, none, (.fields #[]), #[]⟩
noncomputable def o1147 (P : Params) : Obj := ⟨(.type "tuple"), none, (.seq #[(.str "self" 1826)] 0), #[]⟩
noncomputable def o1148 (P : Params) : Obj := ⟨(.type "tuple"), none, (.seq #[] 0), #[]⟩
noncomputable def o1149 (P : Params) : Obj := ⟨.none, none, (.func ⟨"is_memory", "Signal.is_memory", fA (su 156 2), .stmts (fB (su 156 2)), fS (su 156 2), 0, [], .none, .none, .none, .none, none, .none, .none, 0⟩), #[]⟩
noncomputable def o1150 (P : Params) : Obj := ⟨(.type "code"), none, (.fields #[(.str "is_memory" 1823), (.str "Signal.is_memory" 1824), (.str "/claim/cut.py" 1825), (.int 1196 0), (.int 1 0), (.int 0 0), (.int 0 0), (.int 3 0), (.ref 1145), (.bool true), (.int 181 0), (.ref 1146), .none, (.ref 1147), (.ref 1148), (.ref 1149), (.int 1827 0), (.int 1196 0), (.str "/claim/cut.py" 1828)]), #[]⟩
noncomputable def o1151 (P : Params) : Obj := ⟨(.type "function"), none, (.func ⟨"is_memory", "Signal.is_memory", fA (su 156 2), .stmts (fB (su 156 2)), fS (su 156 2), 3, [], .none, .none, .none, (.str "gateloom.design" 1782), none, (.ref 1150), .none, 0⟩), #[]⟩
noncomputable def o1152 (P : Params) : Obj := ⟨(.type "tuple"), none, (.seq #[] 0), #[]⟩
noncomputable def o1153 (P : Params) : Obj := ⟨.none, none, (.fields #[]), #[]⟩
noncomputable def o1154 (P : Params) : Obj := ⟨(.type "tuple"), none, (.seq #[(.str "self" 1833)] 0), #[]⟩
noncomputable def o1155 (P : Params) : Obj := ⟨(.type "tuple"), none, (.seq #[] 0), #[]⟩
noncomputable def o1156 (P : Params) : Obj := ⟨.none, none, (.func ⟨"words", "Signal.words", fA (su 156 3), .stmts (fB (su 156 3)), fS (su 156 3), 0, [], .none, .none, .none, .none, none, .none, .none, 0⟩), #[]⟩
noncomputable def o1157 (P : Params) : Obj := ⟨(.type "code"), none, (.fields #[(.str "words" 1830), (.str "Signal.words" 1831), (.str "/claim/cut.py" 1832), (.int 1199 0), (.int 1 0), (.int 0 0), (.int 0 0), (.int 3 0), (.ref 1152), (.bool true), (.int 181 0), (.ref 1153), .none, (.ref 1154), (.ref 1155), (.ref 1156), (.int 1834 0), (.int 1199 0), (.str "/claim/cut.py" 1835)]), #[]⟩
noncomputable def o1158 (P : Params) : Obj := ⟨(.type "function"), none, (.func ⟨"words", "Signal.words", fA (su 156 3), .stmts (fB (su 156 3)), fS (su 156 3), 3, [], .none, .none, .none, (.str "gateloom.design" 1782), none, (.ref 1157), .none, 0⟩), #[]⟩
noncomputable def o1159 (P : Params) : Obj := ⟨(.type "tuple"), none, (.seq #[] 0), #[]⟩
noncomputable def o1160 (P : Params) : Obj := ⟨.none, none, (.fields #[]), #[]⟩
noncomputable def o1161 (P : Params) : Obj := ⟨(.type "tuple"), none, (.seq #[(.str "self" 1840), (.str "index" 1841), (.str "place" 1842)] 0), #[]⟩
noncomputable def o1162 (P : Params) : Obj := ⟨(.type "tuple"), none, (.seq #[] 0), #[]⟩
noncomputable def o1163 (P : Params) : Obj := ⟨.none, none, (.func ⟨"offset", "Signal.offset", fA (su 156 4), .stmts (fB (su 156 4)), fS (su 156 4), 0, [], .none, .none, .none, .none, none, .none, .none, 0⟩), #[]⟩
noncomputable def o1164 (P : Params) : Obj := ⟨(.type "code"), none, (.fields #[(.str "offset" 1837), (.str "Signal.offset" 1838), (.str "/claim/cut.py" 1839), (.int 1204 0), (.int 2 0), (.int 0 0), (.int 0 0), (.int 3 0), (.ref 1159), (.bool true), (.int 181 0), (.ref 1160), .none, (.ref 1161), (.ref 1162), (.ref 1163), (.int 1843 0), (.int 1204 0), (.str "/claim/cut.py" 1844)]), #[]⟩
noncomputable def o1165 (P : Params) : Obj := ⟨(.type "function"), none, (.func ⟨"offset", "Signal.offset", fA (su 156 4), .stmts (fB (su 156 4)), fS (su 156 4), 3, [], .none, .none, .none, (.str "gateloom.design" 1782), none, (.ref 1164), .none, 0⟩), #[]⟩
noncomputable def o1166 (P : Params) : Obj := ⟨(.type "tuple"), none, (.seq #[] 0), #[]⟩
noncomputable def o1167 (P : Params) : Obj := ⟨.none, none, (.fields #[]), #[]⟩
noncomputable def o1168 (P : Params) : Obj := ⟨(.type "tuple"), none, (.seq #[(.str "self" 1849), (.str "index" 1850), (.str "place" 1851)] 0), #[]⟩
noncomputable def o1169 (P : Params) : Obj := ⟨(.type "tuple"), none, (.seq #[] 0), #[]⟩
noncomputable def o1170 (P : Params) : Obj := ⟨.none, none, (.func ⟨"place", "Signal.place", fA (su 156 5), .stmts (fB (su 156 5)), fS (su 156 5), 0, [], .none, .none, .none, .none, none, .none, .none, 0⟩), #[]⟩
noncomputable def o1171 (P : Params) : Obj := ⟨(.type "code"), none, (.fields #[(.str "place" 1846), (.str "Signal.place" 1847), (.str "/claim/cut.py" 1848), (.int 1213 0), (.int 2 0), (.int 0 0), (.int 0 0), (.int 3 0), (.ref 1166), (.bool true), (.int 181 0), (.ref 1167), .none, (.ref 1168), (.ref 1169), (.ref 1170), (.int 1852 0), (.int 1213 0), (.str "/claim/cut.py" 1853)]), #[]⟩
noncomputable def o1172 (P : Params) : Obj := ⟨(.type "function"), none, (.func ⟨"place", "Signal.place", fA (su 156 5), .stmts (fB (su 156 5)), fS (su 156 5), 3, [], .none, .none, .none, (.str "gateloom.design" 1782), none, (.ref 1171), .none, 0⟩), #[]⟩
noncomputable def o1173 (P : Params) : Obj := ⟨(.type "tuple"), none, (.seq #[(.str "at" 1855), (.str "first" 1856), (.str "init" 1857), (.str "key" 1858), (.str "kind" 1859), (.str "last" 1860), (.str "lsb" 1861), (.str "msb" 1862), (.str "path" 1863), (.str "scalar" 1864), (.str "signed" 1865), (.str "width" 1866)] 0), #[]⟩
noncomputable def o1174 (P : Params) : Obj := ⟨(.type "dict"), none, (.dict #[dE P "__module__" 1797 (.str "gateloom.design" 1782), dE P "__firstlineno__" 1801 (.int 1177 1800), dE P "__init__" 1815 (.ref 1137), dE P "is_net" 1822 (.ref 1144), dE P "is_memory" 1829 (.ref 1151), dE P "words" 1836 (.ref 1158), dE P "offset" 1845 (.ref 1165), dE P "place" 1854 (.ref 1172), dE P "__static_attributes__" 1867 (.ref 1173), dE P "__dict__" 1869 (.ref 1176), dE P "__weakref__" 1871 (.ref 1177), dE P "__doc__" 1872 .none] 4), #[]⟩
noncomputable def o1175 (P : Params) : Obj := ⟨(.type "type"), none, (.cls ⟨"Signal", [(.type "object")], [(.ref 1175), (.type "object")], 1174, "Signal", true, [], [], false, none, false⟩), #[none, none, some (.str "Signal" 1790), some (.str "Signal" 1798), some (.builtin "object.__new__"), some (.bool true)]⟩
noncomputable def o1176 (P : Params) : Obj := ⟨(.type "getset_descriptor"), none, (.fields #[(.str "__dict__" 1868), (.ref 1175), (.builtin "function.__dict__"), (.builtin "function.__dict__#set")]), #[]⟩
noncomputable def o1177 (P : Params) : Obj := ⟨(.type "getset_descriptor"), none, (.fields #[(.str "__weakref__" 1870), (.ref 1175), (.builtin "ExceptionGroup.__weakref__"), .none]), #[]⟩
noncomputable def o1178 (P : Params) : Obj := ⟨(.type "super"), none, (.fields #[(.ref 1175), (.ref 1175), (.ref 1175)]), #[]⟩
noncomputable def o1179 (P : Params) : Obj := ⟨(.type "builtin_function_or_method"), none, (.fields #[(.builtin "object.__init_subclass__"), (.ref 1175)]), #[]⟩
noncomputable def o1180 (P : Params) : Obj := ⟨(.type "tuple"), none, (.seq #[] 0), #[]⟩
noncomputable def o1181 (P : Params) : Obj := ⟨(.type "builtin_function_or_method"), none, (.fields #[(.builtin "type.__prepare__"), (.type "type")]), #[]⟩
noncomputable def o1182 (P : Params) : Obj := ⟨(.type "dict"), none, (.dict #[dE P "__module__" 1882 (.str "gateloom.design" 1782), dE P "__qualname__" 1884 (.str "Design" 1883), dE P "__firstlineno__" 1886 (.int 1223 1885), dE P "__init__" 1893 (.ref 1193), dE P "add_signal" 1908 (.ref 1200), dE P "add_scope" 1916 (.ref 1207), dE P "add_routine" 1927 (.ref 1214), dE P "add_process" 1938 (.ref 1221), dE P "find" 1946 (.ref 1228), dE P "routine" 1955 (.ref 1235), dE P "__static_attributes__" 1968 (.ref 1236)] 11), #[]⟩
noncomputable def o1183 (P : Params) : Obj := ⟨(.type "tuple"), none, (.seq #[] 0), #[]⟩
noncomputable def o1184 (P : Params) : Obj := ⟨.none, none, (.fields #[(.int 1225 0), (.int 4 0), (.ref 1192), (.int 1239 0), (.int 4 0), (.ref 1199), (.int 1246 0), (.int 4 0), (.ref 1206), (.int 1250 0), (.int 4 0), (.ref 1213), (.int 1253 0), (.int 4 0), (.ref 1220), (.int 1256 0), (.int 4 0), (.ref 1227), (.int 1259 0), (.int 4 0), (.ref 1234)]), #[]⟩
noncomputable def o1185 (P : Params) : Obj := ⟨(.type "code"), none, (.fields #[(.str "Design" 1877), (.str "Design" 1878), (.str "/claim/cut.py" 1879), (.int 1223 0), (.int 0 0), (.int 0 0), (.int 0 0), (.int 0 0), (.ref 1183), (.bool false), (.int 181 0), (.ref 1184), .none, .none, .none, .none, (.int 1880 0), (.int 1223 0), (.str "/claim/cut.py" 1881)]), #[]⟩
noncomputable def o1186 (P : Params) : Obj := ⟨(.type "frame"), none, .plain, #[some (.ref 1185), some (.ref 3), some (.ref 1182), none, some (.str "gateloom.design" 1782), none, some (.ref 0)]⟩
noncomputable def o1187 (P : Params) : Obj := ⟨(.type "tuple"), none, (.seq #[] 0), #[]⟩
noncomputable def o1188 (P : Params) : Obj := ⟨.none, none, (.fields #[]), #[]⟩
noncomputable def o1189 (P : Params) : Obj := ⟨(.type "tuple"), none, (.seq #[(.str "self" 1890)] 0), #[]⟩
noncomputable def o1190 (P : Params) : Obj := ⟨(.type "tuple"), none, (.seq #[] 0), #[]⟩
noncomputable def o1191 (P : Params) : Obj := ⟨.none, none, (.func ⟨"__init__", "Design.__init__", fA (su 157 0), .stmts (fB (su 157 0)), fS (su 157 0), 0, [], .none, .none, .none, .none, none, .none, .none, 0⟩), #[]⟩
noncomputable def o1192 (P : Params) : Obj := ⟨(.type "code"), none, (.fields #[(.str "__init__" 1887), (.str "Design.__init__" 1888), (.str "/claim/cut.py" 1889), (.int 1225 0), (.int 1 0), (.int 0 0), (.int 0 0), (.int 3 0), (.ref 1187), (.bool true), (.int 181 0), (.ref 1188), .none, (.ref 1189), (.ref 1190), (.ref 1191), (.int 1891 0), (.int 1225 0), (.str "/claim/cut.py" 1892)]), #[]⟩
noncomputable def o1193 (P : Params) : Obj := ⟨(.type "function"), none, (.func ⟨"__init__", "Design.__init__", fA (su 157 0), .stmts (fB (su 157 0)), fS (su 157 0), 3, [], .none, .none, .none, (.str "gateloom.design" 1782), none, (.ref 1192), .none, 0⟩), #[]⟩
noncomputable def o1194 (P : Params) : Obj := ⟨(.type "tuple"), none, (.seq #[] 0), #[]⟩
noncomputable def o1195 (P : Params) : Obj := ⟨.none, none, (.fields #[]), #[]⟩
noncomputable def o1196 (P : Params) : Obj := ⟨(.type "tuple"), none, (.seq #[(.str "self" 1897), (.str "path" 1898), (.str "kind" 1899), (.str "width" 1900), (.str "signed" 1901), (.str "msb" 1902), (.str "lsb" 1903), (.str "at" 1904), (.str "signal" 1905)] 0), #[]⟩
noncomputable def o1197 (P : Params) : Obj := ⟨(.type "tuple"), none, (.seq #[] 0), #[]⟩
noncomputable def o1198 (P : Params) : Obj := ⟨.none, none, (.func ⟨"add_signal", "Design.add_signal", fA (su 157 1), .stmts (fB (su 157 1)), fS (su 157 1), 0, [], .none, .none, .none, .none, none, .none, .none, 0⟩), #[]⟩
noncomputable def o1199 (P : Params) : Obj := ⟨(.type "code"), none, (.fields #[(.str "add_signal" 1894), (.str "Design.add_signal" 1895), (.str "/claim/cut.py" 1896), (.int 1239 0), (.int 8 0), (.int 0 0), (.int 0 0), (.int 3 0), (.ref 1194), (.bool true), (.int 181 0), (.ref 1195), .none, (.ref 1196), (.ref 1197), (.ref 1198), (.int 1906 0), (.int 1239 0), (.str "/claim/cut.py" 1907)]), #[]⟩
noncomputable def o1200 (P : Params) : Obj := ⟨(.type "function"), none, (.func ⟨"add_signal", "Design.add_signal", fA (su 157 1), .stmts (fB (su 157 1)), fS (su 157 1), 3, [], .none, .none, .none, (.str "gateloom.design" 1782), none, (.ref 1199), .none, 0⟩), #[]⟩
noncomputable def o1201 (P : Params) : Obj := ⟨(.type "tuple"), none, (.seq #[] 0), #[]⟩
noncomputable def o1202 (P : Params) : Obj := ⟨.none, none, (.fields #[]), #[]⟩
noncomputable def o1203 (P : Params) : Obj := ⟨(.type "tuple"), none, (.seq #[(.str "self" 1912), (.str "path" 1913)] 0), #[]⟩
noncomputable def o1204 (P : Params) : Obj := ⟨(.type "tuple"), none, (.seq #[] 0), #[]⟩
noncomputable def o1205 (P : Params) : Obj := ⟨.none, none, (.func ⟨"add_scope", "Design.add_scope", fA (su 157 2), .stmts (fB (su 157 2)), fS (su 157 2), 0, [], .none, .none, .none, .none, none, .none, .none, 0⟩), #[]⟩
noncomputable def o1206 (P : Params) : Obj := ⟨(.type "code"), none, (.fields #[(.str "add_scope" 1909), (.str "Design.add_scope" 1910), (.str "/claim/cut.py" 1911), (.int 1246 0), (.int 2 0), (.int 0 0), (.int 0 0), (.int 3 0), (.ref 1201), (.bool true), (.int 181 0), (.ref 1202), .none, (.ref 1203), (.ref 1204), (.ref 1205), (.int 1914 0), (.int 1246 0), (.str "/claim/cut.py" 1915)]), #[]⟩
noncomputable def o1207 (P : Params) : Obj := ⟨(.type "function"), none, (.func ⟨"add_scope", "Design.add_scope", fA (su 157 2), .stmts (fB (su 157 2)), fS (su 157 2), 3, [], .none, .none, .none, (.str "gateloom.design" 1782), none, (.ref 1206), .none, 0⟩), #[]⟩
noncomputable def o1208 (P : Params) : Obj := ⟨(.type "tuple"), none, (.seq #[] 0), #[]⟩
noncomputable def o1209 (P : Params) : Obj := ⟨.none, none, (.fields #[]), #[]⟩
noncomputable def o1210 (P : Params) : Obj := ⟨(.type "tuple"), none, (.seq #[(.str "self" 1920), (.str "path" 1921), (.str "is_function" 1922), (.str "automatic" 1923), (.str "at" 1924)] 0), #[]⟩
noncomputable def o1211 (P : Params) : Obj := ⟨(.type "tuple"), none, (.seq #[] 0), #[]⟩
noncomputable def o1212 (P : Params) : Obj := ⟨.none, none, (.func ⟨"add_routine", "Design.add_routine", fA (su 157 3), .stmts (fB (su 157 3)), fS (su 157 3), 0, [], .none, .none, .none, .none, none, .none, .none, 0⟩), #[]⟩
noncomputable def o1213 (P : Params) : Obj := ⟨(.type "code"), none, (.fields #[(.str "add_routine" 1917), (.str "Design.add_routine" 1918), (.str "/claim/cut.py" 1919), (.int 1250 0), (.int 5 0), (.int 0 0), (.int 0 0), (.int 3 0), (.ref 1208), (.bool true), (.int 181 0), (.ref 1209), .none, (.ref 1210), (.ref 1211), (.ref 1212), (.int 1925 0), (.int 1250 0), (.str "/claim/cut.py" 1926)]), #[]⟩
noncomputable def o1214 (P : Params) : Obj := ⟨(.type "function"), none, (.func ⟨"add_routine", "Design.add_routine", fA (su 157 3), .stmts (fB (su 157 3)), fS (su 157 3), 3, [], .none, .none, .none, (.str "gateloom.design" 1782), none, (.ref 1213), .none, 0⟩), #[]⟩
noncomputable def o1215 (P : Params) : Obj := ⟨(.type "tuple"), none, (.seq #[] 0), #[]⟩
noncomputable def o1216 (P : Params) : Obj := ⟨.none, none, (.fields #[]), #[]⟩
noncomputable def o1217 (P : Params) : Obj := ⟨(.type "tuple"), none, (.seq #[(.str "self" 1931), (.str "kind" 1932), (.str "body" 1933), (.str "path" 1934), (.str "at" 1935)] 0), #[]⟩
noncomputable def o1218 (P : Params) : Obj := ⟨(.type "tuple"), none, (.seq #[] 0), #[]⟩
noncomputable def o1219 (P : Params) : Obj := ⟨.none, none, (.func ⟨"add_process", "Design.add_process", fA (su 157 4), .stmts (fB (su 157 4)), fS (su 157 4), 0, [], .none, .none, .none, .none, none, .none, .none, 0⟩), #[]⟩
noncomputable def o1220 (P : Params) : Obj := ⟨(.type "code"), none, (.fields #[(.str "add_process" 1928), (.str "Design.add_process" 1929), (.str "/claim/cut.py" 1930), (.int 1253 0), (.int 5 0), (.int 0 0), (.int 0 0), (.int 3 0), (.ref 1215), (.bool true), (.int 181 0), (.ref 1216), .none, (.ref 1217), (.ref 1218), (.ref 1219), (.int 1936 0), (.int 1253 0), (.str "/claim/cut.py" 1937)]), #[]⟩
noncomputable def o1221 (P : Params) : Obj := ⟨(.type "function"), none, (.func ⟨"add_process", "Design.add_process", fA (su 157 4), .stmts (fB (su 157 4)), fS (su 157 4), 3, [], .none, .none, .none, (.str "gateloom.design" 1782), none, (.ref 1220), .none, 0⟩), #[]⟩
noncomputable def o1222 (P : Params) : Obj := ⟨(.type "tuple"), none, (.seq #[] 0), #[]⟩
noncomputable def o1223 (P : Params) : Obj := ⟨.none, none, (.fields #[]), #[]⟩
noncomputable def o1224 (P : Params) : Obj := ⟨(.type "tuple"), none, (.seq #[(.str "self" 1942), (.str "path" 1943)] 0), #[]⟩
noncomputable def o1225 (P : Params) : Obj := ⟨(.type "tuple"), none, (.seq #[] 0), #[]⟩
noncomputable def o1226 (P : Params) : Obj := ⟨.none, none, (.func ⟨"find", "Design.find", fA (su 157 5), .stmts (fB (su 157 5)), fS (su 157 5), 0, [], .none, .none, .none, .none, none, .none, .none, 0⟩), #[]⟩
noncomputable def o1227 (P : Params) : Obj := ⟨(.type "code"), none, (.fields #[(.str "find" 1939), (.str "Design.find" 1940), (.str "/claim/cut.py" 1941), (.int 1256 0), (.int 2 0), (.int 0 0), (.int 0 0), (.int 3 0), (.ref 1222), (.bool true), (.int 181 0), (.ref 1223), .none, (.ref 1224), (.ref 1225), (.ref 1226), (.int 1944 0), (.int 1256 0), (.str "/claim/cut.py" 1945)]), #[]⟩
noncomputable def o1228 (P : Params) : Obj := ⟨(.type "function"), none, (.func ⟨"find", "Design.find", fA (su 157 5), .stmts (fB (su 157 5)), fS (su 157 5), 3, [], .none, .none, .none, (.str "gateloom.design" 1782), none, (.ref 1227), .none, 0⟩), #[]⟩
noncomputable def o1229 (P : Params) : Obj := ⟨(.type "tuple"), none, (.seq #[] 0), #[]⟩
noncomputable def o1230 (P : Params) : Obj := ⟨.none, none, (.fields #[]), #[]⟩
noncomputable def o1231 (P : Params) : Obj := ⟨(.type "tuple"), none, (.seq #[(.str "self" 1950), (.str "n" 1951), (.str "routine" 1952)] 0), #[]⟩
noncomputable def o1232 (P : Params) : Obj := ⟨(.type "tuple"), none, (.seq #[] 0), #[]⟩
noncomputable def o1233 (P : Params) : Obj := ⟨.none, none, (.func ⟨"routine", "Design.routine", fA (su 157 6), .stmts (fB (su 157 6)), fS (su 157 6), 0, [], .none, .none, .none, .none, none, .none, .none, 0⟩), #[]⟩
noncomputable def o1234 (P : Params) : Obj := ⟨(.type "code"), none, (.fields #[(.str "routine" 1947), (.str "Design.routine" 1948), (.str "/claim/cut.py" 1949), (.int 1259 0), (.int 2 0), (.int 0 0), (.int 0 0), (.int 3 0), (.ref 1229), (.bool true), (.int 181 0), (.ref 1230), .none, (.ref 1231), (.ref 1232), (.ref 1233), (.int 1953 0), (.int 1259 0), (.str "/claim/cut.py" 1954)]), #[]⟩
noncomputable def o1235 (P : Params) : Obj := ⟨(.type "function"), none, (.func ⟨"routine", "Design.routine", fA (su 157 6), .stmts (fB (su 157 6)), fS (su 157 6), 3, [], .none, .none, .none, (.str "gateloom.design" 1782), none, (.ref 1234), .none, 0⟩), #[]⟩
noncomputable def o1236 (P : Params) : Obj := ⟨(.type "tuple"), none, (.seq #[(.str "assigns" 1956), (.str "by_path" 1957), (.str "gates" 1958), (.str "maker" 1959), (.str "nesting" 1960), (.str "ports" 1961), (.str "processes" 1962), (.str "routines" 1963), (.str "scopes" 1964), (.str "signals" 1965), (.str "tops" 1966), (.str "udps" 1967)] 0), #[]⟩
noncomputable def o1237 (P : Params) : Obj := ⟨(.type "dict"), none, (.dict #[dE P "__module__" 1882 (.str "gateloom.design" 1782), dE P "__firstlineno__" 1886 (.int 1223 1885), dE P "__init__" 1893 (.ref 1193), dE P "add_signal" 1908 (.ref 1200), dE P "add_scope" 1916 (.ref 1207), dE P "add_routine" 1927 (.ref 1214), dE P "add_process" 1938 (.ref 1221), dE P "find" 1946 (.ref 1228), dE P "routine" 1955 (.ref 1235), dE P "__static_attributes__" 1968 (.ref 1236), dE P "__dict__" 1970 (.ref 1239), dE P "__weakref__" 1972 (.ref 1240), dE P "__doc__" 1973 .none] 4), #[]⟩
noncomputable def o1238 (P : Params) : Obj := ⟨(.type "type"), none, (.cls ⟨"Design", [(.type "object")], [(.ref 1238), (.type "object")], 1237, "Design", true, [], [], false, none, false⟩), #[none, none, some (.str "Design" 1875), some (.str "Design" 1883), some (.builtin "object.__new__"), some (.bool true)]⟩
noncomputable def o1239 (P : Params) : Obj := ⟨(.type "getset_descriptor"), none, (.fields #[(.str "__dict__" 1969), (.ref 1238), (.builtin "function.__dict__"), (.builtin "function.__dict__#set")]), #[]⟩
noncomputable def o1240 (P : Params) : Obj := ⟨(.type "getset_descriptor"), none, (.fields #[(.str "__weakref__" 1971), (.ref 1238), (.builtin "ExceptionGroup.__weakref__"), .none]), #[]⟩
noncomputable def o1241 (P : Params) : Obj := ⟨(.type "super"), none, (.fields #[(.ref 1238), (.ref 1238), (.ref 1238)]), #[]⟩
noncomputable def o1242 (P : Params) : Obj := ⟨(.type "builtin_function_or_method"), none, (.fields #[(.builtin "object.__init_subclass__"), (.ref 1238)]), #[]⟩
noncomputable def o1243 (P : Params) : Obj := ⟨(.type "tuple"), none, (.seq #[] 0), #[]⟩
noncomputable def o1244 (P : Params) : Obj := ⟨(.type "builtin_function_or_method"), none, (.fields #[(.builtin "type.__prepare__"), (.type "type")]), #[]⟩
noncomputable def o1245 (P : Params) : Obj := ⟨(.type "dict"), none, (.dict #[dE P "__module__" 1985 (.str "gateloom.scopes" 1976), dE P "__qualname__" 1987 (.str "Scope" 1986), dE P "__firstlineno__" 1989 (.int 1267 1988), dE P "__init__" 2000 (.ref 1256), dE P "child" 2011 (.ref 1263), dE P "declare" 2021 (.ref 1270), dE P "module_scope" 2028 (.ref 1277), dE P "lookup" 2037 (.ref 1284), dE P "lookup_routine" 2047 (.ref 1291), dE P "descend" 2059 (.ref 1298), dE P "resolve" 2070 (.ref 1305), dE P "answers_to" 2078 (.ref 1312), dE P "__static_attributes__" 2088 (.ref 1313)] 13), #[]⟩
noncomputable def o1246 (P : Params) : Obj := ⟨(.type "tuple"), none, (.seq #[] 0), #[]⟩
noncomputable def o1247 (P : Params) : Obj := ⟨.none, none, (.fields #[(.int 1269 0), (.int 4 0), (.ref 1255), (.int 1283 0), (.int 4 0), (.ref 1262), (.int 1288 0), (.int 4 0), (.ref 1269), (.int 1293 0), (.int 4 0), (.ref 1276), (.int 1296 0), (.int 4 0), (.ref 1283), (.int 1306 0), (.int 4 0), (.ref 1290), (.int 1317 0), (.int 4 0), (.ref 1297), (.int 1336 0), (.int 4 0), (.ref 1304), (.int 1347 0), (.int 4 0), (.ref 1311)]), #[]⟩
noncomputable def o1248 (P : Params) : Obj := ⟨(.type "code"), none, (.fields #[(.str "Scope" 1980), (.str "Scope" 1981), (.str "/claim/cut.py" 1982), (.int 1267 0), (.int 0 0), (.int 0 0), (.int 0 0), (.int 0 0), (.ref 1246), (.bool false), (.int 181 0), (.ref 1247), .none, .none, .none, .none, (.int 1983 0), (.int 1267 0), (.str "/claim/cut.py" 1984)]), #[]⟩
noncomputable def o1249 (P : Params) : Obj := ⟨(.type "frame"), none, .plain, #[some (.ref 1248), some (.ref 3), some (.ref 1245), none, some (.str "gateloom.scopes" 1976), none, some (.ref 0)]⟩
noncomputable def o1250 (P : Params) : Obj := ⟨(.type "tuple"), none, (.seq #[] 0), #[]⟩
noncomputable def o1251 (P : Params) : Obj := ⟨.none, none, (.fields #[]), #[]⟩
noncomputable def o1252 (P : Params) : Obj := ⟨(.type "tuple"), none, (.seq #[(.str "self" 1993), (.str "design" 1994), (.str "name" 1995), (.str "parent" 1996), (.str "kind" 1997)] 0), #[]⟩
noncomputable def o1253 (P : Params) : Obj := ⟨(.type "tuple"), none, (.seq #[] 0), #[]⟩
noncomputable def o1254 (P : Params) : Obj := ⟨.none, none, (.func ⟨"__init__", "Scope.__init__", fA (su 159 0), .stmts (fB (su 159 0)), fS (su 159 0), 0, [], .none, .none, .none, .none, none, .none, .none, 0⟩), #[]⟩
noncomputable def o1255 (P : Params) : Obj := ⟨(.type "code"), none, (.fields #[(.str "__init__" 1990), (.str "Scope.__init__" 1991), (.str "/claim/cut.py" 1992), (.int 1269 0), (.int 5 0), (.int 0 0), (.int 0 0), (.int 3 0), (.ref 1250), (.bool true), (.int 181 0), (.ref 1251), .none, (.ref 1252), (.ref 1253), (.ref 1254), (.int 1998 0), (.int 1269 0), (.str "/claim/cut.py" 1999)]), #[]⟩
noncomputable def o1256 (P : Params) : Obj := ⟨(.type "function"), none, (.func ⟨"__init__", "Scope.__init__", fA (su 159 0), .stmts (fB (su 159 0)), fS (su 159 0), 3, [], .none, .none, .none, (.str "gateloom.scopes" 1976), none, (.ref 1255), .none, 0⟩), #[]⟩
noncomputable def o1257 (P : Params) : Obj := ⟨(.type "tuple"), none, (.seq #[] 0), #[]⟩
noncomputable def o1258 (P : Params) : Obj := ⟨.none, none, (.fields #[]), #[]⟩
noncomputable def o1259 (P : Params) : Obj := ⟨(.type "tuple"), none, (.seq #[(.str "self" 2004), (.str "name" 2005), (.str "kind" 2006), (.str "at" 2007), (.str "inner" 2008)] 0), #[]⟩
noncomputable def o1260 (P : Params) : Obj := ⟨(.type "tuple"), none, (.seq #[] 0), #[]⟩
noncomputable def o1261 (P : Params) : Obj := ⟨.none, none, (.func ⟨"child", "Scope.child", fA (su 159 1), .stmts (fB (su 159 1)), fS (su 159 1), 0, [], .none, .none, .none, .none, none, .none, .none, 0⟩), #[]⟩
noncomputable def o1262 (P : Params) : Obj := ⟨(.type "code"), none, (.fields #[(.str "child" 2001), (.str "Scope.child" 2002), (.str "/claim/cut.py" 2003), (.int 1283 0), (.int 4 0), (.int 0 0), (.int 0 0), (.int 3 0), (.ref 1257), (.bool true), (.int 181 0), (.ref 1258), .none, (.ref 1259), (.ref 1260), (.ref 1261), (.int 2009 0), (.int 1283 0), (.str "/claim/cut.py" 2010)]), #[]⟩
noncomputable def o1263 (P : Params) : Obj := ⟨(.type "function"), none, (.func ⟨"child", "Scope.child", fA (su 159 1), .stmts (fB (su 159 1)), fS (su 159 1), 3, [], .none, .none, .none, (.str "gateloom.scopes" 1976), none, (.ref 1262), .none, 0⟩), #[]⟩
noncomputable def o1264 (P : Params) : Obj := ⟨(.type "tuple"), none, (.seq #[] 0), #[]⟩
noncomputable def o1265 (P : Params) : Obj := ⟨.none, none, (.fields #[]), #[]⟩
noncomputable def o1266 (P : Params) : Obj := ⟨(.type "tuple"), none, (.seq #[(.str "self" 2015), (.str "name" 2016), (.str "entry" 2017), (.str "at" 2018)] 0), #[]⟩
noncomputable def o1267 (P : Params) : Obj := ⟨(.type "tuple"), none, (.seq #[] 0), #[]⟩
noncomputable def o1268 (P : Params) : Obj := ⟨.none, none, (.func ⟨"declare", "Scope.declare", fA (su 159 2), .stmts (fB (su 159 2)), fS (su 159 2), 0, [], .none, .none, .none, .none, none, .none, .none, 0⟩), #[]⟩
noncomputable def o1269 (P : Params) : Obj := ⟨(.type "code"), none, (.fields #[(.str "declare" 2012), (.str "Scope.declare" 2013), (.str "/claim/cut.py" 2014), (.int 1288 0), (.int 4 0), (.int 0 0), (.int 0 0), (.int 3 0), (.ref 1264), (.bool true), (.int 181 0), (.ref 1265), .none, (.ref 1266), (.ref 1267), (.ref 1268), (.int 2019 0), (.int 1288 0), (.str "/claim/cut.py" 2020)]), #[]⟩
noncomputable def o1270 (P : Params) : Obj := ⟨(.type "function"), none, (.func ⟨"declare", "Scope.declare", fA (su 159 2), .stmts (fB (su 159 2)), fS (su 159 2), 3, [], .none, .none, .none, (.str "gateloom.scopes" 1976), none, (.ref 1269), .none, 0⟩), #[]⟩
noncomputable def o1271 (P : Params) : Obj := ⟨(.type "tuple"), none, (.seq #[] 0), #[]⟩
noncomputable def o1272 (P : Params) : Obj := ⟨.none, none, (.fields #[]), #[]⟩
noncomputable def o1273 (P : Params) : Obj := ⟨(.type "tuple"), none, (.seq #[(.str "self" 2025)] 0), #[]⟩
noncomputable def o1274 (P : Params) : Obj := ⟨(.type "tuple"), none, (.seq #[] 0), #[]⟩
noncomputable def o1275 (P : Params) : Obj := ⟨.none, none, (.func ⟨"module_scope", "Scope.module_scope", fA (su 159 3), .stmts (fB (su 159 3)), fS (su 159 3), 0, [], .none, .none, .none, .none, none, .none, .none, 0⟩), #[]⟩
noncomputable def o1276 (P : Params) : Obj := ⟨(.type "code"), none, (.fields #[(.str "module_scope" 2022), (.str "Scope.module_scope" 2023), (.str "/claim/cut.py" 2024), (.int 1293 0), (.int 1 0), (.int 0 0), (.int 0 0), (.int 3 0), (.ref 1271), (.bool true), (.int 181 0), (.ref 1272), .none, (.ref 1273), (.ref 1274), (.ref 1275), (.int 2026 0), (.int 1293 0), (.str "/claim/cut.py" 2027)]), #[]⟩
noncomputable def o1277 (P : Params) : Obj := ⟨(.type "function"), none, (.func ⟨"module_scope", "Scope.module_scope", fA (su 159 3), .stmts (fB (su 159 3)), fS (su 159 3), 3, [], .none, .none, .none, (.str "gateloom.scopes" 1976), none, (.ref 1276), .none, 0⟩), #[]⟩
noncomputable def o1278 (P : Params) : Obj := ⟨(.type "tuple"), none, (.seq #[] 0), #[]⟩
noncomputable def o1279 (P : Params) : Obj := ⟨.none, none, (.fields #[]), #[]⟩
noncomputable def o1280 (P : Params) : Obj := ⟨(.type "tuple"), none, (.seq #[(.str "self" 2032), (.str "name" 2033), (.str "scope" 2034)] 0), #[]⟩
noncomputable def o1281 (P : Params) : Obj := ⟨(.type "tuple"), none, (.seq #[] 0), #[]⟩
noncomputable def o1282 (P : Params) : Obj := ⟨.none, none, (.func ⟨"lookup", "Scope.lookup", fA (su 159 4), .stmts (fB (su 159 4)), fS (su 159 4), 0, [], .none, .none, .none, .none, none, .none, .none, 0⟩), #[]⟩
noncomputable def o1283 (P : Params) : Obj := ⟨(.type "code"), none, (.fields #[(.str "lookup" 2029), (.str "Scope.lookup" 2030), (.str "/claim/cut.py" 2031), (.int 1296 0), (.int 2 0), (.int 0 0), (.int 0 0), (.int 3 0), (.ref 1278), (.bool true), (.int 181 0), (.ref 1279), .none, (.ref 1280), (.ref 1281), (.ref 1282), (.int 2035 0), (.int 1296 0), (.str "/claim/cut.py" 2036)]), #[]⟩
noncomputable def o1284 (P : Params) : Obj := ⟨(.type "function"), none, (.func ⟨"lookup", "Scope.lookup", fA (su 159 4), .stmts (fB (su 159 4)), fS (su 159 4), 3, [], .none, .none, .none, (.str "gateloom.scopes" 1976), none, (.ref 1283), .none, 0⟩), #[]⟩
noncomputable def o1285 (P : Params) : Obj := ⟨(.type "tuple"), none, (.seq #[] 0), #[]⟩
noncomputable def o1286 (P : Params) : Obj := ⟨.none, none, (.fields #[]), #[]⟩
noncomputable def o1287 (P : Params) : Obj := ⟨(.type "tuple"), none, (.seq #[(.str "self" 2041), (.str "name" 2042), (.str "scope" 2043), (.str "entry" 2044)] 0), #[]⟩
noncomputable def o1288 (P : Params) : Obj := ⟨(.type "tuple"), none, (.seq #[] 0), #[]⟩
noncomputable def o1289 (P : Params) : Obj := ⟨.none, none, (.func ⟨"lookup_routine", "Scope.lookup_routine", fA (su 159 5), .stmts (fB (su 159 5)), fS (su 159 5), 0, [], .none, .none, .none, .none, none, .none, .none, 0⟩), #[]⟩
noncomputable def o1290 (P : Params) : Obj := ⟨(.type "code"), none, (.fields #[(.str "lookup_routine" 2038), (.str "Scope.lookup_routine" 2039), (.str "/claim/cut.py" 2040), (.int 1306 0), (.int 2 0), (.int 0 0), (.int 0 0), (.int 3 0), (.ref 1285), (.bool true), (.int 181 0), (.ref 1286), .none, (.ref 1287), (.ref 1288), (.ref 1289), (.int 2045 0), (.int 1306 0), (.str "/claim/cut.py" 2046)]), #[]⟩
noncomputable def o1291 (P : Params) : Obj := ⟨(.type "function"), none, (.func ⟨"lookup_routine", "Scope.lookup_routine", fA (su 159 5), .stmts (fB (su 159 5)), fS (su 159 5), 3, [], .none, .none, .none, (.str "gateloom.scopes" 1976), none, (.ref 1290), .none, 0⟩), #[]⟩
noncomputable def o1292 (P : Params) : Obj := ⟨(.type "tuple"), none, (.seq #[] 0), #[]⟩
noncomputable def o1293 (P : Params) : Obj := ⟨.none, none, (.fields #[]), #[]⟩
noncomputable def o1294 (P : Params) : Obj := ⟨(.type "tuple"), none, (.seq #[(.str "self" 2051), (.str "parts" 2052), (.str "entry" 2053), (.str "within" 2054), (.str "name" 2055), (.str "scope" 2056)] 0), #[]⟩
noncomputable def o1295 (P : Params) : Obj := ⟨(.type "tuple"), none, (.seq #[] 0), #[]⟩
noncomputable def o1296 (P : Params) : Obj := ⟨.none, none, (.func ⟨"descend", "Scope.descend", fA (su 159 6), .stmts (fB (su 159 6)), fS (su 159 6), 0, [], .none, .none, .none, .none, none, .none, .none, 0⟩), #[]⟩
noncomputable def o1297 (P : Params) : Obj := ⟨(.type "code"), none, (.fields #[(.str "descend" 2048), (.str "Scope.descend" 2049), (.str "/claim/cut.py" 2050), (.int 1317 0), (.int 2 0), (.int 0 0), (.int 0 0), (.int 3 0), (.ref 1292), (.bool true), (.int 181 0), (.ref 1293), .none, (.ref 1294), (.ref 1295), (.ref 1296), (.int 2057 0), (.int 1317 0), (.str "/claim/cut.py" 2058)]), #[]⟩
noncomputable def o1298 (P : Params) : Obj := ⟨(.type "function"), none, (.func ⟨"descend", "Scope.descend", fA (su 159 6), .stmts (fB (su 159 6)), fS (su 159 6), 3, [], .none, .none, .none, (.str "gateloom.scopes" 1976), none, (.ref 1297), .none, 0⟩), #[]⟩
noncomputable def o1299 (P : Params) : Obj := ⟨(.type "tuple"), none, (.seq #[] 0), #[]⟩
noncomputable def o1300 (P : Params) : Obj := ⟨.none, none, (.fields #[]), #[]⟩
noncomputable def o1301 (P : Params) : Obj := ⟨(.type "tuple"), none, (.seq #[(.str "self" 2063), (.str "parts" 2064), (.str "at" 2065), (.str "scope" 2066), (.str "entry" 2067)] 0), #[]⟩
noncomputable def o1302 (P : Params) : Obj := ⟨(.type "tuple"), none, (.seq #[] 0), #[]⟩
noncomputable def o1303 (P : Params) : Obj := ⟨.none, none, (.func ⟨"resolve", "Scope.resolve", fA (su 159 7), .stmts (fB (su 159 7)), fS (su 159 7), 0, [], .none, .none, .none, .none, none, .none, .none, 0⟩), #[]⟩
noncomputable def o1304 (P : Params) : Obj := ⟨(.type "code"), none, (.fields #[(.str "resolve" 2060), (.str "Scope.resolve" 2061), (.str "/claim/cut.py" 2062), (.int 1336 0), (.int 3 0), (.int 0 0), (.int 0 0), (.int 3 0), (.ref 1299), (.bool true), (.int 181 0), (.ref 1300), .none, (.ref 1301), (.ref 1302), (.ref 1303), (.int 2068 0), (.int 1336 0), (.str "/claim/cut.py" 2069)]), #[]⟩
noncomputable def o1305 (P : Params) : Obj := ⟨(.type "function"), none, (.func ⟨"resolve", "Scope.resolve", fA (su 159 7), .stmts (fB (su 159 7)), fS (su 159 7), 3, [], .none, .none, .none, (.str "gateloom.scopes" 1976), none, (.ref 1304), .none, 0⟩), #[]⟩
noncomputable def o1306 (P : Params) : Obj := ⟨(.type "tuple"), none, (.seq #[] 0), #[]⟩
noncomputable def o1307 (P : Params) : Obj := ⟨.none, none, (.fields #[]), #[]⟩
noncomputable def o1308 (P : Params) : Obj := ⟨(.type "tuple"), none, (.seq #[(.str "self" 2074), (.str "name" 2075)] 0), #[]⟩
noncomputable def o1309 (P : Params) : Obj := ⟨(.type "tuple"), none, (.seq #[] 0), #[]⟩
noncomputable def o1310 (P : Params) : Obj := ⟨.none, none, (.func ⟨"answers_to", "Scope.answers_to", fA (su 159 8), .stmts (fB (su 159 8)), fS (su 159 8), 0, [], .none, .none, .none, .none, none, .none, .none, 0⟩), #[]⟩
noncomputable def o1311 (P : Params) : Obj := ⟨(.type "code"), none, (.fields #[(.str "answers_to" 2071), (.str "Scope.answers_to" 2072), (.str "/claim/cut.py" 2073), (.int 1347 0), (.int 2 0), (.int 0 0), (.int 0 0), (.int 3 0), (.ref 1306), (.bool true), (.int 181 0), (.ref 1307), .none, (.ref 1308), (.ref 1309), (.ref 1310), (.int 2076 0), (.int 1347 0), (.str "/claim/cut.py" 2077)]), #[]⟩
noncomputable def o1312 (P : Params) : Obj := ⟨(.type "function"), none, (.func ⟨"answers_to", "Scope.answers_to", fA (su 159 8), .stmts (fB (su 159 8)), fS (su 159 8), 3, [], .none, .none, .none, (.str "gateloom.scopes" 1976), none, (.ref 1311), .none, 0⟩), #[]⟩
noncomputable def o1313 (P : Params) : Obj := ⟨(.type "tuple"), none, (.seq #[(.str "design" 2079), (.str "entries" 2080), (.str "kind" 2081), (.str "module_name" 2082), (.str "name" 2083), (.str "nettype" 2084), (.str "number" 2085), (.str "parent" 2086), (.str "path" 2087)] 0), #[]⟩
noncomputable def o1314 (P : Params) : Obj := ⟨(.type "dict"), none, (.dict #[dE P "__module__" 1985 (.str "gateloom.scopes" 1976), dE P "__firstlineno__" 1989 (.int 1267 1988), dE P "__init__" 2000 (.ref 1256), dE P "child" 2011 (.ref 1263), dE P "declare" 2021 (.ref 1270), dE P "module_scope" 2028 (.ref 1277), dE P "lookup" 2037 (.ref 1284), dE P "lookup_routine" 2047 (.ref 1291), dE P "descend" 2059 (.ref 1298), dE P "resolve" 2070 (.ref 1305), dE P "answers_to" 2078 (.ref 1312), dE P "__static_attributes__" 2088 (.ref 1313), dE P "__dict__" 2090 (.ref 1316), dE P "__weakref__" 2092 (.ref 1317), dE P "__doc__" 2093 .none] 4), #[]⟩
noncomputable def o1315 (P : Params) : Obj := ⟨(.type "type"), none, (.cls ⟨"Scope", [(.type "object")], [(.ref 1315), (.type "object")], 1314, "Scope", true, [], [], false, none, false⟩), #[none, none, some (.str "Scope" 1978), some (.str "Scope" 1986), some (.builtin "object.__new__"), some (.bool true)]⟩
noncomputable def o1316 (P : Params) : Obj := ⟨(.type "getset_descriptor"), none, (.fields #[(.str "__dict__" 2089), (.ref 1315), (.builtin "function.__dict__"), (.builtin "function.__dict__#set")]), #[]⟩
noncomputable def o1317 (P : Params) : Obj := ⟨(.type "getset_descriptor"), none, (.fields #[(.str "__weakref__" 2091), (.ref 1315), (.builtin "ExceptionGroup.__weakref__"), .none]), #[]⟩
noncomputable def o1318 (P : Params) : Obj := ⟨(.type "super"), none, (.fields #[(.ref 1315), (.ref 1315), (.ref 1315)]), #[]⟩
noncomputable def o1319 (P : Params) : Obj := ⟨(.type "builtin_function_or_method"), none, (.fields #[(.builtin "object.__init_subclass__"), (.ref 1315)]), #[]⟩
noncomputable def o1320 (P : Params) : Obj := ⟨(.type "tuple"), none, (.seq #[] 0), #[]⟩
noncomputable def o1321 (P : Params) : Obj := ⟨.none, none, (.fields #[]), #[]⟩
noncomputable def o1322 (P : Params) : Obj := ⟨(.type "tuple"), none, (.seq #[(.str "source" 2101), (.str "most" 2102), (.str "found" 2103)] 0), #[]⟩
noncomputable def o1323 (P : Params) : Obj := ⟨(.type "tuple"), none, (.seq #[] 0), #[]⟩
noncomputable def o1324 (P : Params) : Obj := ⟨.none, none, (.func ⟨"_law_take", "_law_take", fA (st 161), .stmts (fB (st 161)), fS (st 161), 0, [], .none, .none, .none, .none, none, .none, .none, 0⟩), #[]⟩
noncomputable def o1325 (P : Params) : Obj := ⟨(.type "code"), none, (.fields #[(.str "_law_take" 2098), (.str "_law_take" 2099), (.str "/claim/cut.py" 2100), (.int 1350 0), (.int 2 0), (.int 0 0), (.int 0 0), (.int 3 0), (.ref 1320), (.bool true), (.int 181 0), (.ref 1321), .none, (.ref 1322), (.ref 1323), (.ref 1324), (.int 2104 0), (.int 1350 0), (.str "/claim/cut.py" 2105)]), #[]⟩
noncomputable def o1326 (P : Params) : Obj := ⟨(.type "function"), none, (.func ⟨"_law_take", "_law_take", fA (st 161), .stmts (fB (st 161)), fS (st 161), 3, [], .none, .none, .none, (.str "law_pq0479_01" 2096), none, (.ref 1325), .none, 0⟩), #[]⟩
noncomputable def o1327 (P : Params) : Obj := ⟨(.type "tuple"), none, (.seq #[] 0), #[]⟩
noncomputable def o1328 (P : Params) : Obj := ⟨.none, none, (.fields #[]), #[]⟩
noncomputable def o1329 (P : Params) : Obj := ⟨(.type "tuple"), none, (.seq #[(.str "deed" 2110), (.str "scope" 2111), (.str "e" 2112), (.str "error" 2113)] 0), #[]⟩
noncomputable def o1330 (P : Params) : Obj := ⟨(.type "tuple"), none, (.seq #[] 0), #[]⟩
noncomputable def o1331 (P : Params) : Obj := ⟨.none, none, (.func ⟨"_law_told", "_law_told", fA (st 162), .stmts (fB (st 162)), fS (st 162), 0, [], .none, .none, .none, .none, none, .none, .none, 0⟩), #[]⟩
noncomputable def o1332 (P : Params) : Obj := ⟨(.type "code"), none, (.fields #[(.str "_law_told" 2107), (.str "_law_told" 2108), (.str "/claim/cut.py" 2109), (.int 1358 0), (.int 3 0), (.int 0 0), (.int 0 0), (.int 3 0), (.ref 1327), (.bool true), (.int 181 0), (.ref 1328), .none, (.ref 1329), (.ref 1330), (.ref 1331), (.int 2114 0), (.int 1358 0), (.str "/claim/cut.py" 2115)]), #[]⟩
noncomputable def o1333 (P : Params) : Obj := ⟨(.type "function"), none, (.func ⟨"_law_told", "_law_told", fA (st 162), .stmts (fB (st 162)), fS (st 162), 3, [], .none, .none, .none, (.str "law_pq0479_01" 2096), none, (.ref 1332), .none, 0⟩), #[]⟩
noncomputable def o1334 (P : Params) : Obj := ⟨(.type "tuple"), none, (.seq #[] 0), #[]⟩
noncomputable def o1335 (P : Params) : Obj := ⟨.none, none, (.fields #[]), #[]⟩
noncomputable def o1336 (P : Params) : Obj := ⟨(.type "tuple"), none, (.seq #[(.str "script" 2120), (.str "source" 2121), (.str "design" 2122), (.str "scope" 2123), (.str "signal" 2124), (.str "deep" 2125), (.str "e" 2126), (.str "at" 2127), (.str "due" 2128), (.str "number" 2129), (.str "inside" 2130), (.str "bits" 2131)] 0), #[]⟩
noncomputable def o1337 (P : Params) : Obj := ⟨(.type "tuple"), none, (.seq #[] 0), #[]⟩
noncomputable def o1338 (P : Params) : Obj := ⟨.none, none, (.func ⟨"law", "law", fA (st 163), .stmts (fB (st 163)), fS (st 163), 0, [], .none, .none, .none, .none, none, .none, .none, 0⟩), #[]⟩
noncomputable def o1339 (P : Params) : Obj := ⟨(.type "code"), none, (.fields #[(.str "law" 2117), (.str "law" 2118), (.str "/claim/cut.py" 2119), (.int 1363 0), (.int 1 0), (.int 0 0), (.int 0 0), (.int 3 0), (.ref 1334), (.bool true), (.int 181 0), (.ref 1335), .none, (.ref 1336), (.ref 1337), (.ref 1338), (.int 2132 0), (.int 1363 0), (.str "/claim/cut.py" 2133)]), #[]⟩
noncomputable def o1340 (P : Params) : Obj := ⟨(.type "function"), none, (.func ⟨"law", "law", fA (st 163), .stmts (fB (st 163)), fS (st 163), 3, [], .none, .none, .none, (.str "law_pq0479_01" 2096), none, (.ref 1339), .none, 0⟩), #[]⟩
noncomputable def bN (o : Params → Obj) (l r : Params → BT) (P : Params) : BT := .node (o P) (l P) (r P)
noncomputable def bM (o : Params → Obj) (l : Params → BT) (P : Params) : BT := .node (o P) (l P) .nil
noncomputable def bL (o : Params → Obj) (P : Params) : BT := .node (o P) .nil .nil
noncomputable def TF : Params → BT := (bN o0 (bN o1 (bN o3 (bN o7 (bN o15 (bN o31 (bN o63 (bN o127 (bN o255 (bM o511 (bL o1023)) (bM o767 (bL o1279))) (bN o383 (bM o639 (bL o1151)) (bL o895))) (bN o191 (bN o319 (bM o575 (bL o1087)) (bL o831)) (bN o447 (bM o703 (bL o1215)) (bL o959)))) (bN o95 (bN o159 (bN o287 (bM o543 (bL o1055)) (bM o799 (bL o1311))) (bN o415 (bM o671 (bL o1183)) (bL o927))) (bN o223 (bN o351 (bM o607 (bL o1119)) (bL o863)) (bN o479 (bM o735 (bL o1247)) (bL o991))))) (bN o47 (bN o79 (bN o143 (bN o271 (bM o527 (bL o1039)) (bM o783 (bL o1295))) (bN o399 (bM o655 (bL o1167)) (bL o911))) (bN o207 (bN o335 (bM o591 (bL o1103)) (bL o847)) (bN o463 (bM o719 (bL o1231)) (bL o975)))) (bN o111 (bN o175 (bN o303 (bM o559 (bL o1071)) (bM o815 (bL o1327))) (bN o431 (bM o687 (bL o1199)) (bL o943))) (bN o239 (bN o367 (bM o623 (bL o1135)) (bL o879)) (bN o495 (bM o751 (bL o1263)) (bL o1007)))))) (bN o23 (bN o39 (bN o71 (bN o135 (bN o263 (bM o519 (bL o1031)) (bM o775 (bL o1287))) (bN o391 (bM o647 (bL o1159)) (bL o903))) (bN o199 (bN o327 (bM o583 (bL o1095)) (bL o839)) (bN o455 (bM o711 (bL o1223)) (bL o967)))) (bN o103 (bN o167 (bN o295 (bM o551 (bL o1063)) (bM o807 (bL o1319))) (bN o423 (bM o679 (bL o1191)) (bL o935))) (bN o231 (bN o359 (bM o615 (bL o1127)) (bL o871)) (bN o487 (bM o743 (bL o1255)) (bL o999))))) (bN o55 (bN o87 (bN o151 (bN o279 (bM o535 (bL o1047)) (bM o791 (bL o1303))) (bN o407 (bM o663 (bL o1175)) (bL o919))) (bN o215 (bN o343 (bM o599 (bL o1111)) (bL o855)) (bN o471 (bM o727 (bL o1239)) (bL o983)))) (bN o119 (bN o183 (bN o311 (bM o567 (bL o1079)) (bM o823 (bL o1335))) (bN o439 (bM o695 (bL o1207)) (bL o951))) (bN o247 (bN o375 (bM o631 (bL o1143)) (bL o887)) (bN o503 (bM o759 (bL o1271)) (bL o1015))))))) (bN o11 (bN o19 (bN o35 (bN o67 (bN o131 (bN o259 (bM o515 (bL o1027)) (bM o771 (bL o1283))) (bN o387 (bM o643 (bL o1155)) (bL o899))) (bN o195 (bN o323 (bM o579 (bL o1091)) (bL o835)) (bN o451 (bM o707 (bL o1219)) (bL o963)))) (bN o99 (bN o163 (bN o291 (bM o547 (bL o1059)) (bM o803 (bL o1315))) (bN o419 (bM o675 (bL o1187)) (bL o931))) (bN o227 (bN o355 (bM o611 (bL o1123)) (bL o867)) (bN o483 (bM o739 (bL o1251)) (bL o995))))) (bN o51 (bN o83 (bN o147 (bN o275 (bM o531 (bL o1043)) (bM o787 (bL o1299))) (bN o403 (bM o659 (bL o1171)) (bL o915))) (bN o211 (bN o339 (bM o595 (bL o1107)) (bL o851)) (bN o467 (bM o723 (bL o1235)) (bL o979)))) (bN o115 (bN o179 (bN o307 (bM o563 (bL o1075)) (bM o819 (bL o1331))) (bN o435 (bM o691 (bL o1203)) (bL o947))) (bN o243 (bN o371 (bM o627 (bL o1139)) (bL o883)) (bN o499 (bM o755 (bL o1267)) (bL o1011)))))) (bN o27 (bN o43 (bN o75 (bN o139 (bN o267 (bM o523 (bL o1035)) (bM o779 (bL o1291))) (bN o395 (bM o651 (bL o1163)) (bL o907))) (bN o203 (bN o331 (bM o587 (bL o1099)) (bL o843)) (bN o459 (bM o715 (bL o1227)) (bL o971)))) (bN o107 (bN o171 (bN o299 (bM o555 (bL o1067)) (bM o811 (bL o1323))) (bN o427 (bM o683 (bL o1195)) (bL o939))) (bN o235 (bN o363 (bM o619 (bL o1131)) (bL o875)) (bN o491 (bM o747 (bL o1259)) (bL o1003))))) (bN o59 (bN o91 (bN o155 (bN o283 (bM o539 (bL o1051)) (bM o795 (bL o1307))) (bN o411 (bM o667 (bL o1179)) (bL o923))) (bN o219 (bN o347 (bM o603 (bL o1115)) (bL o859)) (bN o475 (bM o731 (bL o1243)) (bL o987)))) (bN o123 (bN o187 (bN o315 (bM o571 (bL o1083)) (bM o827 (bL o1339))) (bN o443 (bM o699 (bL o1211)) (bL o955))) (bN o251 (bN o379 (bM o635 (bL o1147)) (bL o891)) (bN o507 (bM o763 (bL o1275)) (bL o1019)))))))) (bN o5 (bN o9 (bN o17 (bN o33 (bN o65 (bN o129 (bN o257 (bM o513 (bL o1025)) (bM o769 (bL o1281))) (bN o385 (bM o641 (bL o1153)) (bL o897))) (bN o193 (bN o321 (bM o577 (bL o1089)) (bL o833)) (bN o449 (bM o705 (bL o1217)) (bL o961)))) (bN o97 (bN o161 (bN o289 (bM o545 (bL o1057)) (bM o801 (bL o1313))) (bN o417 (bM o673 (bL o1185)) (bL o929))) (bN o225 (bN o353 (bM o609 (bL o1121)) (bL o865)) (bN o481 (bM o737 (bL o1249)) (bL o993))))) (bN o49 (bN o81 (bN o145 (bN o273 (bM o529 (bL o1041)) (bM o785 (bL o1297))) (bN o401 (bM o657 (bL o1169)) (bL o913))) (bN o209 (bN o337 (bM o593 (bL o1105)) (bL o849)) (bN o465 (bM o721 (bL o1233)) (bL o977)))) (bN o113 (bN o177 (bN o305 (bM o561 (bL o1073)) (bM o817 (bL o1329))) (bN o433 (bM o689 (bL o1201)) (bL o945))) (bN o241 (bN o369 (bM o625 (bL o1137)) (bL o881)) (bN o497 (bM o753 (bL o1265)) (bL o1009)))))) (bN o25 (bN o41 (bN o73 (bN o137 (bN o265 (bM o521 (bL o1033)) (bM o777 (bL o1289))) (bN o393 (bM o649 (bL o1161)) (bL o905))) (bN o201 (bN o329 (bM o585 (bL o1097)) (bL o841)) (bN o457 (bM o713 (bL o1225)) (bL o969)))) (bN o105 (bN o169 (bN o297 (bM o553 (bL o1065)) (bM o809 (bL o1321))) (bN o425 (bM o681 (bL o1193)) (bL o937))) (bN o233 (bN o361 (bM o617 (bL o1129)) (bL o873)) (bN o489 (bM o745 (bL o1257)) (bL o1001))))) (bN o57 (bN o89 (bN o153 (bN o281 (bM o537 (bL o1049)) (bM o793 (bL o1305))) (bN o409 (bM o665 (bL o1177)) (bL o921))) (bN o217 (bN o345 (bM o601 (bL o1113)) (bL o857)) (bN o473 (bM o729 (bL o1241)) (bL o985)))) (bN o121 (bN o185 (bN o313 (bM o569 (bL o1081)) (bM o825 (bL o1337))) (bN o441 (bM o697 (bL o1209)) (bL o953))) (bN o249 (bN o377 (bM o633 (bL o1145)) (bL o889)) (bN o505 (bM o761 (bL o1273)) (bL o1017))))))) (bN o13 (bN o21 (bN o37 (bN o69 (bN o133 (bN o261 (bM o517 (bL o1029)) (bM o773 (bL o1285))) (bN o389 (bM o645 (bL o1157)) (bL o901))) (bN o197 (bN o325 (bM o581 (bL o1093)) (bL o837)) (bN o453 (bM o709 (bL o1221)) (bL o965)))) (bN o101 (bN o165 (bN o293 (bM o549 (bL o1061)) (bM o805 (bL o1317))) (bN o421 (bM o677 (bL o1189)) (bL o933))) (bN o229 (bN o357 (bM o613 (bL o1125)) (bL o869)) (bN o485 (bM o741 (bL o1253)) (bL o997))))) (bN o53 (bN o85 (bN o149 (bN o277 (bM o533 (bL o1045)) (bM o789 (bL o1301))) (bN o405 (bM o661 (bL o1173)) (bL o917))) (bN o213 (bN o341 (bM o597 (bL o1109)) (bL o853)) (bN o469 (bM o725 (bL o1237)) (bL o981)))) (bN o117 (bN o181 (bN o309 (bM o565 (bL o1077)) (bM o821 (bL o1333))) (bN o437 (bM o693 (bL o1205)) (bL o949))) (bN o245 (bN o373 (bM o629 (bL o1141)) (bL o885)) (bN o501 (bM o757 (bL o1269)) (bL o1013)))))) (bN o29 (bN o45 (bN o77 (bN o141 (bN o269 (bM o525 (bL o1037)) (bM o781 (bL o1293))) (bN o397 (bM o653 (bL o1165)) (bL o909))) (bN o205 (bN o333 (bM o589 (bL o1101)) (bL o845)) (bN o461 (bM o717 (bL o1229)) (bL o973)))) (bN o109 (bN o173 (bN o301 (bM o557 (bL o1069)) (bM o813 (bL o1325))) (bN o429 (bM o685 (bL o1197)) (bL o941))) (bN o237 (bN o365 (bM o621 (bL o1133)) (bL o877)) (bN o493 (bM o749 (bL o1261)) (bL o1005))))) (bN o61 (bN o93 (bN o157 (bN o285 (bM o541 (bL o1053)) (bM o797 (bL o1309))) (bN o413 (bM o669 (bL o1181)) (bL o925))) (bN o221 (bN o349 (bM o605 (bL o1117)) (bL o861)) (bN o477 (bM o733 (bL o1245)) (bL o989)))) (bN o125 (bN o189 (bN o317 (bM o573 (bL o1085)) (bL o829)) (bN o445 (bM o701 (bL o1213)) (bL o957))) (bN o253 (bN o381 (bM o637 (bL o1149)) (bL o893)) (bN o509 (bM o765 (bL o1277)) (bL o1021))))))))) (bN o2 (bN o4 (bN o8 (bN o16 (bN o32 (bN o64 (bN o128 (bN o256 (bM o512 (bL o1024)) (bM o768 (bL o1280))) (bN o384 (bM o640 (bL o1152)) (bL o896))) (bN o192 (bN o320 (bM o576 (bL o1088)) (bL o832)) (bN o448 (bM o704 (bL o1216)) (bL o960)))) (bN o96 (bN o160 (bN o288 (bM o544 (bL o1056)) (bM o800 (bL o1312))) (bN o416 (bM o672 (bL o1184)) (bL o928))) (bN o224 (bN o352 (bM o608 (bL o1120)) (bL o864)) (bN o480 (bM o736 (bL o1248)) (bL o992))))) (bN o48 (bN o80 (bN o144 (bN o272 (bM o528 (bL o1040)) (bM o784 (bL o1296))) (bN o400 (bM o656 (bL o1168)) (bL o912))) (bN o208 (bN o336 (bM o592 (bL o1104)) (bL o848)) (bN o464 (bM o720 (bL o1232)) (bL o976)))) (bN o112 (bN o176 (bN o304 (bM o560 (bL o1072)) (bM o816 (bL o1328))) (bN o432 (bM o688 (bL o1200)) (bL o944))) (bN o240 (bN o368 (bM o624 (bL o1136)) (bL o880)) (bN o496 (bM o752 (bL o1264)) (bL o1008)))))) (bN o24 (bN o40 (bN o72 (bN o136 (bN o264 (bM o520 (bL o1032)) (bM o776 (bL o1288))) (bN o392 (bM o648 (bL o1160)) (bL o904))) (bN o200 (bN o328 (bM o584 (bL o1096)) (bL o840)) (bN o456 (bM o712 (bL o1224)) (bL o968)))) (bN o104 (bN o168 (bN o296 (bM o552 (bL o1064)) (bM o808 (bL o1320))) (bN o424 (bM o680 (bL o1192)) (bL o936))) (bN o232 (bN o360 (bM o616 (bL o1128)) (bL o872)) (bN o488 (bM o744 (bL o1256)) (bL o1000))))) (bN o56 (bN o88 (bN o152 (bN o280 (bM o536 (bL o1048)) (bM o792 (bL o1304))) (bN o408 (bM o664 (bL o1176)) (bL o920))) (bN o216 (bN o344 (bM o600 (bL o1112)) (bL o856)) (bN o472 (bM o728 (bL o1240)) (bL o984)))) (bN o120 (bN o184 (bN o312 (bM o568 (bL o1080)) (bM o824 (bL o1336))) (bN o440 (bM o696 (bL o1208)) (bL o952))) (bN o248 (bN o376 (bM o632 (bL o1144)) (bL o888)) (bN o504 (bM o760 (bL o1272)) (bL o1016))))))) (bN o12 (bN o20 (bN o36 (bN o68 (bN o132 (bN o260 (bM o516 (bL o1028)) (bM o772 (bL o1284))) (bN o388 (bM o644 (bL o1156)) (bL o900))) (bN o196 (bN o324 (bM o580 (bL o1092)) (bL o836)) (bN o452 (bM o708 (bL o1220)) (bL o964)))) (bN o100 (bN o164 (bN o292 (bM o548 (bL o1060)) (bM o804 (bL o1316))) (bN o420 (bM o676 (bL o1188)) (bL o932))) (bN o228 (bN o356 (bM o612 (bL o1124)) (bL o868)) (bN o484 (bM o740 (bL o1252)) (bL o996))))) (bN o52 (bN o84 (bN o148 (bN o276 (bM o532 (bL o1044)) (bM o788 (bL o1300))) (bN o404 (bM o660 (bL o1172)) (bL o916))) (bN o212 (bN o340 (bM o596 (bL o1108)) (bL o852)) (bN o468 (bM o724 (bL o1236)) (bL o980)))) (bN o116 (bN o180 (bN o308 (bM o564 (bL o1076)) (bM o820 (bL o1332))) (bN o436 (bM o692 (bL o1204)) (bL o948))) (bN o244 (bN o372 (bM o628 (bL o1140)) (bL o884)) (bN o500 (bM o756 (bL o1268)) (bL o1012)))))) (bN o28 (bN o44 (bN o76 (bN o140 (bN o268 (bM o524 (bL o1036)) (bM o780 (bL o1292))) (bN o396 (bM o652 (bL o1164)) (bL o908))) (bN o204 (bN o332 (bM o588 (bL o1100)) (bL o844)) (bN o460 (bM o716 (bL o1228)) (bL o972)))) (bN o108 (bN o172 (bN o300 (bM o556 (bL o1068)) (bM o812 (bL o1324))) (bN o428 (bM o684 (bL o1196)) (bL o940))) (bN o236 (bN o364 (bM o620 (bL o1132)) (bL o876)) (bN o492 (bM o748 (bL o1260)) (bL o1004))))) (bN o60 (bN o92 (bN o156 (bN o284 (bM o540 (bL o1052)) (bM o796 (bL o1308))) (bN o412 (bM o668 (bL o1180)) (bL o924))) (bN o220 (bN o348 (bM o604 (bL o1116)) (bL o860)) (bN o476 (bM o732 (bL o1244)) (bL o988)))) (bN o124 (bN o188 (bN o316 (bM o572 (bL o1084)) (bM o828 (bL o1340))) (bN o444 (bM o700 (bL o1212)) (bL o956))) (bN o252 (bN o380 (bM o636 (bL o1148)) (bL o892)) (bN o508 (bM o764 (bL o1276)) (bL o1020)))))))) (bN o6 (bN o10 (bN o18 (bN o34 (bN o66 (bN o130 (bN o258 (bM o514 (bL o1026)) (bM o770 (bL o1282))) (bN o386 (bM o642 (bL o1154)) (bL o898))) (bN o194 (bN o322 (bM o578 (bL o1090)) (bL o834)) (bN o450 (bM o706 (bL o1218)) (bL o962)))) (bN o98 (bN o162 (bN o290 (bM o546 (bL o1058)) (bM o802 (bL o1314))) (bN o418 (bM o674 (bL o1186)) (bL o930))) (bN o226 (bN o354 (bM o610 (bL o1122)) (bL o866)) (bN o482 (bM o738 (bL o1250)) (bL o994))))) (bN o50 (bN o82 (bN o146 (bN o274 (bM o530 (bL o1042)) (bM o786 (bL o1298))) (bN o402 (bM o658 (bL o1170)) (bL o914))) (bN o210 (bN o338 (bM o594 (bL o1106)) (bL o850)) (bN o466 (bM o722 (bL o1234)) (bL o978)))) (bN o114 (bN o178 (bN o306 (bM o562 (bL o1074)) (bM o818 (bL o1330))) (bN o434 (bM o690 (bL o1202)) (bL o946))) (bN o242 (bN o370 (bM o626 (bL o1138)) (bL o882)) (bN o498 (bM o754 (bL o1266)) (bL o1010)))))) (bN o26 (bN o42 (bN o74 (bN o138 (bN o266 (bM o522 (bL o1034)) (bM o778 (bL o1290))) (bN o394 (bM o650 (bL o1162)) (bL o906))) (bN o202 (bN o330 (bM o586 (bL o1098)) (bL o842)) (bN o458 (bM o714 (bL o1226)) (bL o970)))) (bN o106 (bN o170 (bN o298 (bM o554 (bL o1066)) (bM o810 (bL o1322))) (bN o426 (bM o682 (bL o1194)) (bL o938))) (bN o234 (bN o362 (bM o618 (bL o1130)) (bL o874)) (bN o490 (bM o746 (bL o1258)) (bL o1002))))) (bN o58 (bN o90 (bN o154 (bN o282 (bM o538 (bL o1050)) (bM o794 (bL o1306))) (bN o410 (bM o666 (bL o1178)) (bL o922))) (bN o218 (bN o346 (bM o602 (bL o1114)) (bL o858)) (bN o474 (bM o730 (bL o1242)) (bL o986)))) (bN o122 (bN o186 (bN o314 (bM o570 (bL o1082)) (bM o826 (bL o1338))) (bN o442 (bM o698 (bL o1210)) (bL o954))) (bN o250 (bN o378 (bM o634 (bL o1146)) (bL o890)) (bN o506 (bM o762 (bL o1274)) (bL o1018))))))) (bN o14 (bN o22 (bN o38 (bN o70 (bN o134 (bN o262 (bM o518 (bL o1030)) (bM o774 (bL o1286))) (bN o390 (bM o646 (bL o1158)) (bL o902))) (bN o198 (bN o326 (bM o582 (bL o1094)) (bL o838)) (bN o454 (bM o710 (bL o1222)) (bL o966)))) (bN o102 (bN o166 (bN o294 (bM o550 (bL o1062)) (bM o806 (bL o1318))) (bN o422 (bM o678 (bL o1190)) (bL o934))) (bN o230 (bN o358 (bM o614 (bL o1126)) (bL o870)) (bN o486 (bM o742 (bL o1254)) (bL o998))))) (bN o54 (bN o86 (bN o150 (bN o278 (bM o534 (bL o1046)) (bM o790 (bL o1302))) (bN o406 (bM o662 (bL o1174)) (bL o918))) (bN o214 (bN o342 (bM o598 (bL o1110)) (bL o854)) (bN o470 (bM o726 (bL o1238)) (bL o982)))) (bN o118 (bN o182 (bN o310 (bM o566 (bL o1078)) (bM o822 (bL o1334))) (bN o438 (bM o694 (bL o1206)) (bL o950))) (bN o246 (bN o374 (bM o630 (bL o1142)) (bL o886)) (bN o502 (bM o758 (bL o1270)) (bL o1014)))))) (bN o30 (bN o46 (bN o78 (bN o142 (bN o270 (bM o526 (bL o1038)) (bM o782 (bL o1294))) (bN o398 (bM o654 (bL o1166)) (bL o910))) (bN o206 (bN o334 (bM o590 (bL o1102)) (bL o846)) (bN o462 (bM o718 (bL o1230)) (bL o974)))) (bN o110 (bN o174 (bN o302 (bM o558 (bL o1070)) (bM o814 (bL o1326))) (bN o430 (bM o686 (bL o1198)) (bL o942))) (bN o238 (bN o366 (bM o622 (bL o1134)) (bL o878)) (bN o494 (bM o750 (bL o1262)) (bL o1006))))) (bN o62 (bN o94 (bN o158 (bN o286 (bM o542 (bL o1054)) (bM o798 (bL o1310))) (bN o414 (bM o670 (bL o1182)) (bL o926))) (bN o222 (bN o350 (bM o606 (bL o1118)) (bL o862)) (bN o478 (bM o734 (bL o1246)) (bL o990)))) (bN o126 (bN o190 (bN o318 (bM o574 (bL o1086)) (bL o830)) (bN o446 (bM o702 (bL o1214)) (bL o958))) (bN o254 (bN o382 (bM o638 (bL o1150)) (bL o894)) (bN o510 (bM o766 (bL o1278)) (bL o1022))))))))))
end
section
noncomputable abbrev PR : Program := PySem.Challenge.pw_pq0479_01
noncomputable abbrev q : Program := { PR with main := { PR.main with body := [st 163] } }
noncomputable def loose : List Str := Str.ofString "_wall" :: Str.ofString "GateloomError" :: Str.ofString "DesignError" :: Str.ofString "LimitReached" :: Str.ofString "mask" :: Str.ofString "vec" :: Str.ofString "zeros" :: Str.ofString "all_x" :: Str.ofString "all_z" :: Str.ofString "from_int" :: Str.ofString "is_known" :: Str.ofString "to_int" :: Str.ofString "code" :: Str.ofString "slice_vec" :: Str.ofString "put_slice" :: Str.ofString "concat" :: Str.ofString "extend" :: Str.ofString "z_to_x" :: Str.ofString "truth" :: Str.ofString "Store" :: Str.ofString "Context" :: Str.ofString "add" :: Str.ofString "sub" :: Str.ofString "mul" :: Str.ofString "neg" :: Str.ofString "quotient" :: Str.ofString "div" :: Str.ofString "mod" :: Str.ofString "raise_whole" :: Str.ofString "power" :: Str.ofString "shift_left" :: Str.ofString "shift_right" :: Str.ofString "shift_arith" :: Str.ofString "ordered" :: Str.ofString "less" :: Str.ofString "less_equal" :: Str.ofString "greater" :: Str.ofString "greater_equal" :: Str.ofString "one_bit" :: Str.ofString "bit_not" :: Str.ofString "bit_and" :: Str.ofString "bit_or" :: Str.ofString "bit_xor" :: Str.ofString "bit_xnor" :: Str.ofString "reduce_and" :: Str.ofString "reduce_nand" :: Str.ofString "reduce_or" :: Str.ofString "reduce_nor" :: Str.ofString "reduce_xor" :: Str.ofString "reduce_xnor" :: Str.ofString "logic_not" :: Str.ofString "logic_and" :: Str.ofString "logic_or" :: Str.ofString "equal" :: Str.ofString "not_equal" :: Str.ofString "case_equal" :: Str.ofString "case_not_equal" :: Str.ofString "matches" :: Str.ofString "choose" :: Str.ofString "unary" :: Str.ofString "arithmetic" :: Str.ofString "comparison" :: Str.ofString "bitwise" :: Str.ofString "binary" :: Str.ofString "whole_of" :: Str.ofString "memory_word" :: Str.ofString "picked" :: Str.ofString "conditional" :: Str.ofString "bits_needed" :: Str.ofString "system_value" :: Str.ofString "system_value_evaluate" :: Str.ofString "evaluate" :: Str.ofString "locate" :: Str.ofString "holder_width" :: Str.ofString "resolve_target" :: Str.ofString "store_rows" :: Str.ofString "DEPTH_LIMIT" :: Str.ofString "FunctionContext" :: Str.ofString "run_block" :: Str.ofString "run_set" :: Str.ofString "run_case" :: Str.ofString "run_while" :: Str.ofString "run_repeat" :: Str.ofString "run_for" :: Str.ofString "run_statement" :: Str.ofString "children" :: Str.ofString "subexpressions" :: Str.ofString "expr_reads" :: Str.ofString "expr_calls" :: Str.ofString "target_indexes" :: Str.ofString "target_writes" :: Str.ofString "stmt_parts" :: Str.ofString "substatements" :: Str.ofString "stmt_targets" :: Str.ofString "stmt_exprs" :: Str.ofString "stmt_reads" :: Str.ofString "stmt_writes" :: Str.ofString "stmt_calls" :: Str.ofString "MAX_WIDTH" :: Str.ofString "last_select" :: Str.ofString "is_memory" :: Str.ofString "shape" :: Str.ofString "read_entry" :: Str.ofString "folds" :: Str.ofString "folded" :: Str.ofString "checked_width" :: Str.ofString "selected" :: Str.ofString "text_vec" :: Str.ofString "inner_join" :: Str.ofString "is_context_operator" :: Str.ofString "is_shift" :: Str.ofString "widen" :: Str.ofString "number_value" :: Str.ofString "is_changing" :: Str.ofString "asks_system" :: Str.ofString "is_constant" :: Str.ofString "MOST_NESTING" :: Str.ofString "path_names" :: Str.ofString "entry_of" :: Str.ofString "base_entry" :: Str.ofString "select_width" :: Str.ofString "select_where" :: Str.ofString "named_type" :: Str.ofString "named_value" :: Str.ofString "function_of" :: Str.ofString "call_value" :: Str.ofString "system_type" :: Str.ofString "system_value_elabexpr" :: Str.ofString "joined_parts" :: Str.ofString "copies" :: Str.ofString "joined_width" :: Str.ofString "joined_value" :: Str.ofString "both_types" :: Str.ofString "expr_type" :: Str.ofString "unary_value" :: Str.ofString "binary_value" :: Str.ofString "build" :: Str.ofString "self_determined" :: Str.ofString "sized" :: Str.ofString "constant_vec" :: Str.ofString "constant" :: Str.ofString "whole" :: Str.ofString "small_whole" :: Str.ofString "net_kinds" :: Str.ofString "Signal" :: Str.ofString "Design" :: Str.ofString "Scope" :: Str.ofString "_law_take" :: Str.ofString "_law_told" :: []
set_option maxRecDepth 100000 in
noncomputable def K (P : Params) : Frag := (nat_lit 3, o3 P) :: (nat_lit 1053, o1053 P) :: (nat_lit 1032, o1032 P) :: (nat_lit 1081, o1081 P) :: (nat_lit 864, o864 P) :: (nat_lit 1074, o1074 P) :: (nat_lit 1102, o1102 P) :: (nat_lit 1109, o1109 P) :: (nat_lit 1018, o1018 P) :: (nat_lit 605, o605 P) :: (nat_lit 1095, o1095 P) :: (nat_lit 913, o913 P) :: (nat_lit 158, o158 P) :: (nat_lit 81, o81 P) :: (nat_lit 73, o73 P) :: (nat_lit 123, o123 P) :: (nat_lit 1025, o1025 P) :: (nat_lit 885, o885 P) :: (nat_lit 735, o735 P) :: (nat_lit 1039, o1039 P) :: (nat_lit 857, o857 P) :: (nat_lit 850, o850 P) :: (nat_lit 186, o186 P) :: (nat_lit 229, o229 P) :: (nat_lit 151, o151 P) :: (nat_lit 906, o906 P) :: (nat_lit 1116, o1116 P) :: (nat_lit 1333, o1333 P) :: (nat_lit 1326, o1326 P) :: (nat_lit 36, o36 P) :: (nat_lit 822, o822 P) :: (nat_lit 948, o948 P) :: (nat_lit 1284, o1284 P) :: (nat_lit 976, o976 P) :: (nat_lit 829, o829 P) :: (nat_lit 1151, o1151 P) :: (nat_lit 836, o836 P) :: (nat_lit 1340, o1340 P) :: (nat_lit 1193, o1193 P) :: (nat_lit 1256, o1256 P) :: (nat_lit 1207, o1207 P) :: (nat_lit 1200, o1200 P) :: (nat_lit 1137, o1137 P) :: (nat_lit 1270, o1270 P) :: (nat_lit 983, o983 P) :: (nat_lit 843, o843 P) :: (nat_lit 934, o934 P) :: (nat_lit 742, o742 P) :: (nat_lit 39, o39 P) :: (nat_lit 52, o52 P) :: (nat_lit 210, o210 P) :: (nat_lit 253, o253 P) :: (nat_lit 1175, o1175 P) :: (nat_lit 1238, o1238 P) :: (nat_lit 1315, o1315 P) :: (nat_lit 1052, o1052 P) :: (nat_lit 1031, o1031 P) :: (nat_lit 1080, o1080 P) :: (nat_lit 863, o863 P) :: (nat_lit 1073, o1073 P) :: (nat_lit 1101, o1101 P) :: (nat_lit 1108, o1108 P) :: (nat_lit 1017, o1017 P) :: (nat_lit 604, o604 P) :: (nat_lit 1094, o1094 P) :: (nat_lit 912, o912 P) :: (nat_lit 157, o157 P) :: (nat_lit 74, o74 P) :: (nat_lit 80, o80 P) :: (nat_lit 72, o72 P) :: (nat_lit 122, o122 P) :: (nat_lit 1024, o1024 P) :: (nat_lit 884, o884 P) :: (nat_lit 734, o734 P) :: (nat_lit 1038, o1038 P) :: (nat_lit 856, o856 P) :: (nat_lit 849, o849 P) :: (nat_lit 185, o185 P) :: (nat_lit 222, o222 P) :: (nat_lit 228, o228 P) :: (nat_lit 150, o150 P) :: (nat_lit 905, o905 P) :: (nat_lit 1115, o1115 P) :: (nat_lit 1332, o1332 P) :: (nat_lit 1325, o1325 P) :: (nat_lit 29, o29 P) :: (nat_lit 35, o35 P) :: (nat_lit 821, o821 P) :: (nat_lit 947, o947 P) :: (nat_lit 1283, o1283 P) :: (nat_lit 975, o975 P) :: (nat_lit 828, o828 P) :: (nat_lit 1150, o1150 P) :: (nat_lit 835, o835 P) :: (nat_lit 1339, o1339 P) :: (nat_lit 1192, o1192 P) :: (nat_lit 1255, o1255 P) :: (nat_lit 1206, o1206 P) :: (nat_lit 1199, o1199 P) :: (nat_lit 1136, o1136 P) :: (nat_lit 1269, o1269 P) :: (nat_lit 982, o982 P) :: (nat_lit 842, o842 P) :: (nat_lit 933, o933 P) :: (nat_lit 741, o741 P) :: (nat_lit 38, o38 P) :: (nat_lit 22, o22 P) :: (nat_lit 51, o51 P) :: (nat_lit 43, o43 P) :: (nat_lit 209, o209 P) :: (nat_lit 252, o252 P) :: (nat_lit 1174, o1174 P) :: (nat_lit 1237, o1237 P) :: (nat_lit 1314, o1314 P) :: (nat_lit 1047, o1047 P) :: (nat_lit 1049, o1049 P) :: (nat_lit 1050, o1050 P) :: (nat_lit 1026, o1026 P) :: (nat_lit 1028, o1028 P) :: (nat_lit 1029, o1029 P) :: (nat_lit 1075, o1075 P) :: (nat_lit 1077, o1077 P) :: (nat_lit 1078, o1078 P) :: (nat_lit 858, o858 P) :: (nat_lit 860, o860 P) :: (nat_lit 861, o861 P) :: (nat_lit 1068, o1068 P) :: (nat_lit 1070, o1070 P) :: (nat_lit 1071, o1071 P) :: (nat_lit 1096, o1096 P) :: (nat_lit 1098, o1098 P) :: (nat_lit 1099, o1099 P) :: (nat_lit 1103, o1103 P) :: (nat_lit 1105, o1105 P) :: (nat_lit 1106, o1106 P) :: (nat_lit 1012, o1012 P) :: (nat_lit 1014, o1014 P) :: (nat_lit 1015, o1015 P) :: (nat_lit 601, o601 P) :: (nat_lit 1089, o1089 P) :: (nat_lit 1091, o1091 P) :: (nat_lit 1092, o1092 P) :: (nat_lit 907, o907 P) :: (nat_lit 909, o909 P) :: (nat_lit 910, o910 P) :: (nat_lit 152, o152 P) :: (nat_lit 154, o154 P) :: (nat_lit 155, o155 P) :: (nat_lit 75, o75 P) :: (nat_lit 77, o77 P) :: (nat_lit 78, o78 P) :: (nat_lit 67, o67 P) :: (nat_lit 69, o69 P) :: (nat_lit 70, o70 P) :: (nat_lit 117, o117 P) :: (nat_lit 119, o119 P) :: (nat_lit 120, o120 P) :: (nat_lit 1019, o1019 P) :: (nat_lit 1021, o1021 P) :: (nat_lit 1022, o1022 P) :: (nat_lit 879, o879 P) :: (nat_lit 881, o881 P) :: (nat_lit 882, o882 P) :: (nat_lit 729, o729 P) :: (nat_lit 731, o731 P) :: (nat_lit 732, o732 P) :: (nat_lit 1033, o1033 P) :: (nat_lit 1035, o1035 P) :: (nat_lit 1036, o1036 P) :: (nat_lit 851, o851 P) :: (nat_lit 853, o853 P) :: (nat_lit 854, o854 P) :: (nat_lit 844, o844 P) :: (nat_lit 846, o846 P) :: (nat_lit 847, o847 P) :: (nat_lit 180, o180 P) :: (nat_lit 182, o182 P) :: (nat_lit 183, o183 P) :: (nat_lit 223, o223 P) :: (nat_lit 225, o225 P) :: (nat_lit 226, o226 P) :: (nat_lit 145, o145 P) :: (nat_lit 147, o147 P) :: (nat_lit 148, o148 P) :: (nat_lit 900, o900 P) :: (nat_lit 902, o902 P) :: (nat_lit 903, o903 P) :: (nat_lit 1110, o1110 P) :: (nat_lit 1112, o1112 P) :: (nat_lit 1113, o1113 P) :: (nat_lit 1327, o1327 P) :: (nat_lit 1329, o1329 P) :: (nat_lit 1330, o1330 P) :: (nat_lit 1320, o1320 P) :: (nat_lit 1322, o1322 P) :: (nat_lit 1323, o1323 P) :: (nat_lit 30, o30 P) :: (nat_lit 32, o32 P) :: (nat_lit 33, o33 P) :: (nat_lit 816, o816 P) :: (nat_lit 818, o818 P) :: (nat_lit 819, o819 P) :: (nat_lit 942, o942 P) :: (nat_lit 944, o944 P) :: (nat_lit 945, o945 P) :: (nat_lit 1278, o1278 P) :: (nat_lit 1280, o1280 P) :: (nat_lit 1281, o1281 P) :: (nat_lit 970, o970 P) :: (nat_lit 972, o972 P) :: (nat_lit 973, o973 P) :: (nat_lit 823, o823 P) :: (nat_lit 825, o825 P) :: (nat_lit 826, o826 P) :: (nat_lit 1145, o1145 P) :: (nat_lit 1147, o1147 P) :: (nat_lit 1148, o1148 P) :: (nat_lit 830, o830 P) :: (nat_lit 832, o832 P) :: (nat_lit 833, o833 P) :: (nat_lit 1334, o1334 P) :: (nat_lit 1336, o1336 P) :: (nat_lit 1337, o1337 P) :: (nat_lit 1187, o1187 P) :: (nat_lit 1189, o1189 P) :: (nat_lit 1190, o1190 P) :: (nat_lit 1250, o1250 P) :: (nat_lit 1252, o1252 P) :: (nat_lit 1253, o1253 P) :: (nat_lit 1201, o1201 P) :: (nat_lit 1203, o1203 P) :: (nat_lit 1204, o1204 P) :: (nat_lit 1194, o1194 P) :: (nat_lit 1196, o1196 P) :: (nat_lit 1197, o1197 P) :: (nat_lit 1131, o1131 P) :: (nat_lit 1133, o1133 P) :: (nat_lit 1134, o1134 P) :: (nat_lit 1264, o1264 P) :: (nat_lit 1266, o1266 P) :: (nat_lit 1267, o1267 P) :: (nat_lit 977, o977 P) :: (nat_lit 979, o979 P) :: (nat_lit 980, o980 P) :: (nat_lit 837, o837 P) :: (nat_lit 839, o839 P) :: (nat_lit 840, o840 P) :: (nat_lit 928, o928 P) :: (nat_lit 930, o930 P) :: (nat_lit 931, o931 P) :: (nat_lit 736, o736 P) :: (nat_lit 738, o738 P) :: (nat_lit 739, o739 P) :: (nat_lit 37, o37 P) :: (nat_lit 40, o40 P) :: (nat_lit 50, o50 P) :: (nat_lit 193, o193 P) :: (nat_lit 200, o200 P) :: (nat_lit 207, o207 P) :: (nat_lit 208, o208 P) :: (nat_lit 211, o211 P) :: (nat_lit 212, o212 P) :: (nat_lit 236, o236 P) :: (nat_lit 243, o243 P) :: (nat_lit 250, o250 P) :: (nat_lit 251, o251 P) :: (nat_lit 254, o254 P) :: (nat_lit 255, o255 P) :: (nat_lit 1144, o1144 P) :: (nat_lit 1158, o1158 P) :: (nat_lit 1165, o1165 P) :: (nat_lit 1172, o1172 P) :: (nat_lit 1173, o1173 P) :: (nat_lit 1176, o1176 P) :: (nat_lit 1177, o1177 P) :: (nat_lit 1214, o1214 P) :: (nat_lit 1221, o1221 P) :: (nat_lit 1228, o1228 P) :: (nat_lit 1235, o1235 P) :: (nat_lit 1236, o1236 P) :: (nat_lit 1239, o1239 P) :: (nat_lit 1240, o1240 P) :: (nat_lit 1263, o1263 P) :: (nat_lit 1277, o1277 P) :: (nat_lit 1291, o1291 P) :: (nat_lit 1298, o1298 P) :: (nat_lit 1305, o1305 P) :: (nat_lit 1312, o1312 P) :: (nat_lit 1313, o1313 P) :: (nat_lit 1316, o1316 P) :: (nat_lit 1317, o1317 P) :: (nat_lit 192, o192 P) :: (nat_lit 199, o199 P) :: (nat_lit 206, o206 P) :: (nat_lit 235, o235 P) :: (nat_lit 242, o242 P) :: (nat_lit 249, o249 P) :: (nat_lit 1143, o1143 P) :: (nat_lit 1157, o1157 P) :: (nat_lit 1164, o1164 P) :: (nat_lit 1171, o1171 P) :: (nat_lit 1213, o1213 P) :: (nat_lit 1220, o1220 P) :: (nat_lit 1227, o1227 P) :: (nat_lit 1234, o1234 P) :: (nat_lit 1262, o1262 P) :: (nat_lit 1276, o1276 P) :: (nat_lit 1290, o1290 P) :: (nat_lit 1297, o1297 P) :: (nat_lit 1304, o1304 P) :: (nat_lit 1311, o1311 P) :: (nat_lit 187, o187 P) :: (nat_lit 189, o189 P) :: (nat_lit 190, o190 P) :: (nat_lit 194, o194 P) :: (nat_lit 196, o196 P) :: (nat_lit 197, o197 P) :: (nat_lit 201, o201 P) :: (nat_lit 203, o203 P) :: (nat_lit 204, o204 P) :: (nat_lit 230, o230 P) :: (nat_lit 232, o232 P) :: (nat_lit 233, o233 P) :: (nat_lit 237, o237 P) :: (nat_lit 239, o239 P) :: (nat_lit 240, o240 P) :: (nat_lit 244, o244 P) :: (nat_lit 246, o246 P) :: (nat_lit 247, o247 P) :: (nat_lit 1138, o1138 P) :: (nat_lit 1140, o1140 P) :: (nat_lit 1141, o1141 P) :: (nat_lit 1152, o1152 P) :: (nat_lit 1154, o1154 P) :: (nat_lit 1155, o1155 P) :: (nat_lit 1159, o1159 P) :: (nat_lit 1161, o1161 P) :: (nat_lit 1162, o1162 P) :: (nat_lit 1166, o1166 P) :: (nat_lit 1168, o1168 P) :: (nat_lit 1169, o1169 P) :: (nat_lit 1208, o1208 P) :: (nat_lit 1210, o1210 P) :: (nat_lit 1211, o1211 P) :: (nat_lit 1215, o1215 P) :: (nat_lit 1217, o1217 P) :: (nat_lit 1218, o1218 P) :: (nat_lit 1222, o1222 P) :: (nat_lit 1224, o1224 P) :: (nat_lit 1225, o1225 P) :: (nat_lit 1229, o1229 P) :: (nat_lit 1231, o1231 P) :: (nat_lit 1232, o1232 P) :: (nat_lit 1257, o1257 P) :: (nat_lit 1259, o1259 P) :: (nat_lit 1260, o1260 P) :: (nat_lit 1271, o1271 P) :: (nat_lit 1273, o1273 P) :: (nat_lit 1274, o1274 P) :: (nat_lit 1285, o1285 P) :: (nat_lit 1287, o1287 P) :: (nat_lit 1288, o1288 P) :: (nat_lit 1292, o1292 P) :: (nat_lit 1294, o1294 P) :: (nat_lit 1295, o1295 P) :: (nat_lit 1299, o1299 P) :: (nat_lit 1301, o1301 P) :: (nat_lit 1302, o1302 P) :: (nat_lit 1306, o1306 P) :: (nat_lit 1308, o1308 P) :: (nat_lit 1309, o1309 P) :: (nat_lit 0, o0 P) :: (nat_lit 2, o2 P) :: []
end
section
set_option maxRecDepth 100000
noncomputable def env : Env := { scope := PySem.Challenge.pw_pq0479_01.main.scope, locals := mainNs, globals := mainNs, cells := [], code := .ref 13, frame := some 14 }
noncomputable def cE : Code := .body bE env
noncomputable abbrev B : List Frame := [topFrame ⟨0, 0, 0, 0⟩]
noncomputable abbrev ann : Option Value := some (.ref 6)
noncomputable abbrev gs0 : Array GenState := Array.mk []
noncomputable def x0v2 (P : Params) : Obj := dcut P o2 0 [] 0
noncomputable def x0v3 (P : Params) : Obj := dcut P o3 9 [(0, (.str "__main__" 164))] 9
noncomputable def x0v12 (P : Params) : Obj := fcut P o12 0
noncomputable def T0 : Params → BT := (bN o0 (bN o1 (bN x0v3 (bL o7) (bL o11)) (bN o5 (bL o9) (bL o13))) (bN x0v2 (bN o4 (bL o8) (bL x0v12)) (bN o6 (bL o10) (bL o14))))
noncomputable def S0 (w : World) (os : OsState) : SharedT := ⟨T0 w.params, 15, {}, gs0, {}, 187, os⟩
noncomputable def ss1 : List Stmt := (bE.drop 0).take 3
noncomputable def x1v3 (P : Params) : Obj := dcut P o3 11 [(0, (.str "gateloom.errors" 194))] 11
noncomputable def x1v12 (P : Params) : Obj := fcut P o12 6
noncomputable def x1v39 (P : Params) : Obj := ⟨(.type "type"), none, (.cls ⟨"GateloomError", [(.type "Exception")], [(.ref 39), (.type "Exception"), (.type "BaseException"), (.type "object")], 38, "GateloomError", true, [], [], false, none, false⟩), #[some (.ref 22), none, some (.str "GateloomError" 196), some (.str "GateloomError" 204), some (.builtin "Exception.__new__"), some (.bool true)]⟩
noncomputable def T1 : Params → BT := (bN o0 (bN o1 (bN x1v3 (bN o7 (bM o15 (bL o31)) (bM o23 (bL x1v39))) (bN o11 (bM o19 (bL o35)) (bL o27))) (bN o5 (bN o9 (bM o17 (bL o33)) (bM o25 (bL o41))) (bN o13 (bM o21 (bL o37)) (bL o29)))) (bN o2 (bN o4 (bN o8 (bM o16 (bL o32)) (bM o24 (bL o40))) (bN x1v12 (bM o20 (bL o36)) (bL o28))) (bN o6 (bN o10 (bM o18 (bL o34)) (bM o26 (bL o42))) (bN o14 (bM o22 (bL o38)) (bL o30)))))
noncomputable def S1 (w : World) (os : OsState) : SharedT := ⟨T1 w.params, 43, {}, gs0, {}, 232, os⟩
noncomputable def ss2 : List Stmt := (bE.drop 3).take 1
noncomputable def x2v3 (P : Params) : Obj := dcut P o3 12 [(0, (.str "gateloom.errors" 194))] 12
noncomputable def x2v12 (P : Params) : Obj := fcut P o12 9
noncomputable def x2v39 (P : Params) : Obj := ⟨(.type "type"), none, (.cls ⟨"GateloomError", [(.type "Exception")], [(.ref 39), (.type "Exception"), (.type "BaseException"), (.type "object")], 38, "GateloomError", true, [], [(.ref 52)], false, none, false⟩), #[some (.ref 22), none, some (.str "GateloomError" 196), some (.str "GateloomError" 204), some (.builtin "Exception.__new__"), some (.bool true)]⟩
noncomputable def T2 : Params → BT := (bN o0 (bN o1 (bN x2v3 (bN o7 (bN o15 (bL o31) (bL o47)) (bM o23 (bL x2v39))) (bN o11 (bN o19 (bL o35) (bL o51)) (bM o27 (bL o43)))) (bN o5 (bN o9 (bN o17 (bL o33) (bL o49)) (bM o25 (bL o41))) (bN o13 (bN o21 (bL o37) (bL o53)) (bM o29 (bL o45))))) (bN o2 (bN o4 (bN o8 (bN o16 (bL o32) (bL o48)) (bM o24 (bL o40))) (bN x2v12 (bN o20 (bL o36) (bL o52)) (bM o28 (bL o44)))) (bN o6 (bN o10 (bN o18 (bL o34) (bL o50)) (bM o26 (bL o42))) (bN o14 (bN o22 (bL o38) (bL o54)) (bM o30 (bL o46))))))
noncomputable def S2 (w : World) (os : OsState) : SharedT := ⟨T2 w.params, 55, {}, gs0, {}, 248, os⟩
noncomputable def ss3 : List Stmt := (bE.drop 4).take 7
noncomputable def x3v3 (P : Params) : Obj := dcut P o3 18 [(0, (.str "gateloom.vec" 264))] 18
noncomputable def x3v12 (P : Params) : Obj := fcut P o12 27
noncomputable def T3 : Params → BT := (bN o0 (bN o1 (bN x3v3 (bN o7 (bN o15 (bN o31 (bL o63) (bL o95)) (bM o47 (bL o79))) (bN o23 (bM o39 (bL o71)) (bM o55 (bL o87)))) (bN o11 (bN o19 (bN o35 (bL o67) (bL o99)) (bM o51 (bL o83))) (bN o27 (bM o43 (bL o75)) (bM o59 (bL o91))))) (bN o5 (bN o9 (bN o17 (bN o33 (bL o65) (bL o97)) (bM o49 (bL o81))) (bN o25 (bM o41 (bL o73)) (bM o57 (bL o89)))) (bN o13 (bN o21 (bN o37 (bL o69) (bL o101)) (bM o53 (bL o85))) (bN o29 (bM o45 (bL o77)) (bM o61 (bL o93)))))) (bN o2 (bN o4 (bN o8 (bN o16 (bN o32 (bL o64) (bL o96)) (bM o48 (bL o80))) (bN o24 (bM o40 (bL o72)) (bM o56 (bL o88)))) (bN x3v12 (bN o20 (bN o36 (bL o68) (bL o100)) (bM o52 (bL o84))) (bN o28 (bM o44 (bL o76)) (bM o60 (bL o92))))) (bN o6 (bN o10 (bN o18 (bN o34 (bL o66) (bL o98)) (bM o50 (bL o82))) (bN o26 (bM o42 (bL o74)) (bM o58 (bL o90)))) (bN o14 (bN o22 (bN o38 (bL o70) (bL o102)) (bM o54 (bL o86))) (bN o30 (bM o46 (bL o78)) (bM o62 (bL o94)))))))
noncomputable def S3 (w : World) (os : OsState) : SharedT := ⟨T3 w.params, 103, {}, gs0, {}, 306, os⟩
noncomputable def ss4 : List Stmt := (bE.drop 11).take 11
noncomputable def x4v3 (P : Params) : Obj := dcut P o3 28 [(0, (.str "gateloom.store" 410))] 28
noncomputable def x4v12 (P : Params) : Obj := fcut P o12 57
noncomputable def T4 : Params → BT := (bN o0 (bN o1 (bN x4v3 (bN o7 (bN o15 (bN o31 (bM o63 (bL o127)) (bM o95 (bL o159))) (bN o47 (bM o79 (bL o143)) (bL o111))) (bN o23 (bN o39 (bM o71 (bL o135)) (bM o103 (bL o167))) (bN o55 (bM o87 (bL o151)) (bL o119)))) (bN o11 (bN o19 (bN o35 (bM o67 (bL o131)) (bM o99 (bL o163))) (bN o51 (bM o83 (bL o147)) (bL o115))) (bN o27 (bN o43 (bM o75 (bL o139)) (bM o107 (bL o171))) (bN o59 (bM o91 (bL o155)) (bL o123))))) (bN o5 (bN o9 (bN o17 (bN o33 (bM o65 (bL o129)) (bM o97 (bL o161))) (bN o49 (bM o81 (bL o145)) (bL o113))) (bN o25 (bN o41 (bM o73 (bL o137)) (bM o105 (bL o169))) (bN o57 (bM o89 (bL o153)) (bL o121)))) (bN o13 (bN o21 (bN o37 (bM o69 (bL o133)) (bM o101 (bL o165))) (bN o53 (bM o85 (bL o149)) (bL o117))) (bN o29 (bN o45 (bM o77 (bL o141)) (bL o109)) (bN o61 (bM o93 (bL o157)) (bL o125)))))) (bN o2 (bN o4 (bN o8 (bN o16 (bN o32 (bM o64 (bL o128)) (bM o96 (bL o160))) (bN o48 (bM o80 (bL o144)) (bL o112))) (bN o24 (bN o40 (bM o72 (bL o136)) (bM o104 (bL o168))) (bN o56 (bM o88 (bL o152)) (bL o120)))) (bN x4v12 (bN o20 (bN o36 (bM o68 (bL o132)) (bM o100 (bL o164))) (bN o52 (bM o84 (bL o148)) (bL o116))) (bN o28 (bN o44 (bM o76 (bL o140)) (bM o108 (bL o172))) (bN o60 (bM o92 (bL o156)) (bL o124))))) (bN o6 (bN o10 (bN o18 (bN o34 (bM o66 (bL o130)) (bM o98 (bL o162))) (bN o50 (bM o82 (bL o146)) (bL o114))) (bN o26 (bN o42 (bM o74 (bL o138)) (bM o106 (bL o170))) (bN o58 (bM o90 (bL o154)) (bL o122)))) (bN o14 (bN o22 (bN o38 (bM o70 (bL o134)) (bM o102 (bL o166))) (bN o54 (bM o86 (bL o150)) (bL o118))) (bN o30 (bN o46 (bM o78 (bL o142)) (bL o110)) (bN o62 (bM o94 (bL o158)) (bL o126)))))))
noncomputable def S4 (w : World) (os : OsState) : SharedT := ⟨T4 w.params, 173, {}, gs0, {}, 412, os⟩
noncomputable def ss5 : List Stmt := (bE.drop 22).take 1
noncomputable def x5v3 (P : Params) : Obj := dcut P o3 29 [(0, (.str "gateloom.store" 410))] 29
noncomputable def x5v12 (P : Params) : Obj := fcut P o12 60
noncomputable def T5 : Params → BT := (bN o0 (bN o1 (bN x5v3 (bN o7 (bN o15 (bN o31 (bN o63 (bL o127) (bL o191)) (bM o95 (bL o159))) (bN o47 (bN o79 (bL o143) (bL o207)) (bM o111 (bL o175)))) (bN o23 (bN o39 (bN o71 (bL o135) (bL o199)) (bM o103 (bL o167))) (bN o55 (bM o87 (bL o151)) (bM o119 (bL o183))))) (bN o11 (bN o19 (bN o35 (bN o67 (bL o131) (bL o195)) (bM o99 (bL o163))) (bN o51 (bN o83 (bL o147) (bL o211)) (bM o115 (bL o179)))) (bN o27 (bN o43 (bN o75 (bL o139) (bL o203)) (bM o107 (bL o171))) (bN o59 (bM o91 (bL o155)) (bM o123 (bL o187)))))) (bN o5 (bN o9 (bN o17 (bN o33 (bN o65 (bL o129) (bL o193)) (bM o97 (bL o161))) (bN o49 (bN o81 (bL o145) (bL o209)) (bM o113 (bL o177)))) (bN o25 (bN o41 (bN o73 (bL o137) (bL o201)) (bM o105 (bL o169))) (bN o57 (bM o89 (bL o153)) (bM o121 (bL o185))))) (bN o13 (bN o21 (bN o37 (bN o69 (bL o133) (bL o197)) (bM o101 (bL o165))) (bN o53 (bN o85 (bL o149) (bL o213)) (bM o117 (bL o181)))) (bN o29 (bN o45 (bN o77 (bL o141) (bL o205)) (bM o109 (bL o173))) (bN o61 (bM o93 (bL o157)) (bM o125 (bL o189))))))) (bN o2 (bN o4 (bN o8 (bN o16 (bN o32 (bN o64 (bL o128) (bL o192)) (bM o96 (bL o160))) (bN o48 (bN o80 (bL o144) (bL o208)) (bM o112 (bL o176)))) (bN o24 (bN o40 (bN o72 (bL o136) (bL o200)) (bM o104 (bL o168))) (bN o56 (bM o88 (bL o152)) (bM o120 (bL o184))))) (bN x5v12 (bN o20 (bN o36 (bN o68 (bL o132) (bL o196)) (bM o100 (bL o164))) (bN o52 (bN o84 (bL o148) (bL o212)) (bM o116 (bL o180)))) (bN o28 (bN o44 (bN o76 (bL o140) (bL o204)) (bM o108 (bL o172))) (bN o60 (bM o92 (bL o156)) (bM o124 (bL o188)))))) (bN o6 (bN o10 (bN o18 (bN o34 (bN o66 (bL o130) (bL o194)) (bM o98 (bL o162))) (bN o50 (bN o82 (bL o146) (bL o210)) (bM o114 (bL o178)))) (bN o26 (bN o42 (bN o74 (bL o138) (bL o202)) (bM o106 (bL o170))) (bN o58 (bM o90 (bL o154)) (bM o122 (bL o186))))) (bN o14 (bN o22 (bN o38 (bN o70 (bL o134) (bL o198)) (bM o102 (bL o166))) (bN o54 (bN o86 (bL o150) (bL o214)) (bM o118 (bL o182)))) (bN o30 (bN o46 (bN o78 (bL o142) (bL o206)) (bM o110 (bL o174))) (bN o62 (bM o94 (bL o158)) (bM o126 (bL o190))))))))
noncomputable def S5 (w : World) (os : OsState) : SharedT := ⟨T5 w.params, 215, {}, gs0, {}, 479, os⟩
noncomputable def ss6 : List Stmt := (bE.drop 23).take 4
noncomputable def x6v3 (P : Params) : Obj := dcut P o3 32 [(0, (.str "gateloom.vecarith" 538))] 32
noncomputable def x6v12 (P : Params) : Obj := fcut P o12 69
noncomputable def x6v253 (P : Params) : Obj := ⟨(.type "type"), none, (.cls ⟨"Context", [(.type "object")], [(.ref 253), (.type "object")], 252, "Context", true, [], [], false, none, false⟩), #[none, none, some (.str "Context" 479), some (.str "Context" 487), some (.builtin "object.__new__"), some (.bool true)]⟩
noncomputable def T6 : Params → BT := (bN o0 (bN o1 (bN x6v3 (bN o7 (bN o15 (bN o31 (bN o63 (bM o127 (bL o255)) (bL o191)) (bN o95 (bL o159) (bL o223))) (bN o47 (bN o79 (bM o143 (bL o271)) (bL o207)) (bN o111 (bL o175) (bL o239)))) (bN o23 (bN o39 (bN o71 (bM o135 (bL o263)) (bL o199)) (bN o103 (bL o167) (bL o231))) (bN o55 (bN o87 (bL o151) (bL o215)) (bN o119 (bL o183) (bL o247))))) (bN o11 (bN o19 (bN o35 (bN o67 (bM o131 (bL o259)) (bL o195)) (bN o99 (bL o163) (bL o227))) (bN o51 (bN o83 (bL o147) (bL o211)) (bN o115 (bL o179) (bL o243)))) (bN o27 (bN o43 (bN o75 (bM o139 (bL o267)) (bL o203)) (bN o107 (bL o171) (bL o235))) (bN o59 (bN o91 (bL o155) (bL o219)) (bN o123 (bL o187) (bL o251)))))) (bN o5 (bN o9 (bN o17 (bN o33 (bN o65 (bM o129 (bL o257)) (bL o193)) (bN o97 (bL o161) (bL o225))) (bN o49 (bN o81 (bL o145) (bL o209)) (bN o113 (bL o177) (bL o241)))) (bN o25 (bN o41 (bN o73 (bM o137 (bL o265)) (bL o201)) (bN o105 (bL o169) (bL o233))) (bN o57 (bN o89 (bL o153) (bL o217)) (bN o121 (bL o185) (bL o249))))) (bN o13 (bN o21 (bN o37 (bN o69 (bM o133 (bL o261)) (bL o197)) (bN o101 (bL o165) (bL o229))) (bN o53 (bN o85 (bL o149) (bL o213)) (bN o117 (bL o181) (bL o245)))) (bN o29 (bN o45 (bN o77 (bM o141 (bL o269)) (bL o205)) (bN o109 (bL o173) (bL o237))) (bN o61 (bN o93 (bL o157) (bL o221)) (bN o125 (bL o189) (bL x6v253))))))) (bN o2 (bN o4 (bN o8 (bN o16 (bN o32 (bN o64 (bM o128 (bL o256)) (bL o192)) (bN o96 (bL o160) (bL o224))) (bN o48 (bN o80 (bL o144) (bL o208)) (bN o112 (bL o176) (bL o240)))) (bN o24 (bN o40 (bN o72 (bM o136 (bL o264)) (bL o200)) (bN o104 (bL o168) (bL o232))) (bN o56 (bN o88 (bL o152) (bL o216)) (bN o120 (bL o184) (bL o248))))) (bN x6v12 (bN o20 (bN o36 (bN o68 (bM o132 (bL o260)) (bL o196)) (bN o100 (bL o164) (bL o228))) (bN o52 (bN o84 (bL o148) (bL o212)) (bN o116 (bL o180) (bL o244)))) (bN o28 (bN o44 (bN o76 (bM o140 (bL o268)) (bL o204)) (bN o108 (bL o172) (bL o236))) (bN o60 (bN o92 (bL o156) (bL o220)) (bN o124 (bL o188) (bL o252)))))) (bN o6 (bN o10 (bN o18 (bN o34 (bN o66 (bM o130 (bL o258)) (bL o194)) (bN o98 (bL o162) (bL o226))) (bN o50 (bN o82 (bL o146) (bL o210)) (bN o114 (bL o178) (bL o242)))) (bN o26 (bN o42 (bN o74 (bM o138 (bL o266)) (bL o202)) (bN o106 (bL o170) (bL o234))) (bN o58 (bN o90 (bL o154) (bL o218)) (bN o122 (bL o186) (bL o250))))) (bN o14 (bN o22 (bN o38 (bN o70 (bM o134 (bL o262)) (bL o198)) (bN o102 (bL o166) (bL o230))) (bN o54 (bN o86 (bL o150) (bL o214)) (bN o118 (bL o182) (bL o246)))) (bN o30 (bN o46 (bN o78 (bM o142 (bL o270)) (bL o206)) (bN o110 (bL o174) (bL o238))) (bN o62 (bN o94 (bL o158) (bL o222)) (bN o126 (bL o190) (bL o254))))))))
noncomputable def S6 (w : World) (os : OsState) : SharedT := ⟨T6 w.params, 272, {}, gs0, {}, 556, os⟩
noncomputable def ss7 : List Stmt := (bE.drop 27).take 12
noncomputable def x7v3 (P : Params) : Obj := dcut P o3 44 [(0, (.str "gateloom.vecarith" 538))] 44
noncomputable def x7v12 (P : Params) : Obj := fcut P o12 105
noncomputable def x7v253 (P : Params) : Obj := ⟨(.type "type"), none, (.cls ⟨"Context", [(.type "object")], [(.ref 253), (.type "object")], 252, "Context", true, [], [], false, none, false⟩), #[none, none, some (.str "Context" 479), some (.str "Context" 487), some (.builtin "object.__new__"), some (.bool true)]⟩
noncomputable def T7 : Params → BT := (bN o0 (bN o1 (bN x7v3 (bN o7 (bN o15 (bN o31 (bN o63 (bM o127 (bL o255)) (bM o191 (bL o319))) (bN o95 (bM o159 (bL o287)) (bM o223 (bL o351)))) (bN o47 (bN o79 (bM o143 (bL o271)) (bM o207 (bL o335))) (bN o111 (bM o175 (bL o303)) (bL o239)))) (bN o23 (bN o39 (bN o71 (bM o135 (bL o263)) (bM o199 (bL o327))) (bN o103 (bM o167 (bL o295)) (bL o231))) (bN o55 (bN o87 (bM o151 (bL o279)) (bM o215 (bL o343))) (bN o119 (bM o183 (bL o311)) (bL o247))))) (bN o11 (bN o19 (bN o35 (bN o67 (bM o131 (bL o259)) (bM o195 (bL o323))) (bN o99 (bM o163 (bL o291)) (bM o227 (bL o355)))) (bN o51 (bN o83 (bM o147 (bL o275)) (bM o211 (bL o339))) (bN o115 (bM o179 (bL o307)) (bL o243)))) (bN o27 (bN o43 (bN o75 (bM o139 (bL o267)) (bM o203 (bL o331))) (bN o107 (bM o171 (bL o299)) (bL o235))) (bN o59 (bN o91 (bM o155 (bL o283)) (bM o219 (bL o347))) (bN o123 (bM o187 (bL o315)) (bL o251)))))) (bN o5 (bN o9 (bN o17 (bN o33 (bN o65 (bM o129 (bL o257)) (bM o193 (bL o321))) (bN o97 (bM o161 (bL o289)) (bM o225 (bL o353)))) (bN o49 (bN o81 (bM o145 (bL o273)) (bM o209 (bL o337))) (bN o113 (bM o177 (bL o305)) (bL o241)))) (bN o25 (bN o41 (bN o73 (bM o137 (bL o265)) (bM o201 (bL o329))) (bN o105 (bM o169 (bL o297)) (bL o233))) (bN o57 (bN o89 (bM o153 (bL o281)) (bM o217 (bL o345))) (bN o121 (bM o185 (bL o313)) (bL o249))))) (bN o13 (bN o21 (bN o37 (bN o69 (bM o133 (bL o261)) (bM o197 (bL o325))) (bN o101 (bM o165 (bL o293)) (bL o229))) (bN o53 (bN o85 (bM o149 (bL o277)) (bM o213 (bL o341))) (bN o117 (bM o181 (bL o309)) (bL o245)))) (bN o29 (bN o45 (bN o77 (bM o141 (bL o269)) (bM o205 (bL o333))) (bN o109 (bM o173 (bL o301)) (bL o237))) (bN o61 (bN o93 (bM o157 (bL o285)) (bM o221 (bL o349))) (bN o125 (bM o189 (bL o317)) (bL x7v253))))))) (bN o2 (bN o4 (bN o8 (bN o16 (bN o32 (bN o64 (bM o128 (bL o256)) (bM o192 (bL o320))) (bN o96 (bM o160 (bL o288)) (bM o224 (bL o352)))) (bN o48 (bN o80 (bM o144 (bL o272)) (bM o208 (bL o336))) (bN o112 (bM o176 (bL o304)) (bL o240)))) (bN o24 (bN o40 (bN o72 (bM o136 (bL o264)) (bM o200 (bL o328))) (bN o104 (bM o168 (bL o296)) (bL o232))) (bN o56 (bN o88 (bM o152 (bL o280)) (bM o216 (bL o344))) (bN o120 (bM o184 (bL o312)) (bL o248))))) (bN x7v12 (bN o20 (bN o36 (bN o68 (bM o132 (bL o260)) (bM o196 (bL o324))) (bN o100 (bM o164 (bL o292)) (bL o228))) (bN o52 (bN o84 (bM o148 (bL o276)) (bM o212 (bL o340))) (bN o116 (bM o180 (bL o308)) (bL o244)))) (bN o28 (bN o44 (bN o76 (bM o140 (bL o268)) (bM o204 (bL o332))) (bN o108 (bM o172 (bL o300)) (bL o236))) (bN o60 (bN o92 (bM o156 (bL o284)) (bM o220 (bL o348))) (bN o124 (bM o188 (bL o316)) (bL o252)))))) (bN o6 (bN o10 (bN o18 (bN o34 (bN o66 (bM o130 (bL o258)) (bM o194 (bL o322))) (bN o98 (bM o162 (bL o290)) (bM o226 (bL o354)))) (bN o50 (bN o82 (bM o146 (bL o274)) (bM o210 (bL o338))) (bN o114 (bM o178 (bL o306)) (bL o242)))) (bN o26 (bN o42 (bN o74 (bM o138 (bL o266)) (bM o202 (bL o330))) (bN o106 (bM o170 (bL o298)) (bL o234))) (bN o58 (bN o90 (bM o154 (bL o282)) (bM o218 (bL o346))) (bN o122 (bM o186 (bL o314)) (bL o250))))) (bN o14 (bN o22 (bN o38 (bN o70 (bM o134 (bL o262)) (bM o198 (bL o326))) (bN o102 (bM o166 (bL o294)) (bL o230))) (bN o54 (bN o86 (bM o150 (bL o278)) (bM o214 (bL o342))) (bN o118 (bM o182 (bL o310)) (bL o246)))) (bN o30 (bN o46 (bN o78 (bM o142 (bL o270)) (bM o206 (bL o334))) (bN o110 (bM o174 (bL o302)) (bL o238))) (bN o62 (bN o94 (bM o158 (bL o286)) (bM o222 (bL o350))) (bN o126 (bM o190 (bL o318)) (bL o254))))))))
noncomputable def S7 (w : World) (os : OsState) : SharedT := ⟨T7 w.params, 356, {}, gs0, {}, 683, os⟩
noncomputable def ss8 : List Stmt := (bE.drop 39).take 13
noncomputable def x8v3 (P : Params) : Obj := dcut P o3 56 [(0, (.str "gateloom.vecops" 711))] 56
noncomputable def x8v12 (P : Params) : Obj := fcut P o12 141
noncomputable def x8v253 (P : Params) : Obj := ⟨(.type "type"), none, (.cls ⟨"Context", [(.type "object")], [(.ref 253), (.type "object")], 252, "Context", true, [], [], false, none, false⟩), #[none, none, some (.str "Context" 479), some (.str "Context" 487), some (.builtin "object.__new__"), some (.bool true)]⟩
noncomputable def T8 : Params → BT := (bN o0 (bN o1 (bN x8v3 (bN o7 (bN o15 (bN o31 (bN o63 (bN o127 (bL o255) (bL o383)) (bM o191 (bL o319))) (bN o95 (bN o159 (bL o287) (bL o415)) (bM o223 (bL o351)))) (bN o47 (bN o79 (bN o143 (bL o271) (bL o399)) (bM o207 (bL o335))) (bN o111 (bN o175 (bL o303) (bL o431)) (bM o239 (bL o367))))) (bN o23 (bN o39 (bN o71 (bN o135 (bL o263) (bL o391)) (bM o199 (bL o327))) (bN o103 (bN o167 (bL o295) (bL o423)) (bM o231 (bL o359)))) (bN o55 (bN o87 (bN o151 (bL o279) (bL o407)) (bM o215 (bL o343))) (bN o119 (bN o183 (bL o311) (bL o439)) (bM o247 (bL o375)))))) (bN o11 (bN o19 (bN o35 (bN o67 (bN o131 (bL o259) (bL o387)) (bM o195 (bL o323))) (bN o99 (bN o163 (bL o291) (bL o419)) (bM o227 (bL o355)))) (bN o51 (bN o83 (bN o147 (bL o275) (bL o403)) (bM o211 (bL o339))) (bN o115 (bN o179 (bL o307) (bL o435)) (bM o243 (bL o371))))) (bN o27 (bN o43 (bN o75 (bN o139 (bL o267) (bL o395)) (bM o203 (bL o331))) (bN o107 (bN o171 (bL o299) (bL o427)) (bM o235 (bL o363)))) (bN o59 (bN o91 (bN o155 (bL o283) (bL o411)) (bM o219 (bL o347))) (bN o123 (bM o187 (bL o315)) (bM o251 (bL o379))))))) (bN o5 (bN o9 (bN o17 (bN o33 (bN o65 (bN o129 (bL o257) (bL o385)) (bM o193 (bL o321))) (bN o97 (bN o161 (bL o289) (bL o417)) (bM o225 (bL o353)))) (bN o49 (bN o81 (bN o145 (bL o273) (bL o401)) (bM o209 (bL o337))) (bN o113 (bN o177 (bL o305) (bL o433)) (bM o241 (bL o369))))) (bN o25 (bN o41 (bN o73 (bN o137 (bL o265) (bL o393)) (bM o201 (bL o329))) (bN o105 (bN o169 (bL o297) (bL o425)) (bM o233 (bL o361)))) (bN o57 (bN o89 (bN o153 (bL o281) (bL o409)) (bM o217 (bL o345))) (bN o121 (bM o185 (bL o313)) (bM o249 (bL o377)))))) (bN o13 (bN o21 (bN o37 (bN o69 (bN o133 (bL o261) (bL o389)) (bM o197 (bL o325))) (bN o101 (bN o165 (bL o293) (bL o421)) (bM o229 (bL o357)))) (bN o53 (bN o85 (bN o149 (bL o277) (bL o405)) (bM o213 (bL o341))) (bN o117 (bN o181 (bL o309) (bL o437)) (bM o245 (bL o373))))) (bN o29 (bN o45 (bN o77 (bN o141 (bL o269) (bL o397)) (bM o205 (bL o333))) (bN o109 (bN o173 (bL o301) (bL o429)) (bM o237 (bL o365)))) (bN o61 (bN o93 (bN o157 (bL o285) (bL o413)) (bM o221 (bL o349))) (bN o125 (bM o189 (bL o317)) (bM x8v253 (bL o381)))))))) (bN o2 (bN o4 (bN o8 (bN o16 (bN o32 (bN o64 (bN o128 (bL o256) (bL o384)) (bM o192 (bL o320))) (bN o96 (bN o160 (bL o288) (bL o416)) (bM o224 (bL o352)))) (bN o48 (bN o80 (bN o144 (bL o272) (bL o400)) (bM o208 (bL o336))) (bN o112 (bN o176 (bL o304) (bL o432)) (bM o240 (bL o368))))) (bN o24 (bN o40 (bN o72 (bN o136 (bL o264) (bL o392)) (bM o200 (bL o328))) (bN o104 (bN o168 (bL o296) (bL o424)) (bM o232 (bL o360)))) (bN o56 (bN o88 (bN o152 (bL o280) (bL o408)) (bM o216 (bL o344))) (bN o120 (bM o184 (bL o312)) (bM o248 (bL o376)))))) (bN x8v12 (bN o20 (bN o36 (bN o68 (bN o132 (bL o260) (bL o388)) (bM o196 (bL o324))) (bN o100 (bN o164 (bL o292) (bL o420)) (bM o228 (bL o356)))) (bN o52 (bN o84 (bN o148 (bL o276) (bL o404)) (bM o212 (bL o340))) (bN o116 (bN o180 (bL o308) (bL o436)) (bM o244 (bL o372))))) (bN o28 (bN o44 (bN o76 (bN o140 (bL o268) (bL o396)) (bM o204 (bL o332))) (bN o108 (bN o172 (bL o300) (bL o428)) (bM o236 (bL o364)))) (bN o60 (bN o92 (bN o156 (bL o284) (bL o412)) (bM o220 (bL o348))) (bN o124 (bM o188 (bL o316)) (bM o252 (bL o380))))))) (bN o6 (bN o10 (bN o18 (bN o34 (bN o66 (bN o130 (bL o258) (bL o386)) (bM o194 (bL o322))) (bN o98 (bN o162 (bL o290) (bL o418)) (bM o226 (bL o354)))) (bN o50 (bN o82 (bN o146 (bL o274) (bL o402)) (bM o210 (bL o338))) (bN o114 (bN o178 (bL o306) (bL o434)) (bM o242 (bL o370))))) (bN o26 (bN o42 (bN o74 (bN o138 (bL o266) (bL o394)) (bM o202 (bL o330))) (bN o106 (bN o170 (bL o298) (bL o426)) (bM o234 (bL o362)))) (bN o58 (bN o90 (bN o154 (bL o282) (bL o410)) (bM o218 (bL o346))) (bN o122 (bM o186 (bL o314)) (bM o250 (bL o378)))))) (bN o14 (bN o22 (bN o38 (bN o70 (bN o134 (bL o262) (bL o390)) (bM o198 (bL o326))) (bN o102 (bN o166 (bL o294) (bL o422)) (bM o230 (bL o358)))) (bN o54 (bN o86 (bN o150 (bL o278) (bL o406)) (bM o214 (bL o342))) (bN o118 (bN o182 (bL o310) (bL o438)) (bM o246 (bL o374))))) (bN o30 (bN o46 (bN o78 (bN o142 (bL o270) (bL o398)) (bM o206 (bL o334))) (bN o110 (bN o174 (bL o302) (bL o430)) (bM o238 (bL o366)))) (bN o62 (bN o94 (bN o158 (bL o286) (bL o414)) (bM o222 (bL o350))) (bN o126 (bM o190 (bL o318)) (bM o254 (bL o382)))))))))
noncomputable def S8 (w : World) (os : OsState) : SharedT := ⟨T8 w.params, 440, {}, gs0, {}, 800, os⟩
noncomputable def ss9 : List Stmt := (bE.drop 52).take 13
noncomputable def x9v3 (P : Params) : Obj := dcut P o3 68 [(0, (.str "gateloom.evaluate" 903))] 68
noncomputable def x9v12 (P : Params) : Obj := fcut P o12 177
noncomputable def x9v253 (P : Params) : Obj := ⟨(.type "type"), none, (.cls ⟨"Context", [(.type "object")], [(.ref 253), (.type "object")], 252, "Context", true, [], [], false, none, false⟩), #[none, none, some (.str "Context" 479), some (.str "Context" 487), some (.builtin "object.__new__"), some (.bool true)]⟩
noncomputable def T9 : Params → BT := (bN o0 (bN o1 (bN x9v3 (bN o7 (bN o15 (bN o31 (bN o63 (bN o127 (bM o255 (bL o511)) (bL o383)) (bN o191 (bL o319) (bL o447))) (bN o95 (bN o159 (bL o287) (bL o415)) (bN o223 (bL o351) (bL o479)))) (bN o47 (bN o79 (bN o143 (bL o271) (bL o399)) (bN o207 (bL o335) (bL o463))) (bN o111 (bN o175 (bL o303) (bL o431)) (bN o239 (bL o367) (bL o495))))) (bN o23 (bN o39 (bN o71 (bN o135 (bM o263 (bL o519)) (bL o391)) (bN o199 (bL o327) (bL o455))) (bN o103 (bN o167 (bL o295) (bL o423)) (bN o231 (bL o359) (bL o487)))) (bN o55 (bN o87 (bN o151 (bL o279) (bL o407)) (bN o215 (bL o343) (bL o471))) (bN o119 (bN o183 (bL o311) (bL o439)) (bN o247 (bL o375) (bL o503)))))) (bN o11 (bN o19 (bN o35 (bN o67 (bN o131 (bM o259 (bL o515)) (bL o387)) (bN o195 (bL o323) (bL o451))) (bN o99 (bN o163 (bL o291) (bL o419)) (bN o227 (bL o355) (bL o483)))) (bN o51 (bN o83 (bN o147 (bL o275) (bL o403)) (bN o211 (bL o339) (bL o467))) (bN o115 (bN o179 (bL o307) (bL o435)) (bN o243 (bL o371) (bL o499))))) (bN o27 (bN o43 (bN o75 (bN o139 (bM o267 (bL o523)) (bL o395)) (bN o203 (bL o331) (bL o459))) (bN o107 (bN o171 (bL o299) (bL o427)) (bN o235 (bL o363) (bL o491)))) (bN o59 (bN o91 (bN o155 (bL o283) (bL o411)) (bN o219 (bL o347) (bL o475))) (bN o123 (bN o187 (bL o315) (bL o443)) (bN o251 (bL o379) (bL o507))))))) (bN o5 (bN o9 (bN o17 (bN o33 (bN o65 (bN o129 (bM o257 (bL o513)) (bL o385)) (bN o193 (bL o321) (bL o449))) (bN o97 (bN o161 (bL o289) (bL o417)) (bN o225 (bL o353) (bL o481)))) (bN o49 (bN o81 (bN o145 (bL o273) (bL o401)) (bN o209 (bL o337) (bL o465))) (bN o113 (bN o177 (bL o305) (bL o433)) (bN o241 (bL o369) (bL o497))))) (bN o25 (bN o41 (bN o73 (bN o137 (bM o265 (bL o521)) (bL o393)) (bN o201 (bL o329) (bL o457))) (bN o105 (bN o169 (bL o297) (bL o425)) (bN o233 (bL o361) (bL o489)))) (bN o57 (bN o89 (bN o153 (bL o281) (bL o409)) (bN o217 (bL o345) (bL o473))) (bN o121 (bN o185 (bL o313) (bL o441)) (bN o249 (bL o377) (bL o505)))))) (bN o13 (bN o21 (bN o37 (bN o69 (bN o133 (bM o261 (bL o517)) (bL o389)) (bN o197 (bL o325) (bL o453))) (bN o101 (bN o165 (bL o293) (bL o421)) (bN o229 (bL o357) (bL o485)))) (bN o53 (bN o85 (bN o149 (bL o277) (bL o405)) (bN o213 (bL o341) (bL o469))) (bN o117 (bN o181 (bL o309) (bL o437)) (bN o245 (bL o373) (bL o501))))) (bN o29 (bN o45 (bN o77 (bN o141 (bL o269) (bL o397)) (bN o205 (bL o333) (bL o461))) (bN o109 (bN o173 (bL o301) (bL o429)) (bN o237 (bL o365) (bL o493)))) (bN o61 (bN o93 (bN o157 (bL o285) (bL o413)) (bN o221 (bL o349) (bL o477))) (bN o125 (bN o189 (bL o317) (bL o445)) (bN x9v253 (bL o381) (bL o509)))))))) (bN o2 (bN o4 (bN o8 (bN o16 (bN o32 (bN o64 (bN o128 (bM o256 (bL o512)) (bL o384)) (bN o192 (bL o320) (bL o448))) (bN o96 (bN o160 (bL o288) (bL o416)) (bN o224 (bL o352) (bL o480)))) (bN o48 (bN o80 (bN o144 (bL o272) (bL o400)) (bN o208 (bL o336) (bL o464))) (bN o112 (bN o176 (bL o304) (bL o432)) (bN o240 (bL o368) (bL o496))))) (bN o24 (bN o40 (bN o72 (bN o136 (bM o264 (bL o520)) (bL o392)) (bN o200 (bL o328) (bL o456))) (bN o104 (bN o168 (bL o296) (bL o424)) (bN o232 (bL o360) (bL o488)))) (bN o56 (bN o88 (bN o152 (bL o280) (bL o408)) (bN o216 (bL o344) (bL o472))) (bN o120 (bN o184 (bL o312) (bL o440)) (bN o248 (bL o376) (bL o504)))))) (bN x9v12 (bN o20 (bN o36 (bN o68 (bN o132 (bM o260 (bL o516)) (bL o388)) (bN o196 (bL o324) (bL o452))) (bN o100 (bN o164 (bL o292) (bL o420)) (bN o228 (bL o356) (bL o484)))) (bN o52 (bN o84 (bN o148 (bL o276) (bL o404)) (bN o212 (bL o340) (bL o468))) (bN o116 (bN o180 (bL o308) (bL o436)) (bN o244 (bL o372) (bL o500))))) (bN o28 (bN o44 (bN o76 (bN o140 (bL o268) (bL o396)) (bN o204 (bL o332) (bL o460))) (bN o108 (bN o172 (bL o300) (bL o428)) (bN o236 (bL o364) (bL o492)))) (bN o60 (bN o92 (bN o156 (bL o284) (bL o412)) (bN o220 (bL o348) (bL o476))) (bN o124 (bN o188 (bL o316) (bL o444)) (bN o252 (bL o380) (bL o508))))))) (bN o6 (bN o10 (bN o18 (bN o34 (bN o66 (bN o130 (bM o258 (bL o514)) (bL o386)) (bN o194 (bL o322) (bL o450))) (bN o98 (bN o162 (bL o290) (bL o418)) (bN o226 (bL o354) (bL o482)))) (bN o50 (bN o82 (bN o146 (bL o274) (bL o402)) (bN o210 (bL o338) (bL o466))) (bN o114 (bN o178 (bL o306) (bL o434)) (bN o242 (bL o370) (bL o498))))) (bN o26 (bN o42 (bN o74 (bN o138 (bM o266 (bL o522)) (bL o394)) (bN o202 (bL o330) (bL o458))) (bN o106 (bN o170 (bL o298) (bL o426)) (bN o234 (bL o362) (bL o490)))) (bN o58 (bN o90 (bN o154 (bL o282) (bL o410)) (bN o218 (bL o346) (bL o474))) (bN o122 (bN o186 (bL o314) (bL o442)) (bN o250 (bL o378) (bL o506)))))) (bN o14 (bN o22 (bN o38 (bN o70 (bN o134 (bM o262 (bL o518)) (bL o390)) (bN o198 (bL o326) (bL o454))) (bN o102 (bN o166 (bL o294) (bL o422)) (bN o230 (bL o358) (bL o486)))) (bN o54 (bN o86 (bN o150 (bL o278) (bL o406)) (bN o214 (bL o342) (bL o470))) (bN o118 (bN o182 (bL o310) (bL o438)) (bN o246 (bL o374) (bL o502))))) (bN o30 (bN o46 (bN o78 (bN o142 (bL o270) (bL o398)) (bN o206 (bL o334) (bL o462))) (bN o110 (bN o174 (bL o302) (bL o430)) (bN o238 (bL o366) (bL o494)))) (bN o62 (bN o94 (bN o158 (bL o286) (bL o414)) (bN o222 (bL o350) (bL o478))) (bN o126 (bN o190 (bL o318) (bL o446)) (bN o254 (bL o382) (bL o510)))))))))
noncomputable def S9 (w : World) (os : OsState) : SharedT := ⟨T9 w.params, 524, {}, gs0, {}, 905, os⟩
noncomputable def ss10 : List Stmt := (bE.drop 65).take 13
noncomputable def x10v3 (P : Params) : Obj := dcut P o3 81 [(0, (.str "gateloom.evaluate" 903)), (78, (.ref 600))] 81
noncomputable def x10v12 (P : Params) : Obj := fcut P o12 213
noncomputable def x10v253 (P : Params) : Obj := ⟨(.type "type"), none, (.cls ⟨"Context", [(.type "object")], [(.ref 253), (.type "object")], 252, "Context", true, [], [], false, none, false⟩), #[none, none, some (.str "Context" 479), some (.str "Context" 487), some (.builtin "object.__new__"), some (.bool true)]⟩
noncomputable def T10 : Params → BT := (bN o0 (bN o1 (bN x10v3 (bN o7 (bN o15 (bN o31 (bN o63 (bN o127 (bM o255 (bL o511)) (bL o383)) (bN o191 (bM o319 (bL o575)) (bL o447))) (bN o95 (bN o159 (bM o287 (bL o543)) (bL o415)) (bN o223 (bL o351) (bL o479)))) (bN o47 (bN o79 (bN o143 (bM o271 (bL o527)) (bL o399)) (bN o207 (bM o335 (bL o591)) (bL o463))) (bN o111 (bN o175 (bM o303 (bL o559)) (bL o431)) (bN o239 (bL o367) (bL o495))))) (bN o23 (bN o39 (bN o71 (bN o135 (bM o263 (bL o519)) (bL o391)) (bN o199 (bM o327 (bL o583)) (bL o455))) (bN o103 (bN o167 (bM o295 (bL o551)) (bL o423)) (bN o231 (bL o359) (bL o487)))) (bN o55 (bN o87 (bN o151 (bM o279 (bL o535)) (bL o407)) (bN o215 (bM o343 (bL o599)) (bL o471))) (bN o119 (bN o183 (bM o311 (bL o567)) (bL o439)) (bN o247 (bL o375) (bL o503)))))) (bN o11 (bN o19 (bN o35 (bN o67 (bN o131 (bM o259 (bL o515)) (bL o387)) (bN o195 (bM o323 (bL o579)) (bL o451))) (bN o99 (bN o163 (bM o291 (bL o547)) (bL o419)) (bN o227 (bL o355) (bL o483)))) (bN o51 (bN o83 (bN o147 (bM o275 (bL o531)) (bL o403)) (bN o211 (bM o339 (bL o595)) (bL o467))) (bN o115 (bN o179 (bM o307 (bL o563)) (bL o435)) (bN o243 (bL o371) (bL o499))))) (bN o27 (bN o43 (bN o75 (bN o139 (bM o267 (bL o523)) (bL o395)) (bN o203 (bM o331 (bL o587)) (bL o459))) (bN o107 (bN o171 (bM o299 (bL o555)) (bL o427)) (bN o235 (bL o363) (bL o491)))) (bN o59 (bN o91 (bN o155 (bM o283 (bL o539)) (bL o411)) (bN o219 (bM o347 (bL o603)) (bL o475))) (bN o123 (bN o187 (bM o315 (bL o571)) (bL o443)) (bN o251 (bL o379) (bL o507))))))) (bN o5 (bN o9 (bN o17 (bN o33 (bN o65 (bN o129 (bM o257 (bL o513)) (bL o385)) (bN o193 (bM o321 (bL o577)) (bL o449))) (bN o97 (bN o161 (bM o289 (bL o545)) (bL o417)) (bN o225 (bL o353) (bL o481)))) (bN o49 (bN o81 (bN o145 (bM o273 (bL o529)) (bL o401)) (bN o209 (bM o337 (bL o593)) (bL o465))) (bN o113 (bN o177 (bM o305 (bL o561)) (bL o433)) (bN o241 (bL o369) (bL o497))))) (bN o25 (bN o41 (bN o73 (bN o137 (bM o265 (bL o521)) (bL o393)) (bN o201 (bM o329 (bL o585)) (bL o457))) (bN o105 (bN o169 (bM o297 (bL o553)) (bL o425)) (bN o233 (bL o361) (bL o489)))) (bN o57 (bN o89 (bN o153 (bM o281 (bL o537)) (bL o409)) (bN o217 (bM o345 (bL o601)) (bL o473))) (bN o121 (bN o185 (bM o313 (bL o569)) (bL o441)) (bN o249 (bL o377) (bL o505)))))) (bN o13 (bN o21 (bN o37 (bN o69 (bN o133 (bM o261 (bL o517)) (bL o389)) (bN o197 (bM o325 (bL o581)) (bL o453))) (bN o101 (bN o165 (bM o293 (bL o549)) (bL o421)) (bN o229 (bL o357) (bL o485)))) (bN o53 (bN o85 (bN o149 (bM o277 (bL o533)) (bL o405)) (bN o213 (bM o341 (bL o597)) (bL o469))) (bN o117 (bN o181 (bM o309 (bL o565)) (bL o437)) (bN o245 (bL o373) (bL o501))))) (bN o29 (bN o45 (bN o77 (bN o141 (bM o269 (bL o525)) (bL o397)) (bN o205 (bM o333 (bL o589)) (bL o461))) (bN o109 (bN o173 (bM o301 (bL o557)) (bL o429)) (bN o237 (bL o365) (bL o493)))) (bN o61 (bN o93 (bN o157 (bM o285 (bL o541)) (bL o413)) (bN o221 (bM o349 (bL o605)) (bL o477))) (bN o125 (bN o189 (bM o317 (bL o573)) (bL o445)) (bN x10v253 (bL o381) (bL o509)))))))) (bN o2 (bN o4 (bN o8 (bN o16 (bN o32 (bN o64 (bN o128 (bM o256 (bL o512)) (bL o384)) (bN o192 (bM o320 (bL o576)) (bL o448))) (bN o96 (bN o160 (bM o288 (bL o544)) (bL o416)) (bN o224 (bL o352) (bL o480)))) (bN o48 (bN o80 (bN o144 (bM o272 (bL o528)) (bL o400)) (bN o208 (bM o336 (bL o592)) (bL o464))) (bN o112 (bN o176 (bM o304 (bL o560)) (bL o432)) (bN o240 (bL o368) (bL o496))))) (bN o24 (bN o40 (bN o72 (bN o136 (bM o264 (bL o520)) (bL o392)) (bN o200 (bM o328 (bL o584)) (bL o456))) (bN o104 (bN o168 (bM o296 (bL o552)) (bL o424)) (bN o232 (bL o360) (bL o488)))) (bN o56 (bN o88 (bN o152 (bM o280 (bL o536)) (bL o408)) (bN o216 (bM o344 (bL o600)) (bL o472))) (bN o120 (bN o184 (bM o312 (bL o568)) (bL o440)) (bN o248 (bL o376) (bL o504)))))) (bN x10v12 (bN o20 (bN o36 (bN o68 (bN o132 (bM o260 (bL o516)) (bL o388)) (bN o196 (bM o324 (bL o580)) (bL o452))) (bN o100 (bN o164 (bM o292 (bL o548)) (bL o420)) (bN o228 (bL o356) (bL o484)))) (bN o52 (bN o84 (bN o148 (bM o276 (bL o532)) (bL o404)) (bN o212 (bM o340 (bL o596)) (bL o468))) (bN o116 (bN o180 (bM o308 (bL o564)) (bL o436)) (bN o244 (bL o372) (bL o500))))) (bN o28 (bN o44 (bN o76 (bN o140 (bM o268 (bL o524)) (bL o396)) (bN o204 (bM o332 (bL o588)) (bL o460))) (bN o108 (bN o172 (bM o300 (bL o556)) (bL o428)) (bN o236 (bL o364) (bL o492)))) (bN o60 (bN o92 (bN o156 (bM o284 (bL o540)) (bL o412)) (bN o220 (bM o348 (bL o604)) (bL o476))) (bN o124 (bN o188 (bM o316 (bL o572)) (bL o444)) (bN o252 (bL o380) (bL o508))))))) (bN o6 (bN o10 (bN o18 (bN o34 (bN o66 (bN o130 (bM o258 (bL o514)) (bL o386)) (bN o194 (bM o322 (bL o578)) (bL o450))) (bN o98 (bN o162 (bM o290 (bL o546)) (bL o418)) (bN o226 (bL o354) (bL o482)))) (bN o50 (bN o82 (bN o146 (bM o274 (bL o530)) (bL o402)) (bN o210 (bM o338 (bL o594)) (bL o466))) (bN o114 (bN o178 (bM o306 (bL o562)) (bL o434)) (bN o242 (bL o370) (bL o498))))) (bN o26 (bN o42 (bN o74 (bN o138 (bM o266 (bL o522)) (bL o394)) (bN o202 (bM o330 (bL o586)) (bL o458))) (bN o106 (bN o170 (bM o298 (bL o554)) (bL o426)) (bN o234 (bL o362) (bL o490)))) (bN o58 (bN o90 (bN o154 (bM o282 (bL o538)) (bL o410)) (bN o218 (bM o346 (bL o602)) (bL o474))) (bN o122 (bN o186 (bM o314 (bL o570)) (bL o442)) (bN o250 (bL o378) (bL o506)))))) (bN o14 (bN o22 (bN o38 (bN o70 (bN o134 (bM o262 (bL o518)) (bL o390)) (bN o198 (bM o326 (bL o582)) (bL o454))) (bN o102 (bN o166 (bM o294 (bL o550)) (bL o422)) (bN o230 (bL o358) (bL o486)))) (bN o54 (bN o86 (bN o150 (bM o278 (bL o534)) (bL o406)) (bN o214 (bM o342 (bL o598)) (bL o470))) (bN o118 (bN o182 (bM o310 (bL o566)) (bL o438)) (bN o246 (bL o374) (bL o502))))) (bN o30 (bN o46 (bN o78 (bN o142 (bM o270 (bL o526)) (bL o398)) (bN o206 (bM o334 (bL o590)) (bL o462))) (bN o110 (bN o174 (bM o302 (bL o558)) (bL o430)) (bN o238 (bL o366) (bL o494)))) (bN o62 (bN o94 (bN o158 (bM o286 (bL o542)) (bL o414)) (bN o222 (bL o350) (bL o478))) (bN o126 (bN o190 (bM o318 (bL o574)) (bL o446)) (bN o254 (bL o382) (bL o510)))))))))
noncomputable def S10 (w : World) (os : OsState) : SharedT := ⟨T10 w.params, 606, {}, gs0, {}, 1018, os⟩
noncomputable def ss11 : List Stmt := (bE.drop 78).take 6
noncomputable def x11v3 (P : Params) : Obj := dcut P o3 86 [(0, (.str "gateloom.funcs" 1071)), (78, (.ref 600))] 86
noncomputable def x11v12 (P : Params) : Obj := fcut P o12 225
noncomputable def x11v253 (P : Params) : Obj := ⟨(.type "type"), none, (.cls ⟨"Context", [(.type "object")], [(.ref 253), (.type "object")], 252, "Context", true, [], [], false, none, false⟩), #[none, none, some (.str "Context" 479), some (.str "Context" 487), some (.builtin "object.__new__"), some (.bool true)]⟩
noncomputable def T11 : Params → BT := (bN o0 (bN o1 (bN x11v3 (bN o7 (bN o15 (bN o31 (bN o63 (bN o127 (bM o255 (bL o511)) (bL o383)) (bN o191 (bM o319 (bL o575)) (bL o447))) (bN o95 (bN o159 (bM o287 (bL o543)) (bL o415)) (bN o223 (bM o351 (bL o607)) (bL o479)))) (bN o47 (bN o79 (bN o143 (bM o271 (bL o527)) (bL o399)) (bN o207 (bM o335 (bL o591)) (bL o463))) (bN o111 (bN o175 (bM o303 (bL o559)) (bL o431)) (bN o239 (bM o367 (bL o623)) (bL o495))))) (bN o23 (bN o39 (bN o71 (bN o135 (bM o263 (bL o519)) (bL o391)) (bN o199 (bM o327 (bL o583)) (bL o455))) (bN o103 (bN o167 (bM o295 (bL o551)) (bL o423)) (bN o231 (bM o359 (bL o615)) (bL o487)))) (bN o55 (bN o87 (bN o151 (bM o279 (bL o535)) (bL o407)) (bN o215 (bM o343 (bL o599)) (bL o471))) (bN o119 (bN o183 (bM o311 (bL o567)) (bL o439)) (bN o247 (bM o375 (bL o631)) (bL o503)))))) (bN o11 (bN o19 (bN o35 (bN o67 (bN o131 (bM o259 (bL o515)) (bL o387)) (bN o195 (bM o323 (bL o579)) (bL o451))) (bN o99 (bN o163 (bM o291 (bL o547)) (bL o419)) (bN o227 (bM o355 (bL o611)) (bL o483)))) (bN o51 (bN o83 (bN o147 (bM o275 (bL o531)) (bL o403)) (bN o211 (bM o339 (bL o595)) (bL o467))) (bN o115 (bN o179 (bM o307 (bL o563)) (bL o435)) (bN o243 (bM o371 (bL o627)) (bL o499))))) (bN o27 (bN o43 (bN o75 (bN o139 (bM o267 (bL o523)) (bL o395)) (bN o203 (bM o331 (bL o587)) (bL o459))) (bN o107 (bN o171 (bM o299 (bL o555)) (bL o427)) (bN o235 (bM o363 (bL o619)) (bL o491)))) (bN o59 (bN o91 (bN o155 (bM o283 (bL o539)) (bL o411)) (bN o219 (bM o347 (bL o603)) (bL o475))) (bN o123 (bN o187 (bM o315 (bL o571)) (bL o443)) (bN o251 (bL o379) (bL o507))))))) (bN o5 (bN o9 (bN o17 (bN o33 (bN o65 (bN o129 (bM o257 (bL o513)) (bL o385)) (bN o193 (bM o321 (bL o577)) (bL o449))) (bN o97 (bN o161 (bM o289 (bL o545)) (bL o417)) (bN o225 (bM o353 (bL o609)) (bL o481)))) (bN o49 (bN o81 (bN o145 (bM o273 (bL o529)) (bL o401)) (bN o209 (bM o337 (bL o593)) (bL o465))) (bN o113 (bN o177 (bM o305 (bL o561)) (bL o433)) (bN o241 (bM o369 (bL o625)) (bL o497))))) (bN o25 (bN o41 (bN o73 (bN o137 (bM o265 (bL o521)) (bL o393)) (bN o201 (bM o329 (bL o585)) (bL o457))) (bN o105 (bN o169 (bM o297 (bL o553)) (bL o425)) (bN o233 (bM o361 (bL o617)) (bL o489)))) (bN o57 (bN o89 (bN o153 (bM o281 (bL o537)) (bL o409)) (bN o217 (bM o345 (bL o601)) (bL o473))) (bN o121 (bN o185 (bM o313 (bL o569)) (bL o441)) (bN o249 (bM o377 (bL o633)) (bL o505)))))) (bN o13 (bN o21 (bN o37 (bN o69 (bN o133 (bM o261 (bL o517)) (bL o389)) (bN o197 (bM o325 (bL o581)) (bL o453))) (bN o101 (bN o165 (bM o293 (bL o549)) (bL o421)) (bN o229 (bM o357 (bL o613)) (bL o485)))) (bN o53 (bN o85 (bN o149 (bM o277 (bL o533)) (bL o405)) (bN o213 (bM o341 (bL o597)) (bL o469))) (bN o117 (bN o181 (bM o309 (bL o565)) (bL o437)) (bN o245 (bM o373 (bL o629)) (bL o501))))) (bN o29 (bN o45 (bN o77 (bN o141 (bM o269 (bL o525)) (bL o397)) (bN o205 (bM o333 (bL o589)) (bL o461))) (bN o109 (bN o173 (bM o301 (bL o557)) (bL o429)) (bN o237 (bM o365 (bL o621)) (bL o493)))) (bN o61 (bN o93 (bN o157 (bM o285 (bL o541)) (bL o413)) (bN o221 (bM o349 (bL o605)) (bL o477))) (bN o125 (bN o189 (bM o317 (bL o573)) (bL o445)) (bN x11v253 (bL o381) (bL o509)))))))) (bN o2 (bN o4 (bN o8 (bN o16 (bN o32 (bN o64 (bN o128 (bM o256 (bL o512)) (bL o384)) (bN o192 (bM o320 (bL o576)) (bL o448))) (bN o96 (bN o160 (bM o288 (bL o544)) (bL o416)) (bN o224 (bM o352 (bL o608)) (bL o480)))) (bN o48 (bN o80 (bN o144 (bM o272 (bL o528)) (bL o400)) (bN o208 (bM o336 (bL o592)) (bL o464))) (bN o112 (bN o176 (bM o304 (bL o560)) (bL o432)) (bN o240 (bM o368 (bL o624)) (bL o496))))) (bN o24 (bN o40 (bN o72 (bN o136 (bM o264 (bL o520)) (bL o392)) (bN o200 (bM o328 (bL o584)) (bL o456))) (bN o104 (bN o168 (bM o296 (bL o552)) (bL o424)) (bN o232 (bM o360 (bL o616)) (bL o488)))) (bN o56 (bN o88 (bN o152 (bM o280 (bL o536)) (bL o408)) (bN o216 (bM o344 (bL o600)) (bL o472))) (bN o120 (bN o184 (bM o312 (bL o568)) (bL o440)) (bN o248 (bM o376 (bL o632)) (bL o504)))))) (bN x11v12 (bN o20 (bN o36 (bN o68 (bN o132 (bM o260 (bL o516)) (bL o388)) (bN o196 (bM o324 (bL o580)) (bL o452))) (bN o100 (bN o164 (bM o292 (bL o548)) (bL o420)) (bN o228 (bM o356 (bL o612)) (bL o484)))) (bN o52 (bN o84 (bN o148 (bM o276 (bL o532)) (bL o404)) (bN o212 (bM o340 (bL o596)) (bL o468))) (bN o116 (bN o180 (bM o308 (bL o564)) (bL o436)) (bN o244 (bM o372 (bL o628)) (bL o500))))) (bN o28 (bN o44 (bN o76 (bN o140 (bM o268 (bL o524)) (bL o396)) (bN o204 (bM o332 (bL o588)) (bL o460))) (bN o108 (bN o172 (bM o300 (bL o556)) (bL o428)) (bN o236 (bM o364 (bL o620)) (bL o492)))) (bN o60 (bN o92 (bN o156 (bM o284 (bL o540)) (bL o412)) (bN o220 (bM o348 (bL o604)) (bL o476))) (bN o124 (bN o188 (bM o316 (bL o572)) (bL o444)) (bN o252 (bL o380) (bL o508))))))) (bN o6 (bN o10 (bN o18 (bN o34 (bN o66 (bN o130 (bM o258 (bL o514)) (bL o386)) (bN o194 (bM o322 (bL o578)) (bL o450))) (bN o98 (bN o162 (bM o290 (bL o546)) (bL o418)) (bN o226 (bM o354 (bL o610)) (bL o482)))) (bN o50 (bN o82 (bN o146 (bM o274 (bL o530)) (bL o402)) (bN o210 (bM o338 (bL o594)) (bL o466))) (bN o114 (bN o178 (bM o306 (bL o562)) (bL o434)) (bN o242 (bM o370 (bL o626)) (bL o498))))) (bN o26 (bN o42 (bN o74 (bN o138 (bM o266 (bL o522)) (bL o394)) (bN o202 (bM o330 (bL o586)) (bL o458))) (bN o106 (bN o170 (bM o298 (bL o554)) (bL o426)) (bN o234 (bM o362 (bL o618)) (bL o490)))) (bN o58 (bN o90 (bN o154 (bM o282 (bL o538)) (bL o410)) (bN o218 (bM o346 (bL o602)) (bL o474))) (bN o122 (bN o186 (bM o314 (bL o570)) (bL o442)) (bN o250 (bL o378) (bL o506)))))) (bN o14 (bN o22 (bN o38 (bN o70 (bN o134 (bM o262 (bL o518)) (bL o390)) (bN o198 (bM o326 (bL o582)) (bL o454))) (bN o102 (bN o166 (bM o294 (bL o550)) (bL o422)) (bN o230 (bM o358 (bL o614)) (bL o486)))) (bN o54 (bN o86 (bN o150 (bM o278 (bL o534)) (bL o406)) (bN o214 (bM o342 (bL o598)) (bL o470))) (bN o118 (bN o182 (bM o310 (bL o566)) (bL o438)) (bN o246 (bM o374 (bL o630)) (bL o502))))) (bN o30 (bN o46 (bN o78 (bN o142 (bM o270 (bL o526)) (bL o398)) (bN o206 (bM o334 (bL o590)) (bL o462))) (bN o110 (bN o174 (bM o302 (bL o558)) (bL o430)) (bN o238 (bM o366 (bL o622)) (bL o494)))) (bN o62 (bN o94 (bN o158 (bM o286 (bL o542)) (bL o414)) (bN o222 (bM o350 (bL o606)) (bL o478))) (bN o126 (bN o190 (bM o318 (bL o574)) (bL o446)) (bN o254 (bL o382) (bL o510)))))))))
noncomputable def S11 (w : World) (os : OsState) : SharedT := ⟨T11 w.params, 634, {}, gs0, {}, 1075, os⟩
noncomputable def ss12 : List Stmt := (bE.drop 84).take 1
noncomputable def x12v3 (P : Params) : Obj := dcut P o3 87 [(0, (.str "gateloom.funcs" 1071)), (78, (.ref 600))] 87
noncomputable def x12v12 (P : Params) : Obj := fcut P o12 228
noncomputable def T12 : Params → BT := (bN o0 (bN o1 (bN x12v3 (bN o7 (bN o15 (bN o31 (bN o63 (bN o127 (bM o255 (bL o511)) (bM o383 (bL o639))) (bN o191 (bM o319 (bL o575)) (bL o447))) (bN o95 (bN o159 (bM o287 (bL o543)) (bM o415 (bL o671))) (bN o223 (bM o351 (bL o607)) (bL o479)))) (bN o47 (bN o79 (bN o143 (bM o271 (bL o527)) (bM o399 (bL o655))) (bN o207 (bM o335 (bL o591)) (bL o463))) (bN o111 (bN o175 (bM o303 (bL o559)) (bL o431)) (bN o239 (bM o367 (bL o623)) (bL o495))))) (bN o23 (bN o39 (bN o71 (bN o135 (bM o263 (bL o519)) (bM o391 (bL o647))) (bN o199 (bM o327 (bL o583)) (bL o455))) (bN o103 (bN o167 (bM o295 (bL o551)) (bM o423 (bL o679))) (bN o231 (bM o359 (bL o615)) (bL o487)))) (bN o55 (bN o87 (bN o151 (bM o279 (bL o535)) (bM o407 (bL o663))) (bN o215 (bM o343 (bL o599)) (bL o471))) (bN o119 (bN o183 (bM o311 (bL o567)) (bL o439)) (bN o247 (bM o375 (bL o631)) (bL o503)))))) (bN o11 (bN o19 (bN o35 (bN o67 (bN o131 (bM o259 (bL o515)) (bM o387 (bL o643))) (bN o195 (bM o323 (bL o579)) (bL o451))) (bN o99 (bN o163 (bM o291 (bL o547)) (bM o419 (bL o675))) (bN o227 (bM o355 (bL o611)) (bL o483)))) (bN o51 (bN o83 (bN o147 (bM o275 (bL o531)) (bM o403 (bL o659))) (bN o211 (bM o339 (bL o595)) (bL o467))) (bN o115 (bN o179 (bM o307 (bL o563)) (bL o435)) (bN o243 (bM o371 (bL o627)) (bL o499))))) (bN o27 (bN o43 (bN o75 (bN o139 (bM o267 (bL o523)) (bM o395 (bL o651))) (bN o203 (bM o331 (bL o587)) (bL o459))) (bN o107 (bN o171 (bM o299 (bL o555)) (bL o427)) (bN o235 (bM o363 (bL o619)) (bL o491)))) (bN o59 (bN o91 (bN o155 (bM o283 (bL o539)) (bM o411 (bL o667))) (bN o219 (bM o347 (bL o603)) (bL o475))) (bN o123 (bN o187 (bM o315 (bL o571)) (bL o443)) (bN o251 (bM o379 (bL o635)) (bL o507))))))) (bN o5 (bN o9 (bN o17 (bN o33 (bN o65 (bN o129 (bM o257 (bL o513)) (bM o385 (bL o641))) (bN o193 (bM o321 (bL o577)) (bL o449))) (bN o97 (bN o161 (bM o289 (bL o545)) (bM o417 (bL o673))) (bN o225 (bM o353 (bL o609)) (bL o481)))) (bN o49 (bN o81 (bN o145 (bM o273 (bL o529)) (bM o401 (bL o657))) (bN o209 (bM o337 (bL o593)) (bL o465))) (bN o113 (bN o177 (bM o305 (bL o561)) (bL o433)) (bN o241 (bM o369 (bL o625)) (bL o497))))) (bN o25 (bN o41 (bN o73 (bN o137 (bM o265 (bL o521)) (bM o393 (bL o649))) (bN o201 (bM o329 (bL o585)) (bL o457))) (bN o105 (bN o169 (bM o297 (bL o553)) (bL o425)) (bN o233 (bM o361 (bL o617)) (bL o489)))) (bN o57 (bN o89 (bN o153 (bM o281 (bL o537)) (bM o409 (bL o665))) (bN o217 (bM o345 (bL o601)) (bL o473))) (bN o121 (bN o185 (bM o313 (bL o569)) (bL o441)) (bN o249 (bM o377 (bL o633)) (bL o505)))))) (bN o13 (bN o21 (bN o37 (bN o69 (bN o133 (bM o261 (bL o517)) (bM o389 (bL o645))) (bN o197 (bM o325 (bL o581)) (bL o453))) (bN o101 (bN o165 (bM o293 (bL o549)) (bM o421 (bL o677))) (bN o229 (bM o357 (bL o613)) (bL o485)))) (bN o53 (bN o85 (bN o149 (bM o277 (bL o533)) (bM o405 (bL o661))) (bN o213 (bM o341 (bL o597)) (bL o469))) (bN o117 (bN o181 (bM o309 (bL o565)) (bL o437)) (bN o245 (bM o373 (bL o629)) (bL o501))))) (bN o29 (bN o45 (bN o77 (bN o141 (bM o269 (bL o525)) (bM o397 (bL o653))) (bN o205 (bM o333 (bL o589)) (bL o461))) (bN o109 (bN o173 (bM o301 (bL o557)) (bL o429)) (bN o237 (bM o365 (bL o621)) (bL o493)))) (bN o61 (bN o93 (bN o157 (bM o285 (bL o541)) (bM o413 (bL o669))) (bN o221 (bM o349 (bL o605)) (bL o477))) (bN o125 (bN o189 (bM o317 (bL o573)) (bL o445)) (bN o253 (bM o381 (bL o637)) (bL o509)))))))) (bN o2 (bN o4 (bN o8 (bN o16 (bN o32 (bN o64 (bN o128 (bM o256 (bL o512)) (bM o384 (bL o640))) (bN o192 (bM o320 (bL o576)) (bL o448))) (bN o96 (bN o160 (bM o288 (bL o544)) (bM o416 (bL o672))) (bN o224 (bM o352 (bL o608)) (bL o480)))) (bN o48 (bN o80 (bN o144 (bM o272 (bL o528)) (bM o400 (bL o656))) (bN o208 (bM o336 (bL o592)) (bL o464))) (bN o112 (bN o176 (bM o304 (bL o560)) (bL o432)) (bN o240 (bM o368 (bL o624)) (bL o496))))) (bN o24 (bN o40 (bN o72 (bN o136 (bM o264 (bL o520)) (bM o392 (bL o648))) (bN o200 (bM o328 (bL o584)) (bL o456))) (bN o104 (bN o168 (bM o296 (bL o552)) (bL o424)) (bN o232 (bM o360 (bL o616)) (bL o488)))) (bN o56 (bN o88 (bN o152 (bM o280 (bL o536)) (bM o408 (bL o664))) (bN o216 (bM o344 (bL o600)) (bL o472))) (bN o120 (bN o184 (bM o312 (bL o568)) (bL o440)) (bN o248 (bM o376 (bL o632)) (bL o504)))))) (bN x12v12 (bN o20 (bN o36 (bN o68 (bN o132 (bM o260 (bL o516)) (bM o388 (bL o644))) (bN o196 (bM o324 (bL o580)) (bL o452))) (bN o100 (bN o164 (bM o292 (bL o548)) (bM o420 (bL o676))) (bN o228 (bM o356 (bL o612)) (bL o484)))) (bN o52 (bN o84 (bN o148 (bM o276 (bL o532)) (bM o404 (bL o660))) (bN o212 (bM o340 (bL o596)) (bL o468))) (bN o116 (bN o180 (bM o308 (bL o564)) (bL o436)) (bN o244 (bM o372 (bL o628)) (bL o500))))) (bN o28 (bN o44 (bN o76 (bN o140 (bM o268 (bL o524)) (bM o396 (bL o652))) (bN o204 (bM o332 (bL o588)) (bL o460))) (bN o108 (bN o172 (bM o300 (bL o556)) (bL o428)) (bN o236 (bM o364 (bL o620)) (bL o492)))) (bN o60 (bN o92 (bN o156 (bM o284 (bL o540)) (bM o412 (bL o668))) (bN o220 (bM o348 (bL o604)) (bL o476))) (bN o124 (bN o188 (bM o316 (bL o572)) (bL o444)) (bN o252 (bM o380 (bL o636)) (bL o508))))))) (bN o6 (bN o10 (bN o18 (bN o34 (bN o66 (bN o130 (bM o258 (bL o514)) (bM o386 (bL o642))) (bN o194 (bM o322 (bL o578)) (bL o450))) (bN o98 (bN o162 (bM o290 (bL o546)) (bM o418 (bL o674))) (bN o226 (bM o354 (bL o610)) (bL o482)))) (bN o50 (bN o82 (bN o146 (bM o274 (bL o530)) (bM o402 (bL o658))) (bN o210 (bM o338 (bL o594)) (bL o466))) (bN o114 (bN o178 (bM o306 (bL o562)) (bL o434)) (bN o242 (bM o370 (bL o626)) (bL o498))))) (bN o26 (bN o42 (bN o74 (bN o138 (bM o266 (bL o522)) (bM o394 (bL o650))) (bN o202 (bM o330 (bL o586)) (bL o458))) (bN o106 (bN o170 (bM o298 (bL o554)) (bL o426)) (bN o234 (bM o362 (bL o618)) (bL o490)))) (bN o58 (bN o90 (bN o154 (bM o282 (bL o538)) (bM o410 (bL o666))) (bN o218 (bM o346 (bL o602)) (bL o474))) (bN o122 (bN o186 (bM o314 (bL o570)) (bL o442)) (bN o250 (bM o378 (bL o634)) (bL o506)))))) (bN o14 (bN o22 (bN o38 (bN o70 (bN o134 (bM o262 (bL o518)) (bM o390 (bL o646))) (bN o198 (bM o326 (bL o582)) (bL o454))) (bN o102 (bN o166 (bM o294 (bL o550)) (bM o422 (bL o678))) (bN o230 (bM o358 (bL o614)) (bL o486)))) (bN o54 (bN o86 (bN o150 (bM o278 (bL o534)) (bM o406 (bL o662))) (bN o214 (bM o342 (bL o598)) (bL o470))) (bN o118 (bN o182 (bM o310 (bL o566)) (bL o438)) (bN o246 (bM o374 (bL o630)) (bL o502))))) (bN o30 (bN o46 (bN o78 (bN o142 (bM o270 (bL o526)) (bM o398 (bL o654))) (bN o206 (bM o334 (bL o590)) (bL o462))) (bN o110 (bN o174 (bM o302 (bL o558)) (bL o430)) (bN o238 (bM o366 (bL o622)) (bL o494)))) (bN o62 (bN o94 (bN o158 (bM o286 (bL o542)) (bM o414 (bL o670))) (bN o222 (bM o350 (bL o606)) (bL o478))) (bN o126 (bN o190 (bM o318 (bL o574)) (bL o446)) (bN o254 (bM o382 (bL o638)) (bL o510)))))))))
noncomputable def S12 (w : World) (os : OsState) : SharedT := ⟨T12 w.params, 680, {}, gs0, {}, 1142, os⟩
noncomputable def ss13 : List Stmt := (bE.drop 85).take 13
noncomputable def x13v3 (P : Params) : Obj := dcut P o3 99 [(0, (.str "gateloom.walks" 1213)), (78, (.ref 600))] 99
noncomputable def x13v12 (P : Params) : Obj := fcut P o12 264
noncomputable def T13 : Params → BT := (bN o0 (bN o1 (bN x13v3 (bN o7 (bN o15 (bN o31 (bN o63 (bN o127 (bM o255 (bL o511)) (bM o383 (bL o639))) (bN o191 (bM o319 (bL o575)) (bM o447 (bL o703)))) (bN o95 (bN o159 (bM o287 (bL o543)) (bM o415 (bL o671))) (bN o223 (bM o351 (bL o607)) (bM o479 (bL o735))))) (bN o47 (bN o79 (bN o143 (bM o271 (bL o527)) (bM o399 (bL o655))) (bN o207 (bM o335 (bL o591)) (bM o463 (bL o719)))) (bN o111 (bN o175 (bM o303 (bL o559)) (bM o431 (bL o687))) (bN o239 (bM o367 (bL o623)) (bM o495 (bL o751)))))) (bN o23 (bN o39 (bN o71 (bN o135 (bM o263 (bL o519)) (bM o391 (bL o647))) (bN o199 (bM o327 (bL o583)) (bM o455 (bL o711)))) (bN o103 (bN o167 (bM o295 (bL o551)) (bM o423 (bL o679))) (bN o231 (bM o359 (bL o615)) (bM o487 (bL o743))))) (bN o55 (bN o87 (bN o151 (bM o279 (bL o535)) (bM o407 (bL o663))) (bN o215 (bM o343 (bL o599)) (bM o471 (bL o727)))) (bN o119 (bN o183 (bM o311 (bL o567)) (bM o439 (bL o695))) (bN o247 (bM o375 (bL o631)) (bM o503 (bL o759))))))) (bN o11 (bN o19 (bN o35 (bN o67 (bN o131 (bM o259 (bL o515)) (bM o387 (bL o643))) (bN o195 (bM o323 (bL o579)) (bM o451 (bL o707)))) (bN o99 (bN o163 (bM o291 (bL o547)) (bM o419 (bL o675))) (bN o227 (bM o355 (bL o611)) (bM o483 (bL o739))))) (bN o51 (bN o83 (bN o147 (bM o275 (bL o531)) (bM o403 (bL o659))) (bN o211 (bM o339 (bL o595)) (bM o467 (bL o723)))) (bN o115 (bN o179 (bM o307 (bL o563)) (bM o435 (bL o691))) (bN o243 (bM o371 (bL o627)) (bM o499 (bL o755)))))) (bN o27 (bN o43 (bN o75 (bN o139 (bM o267 (bL o523)) (bM o395 (bL o651))) (bN o203 (bM o331 (bL o587)) (bM o459 (bL o715)))) (bN o107 (bN o171 (bM o299 (bL o555)) (bM o427 (bL o683))) (bN o235 (bM o363 (bL o619)) (bM o491 (bL o747))))) (bN o59 (bN o91 (bN o155 (bM o283 (bL o539)) (bM o411 (bL o667))) (bN o219 (bM o347 (bL o603)) (bM o475 (bL o731)))) (bN o123 (bN o187 (bM o315 (bL o571)) (bM o443 (bL o699))) (bN o251 (bM o379 (bL o635)) (bM o507 (bL o763)))))))) (bN o5 (bN o9 (bN o17 (bN o33 (bN o65 (bN o129 (bM o257 (bL o513)) (bM o385 (bL o641))) (bN o193 (bM o321 (bL o577)) (bM o449 (bL o705)))) (bN o97 (bN o161 (bM o289 (bL o545)) (bM o417 (bL o673))) (bN o225 (bM o353 (bL o609)) (bM o481 (bL o737))))) (bN o49 (bN o81 (bN o145 (bM o273 (bL o529)) (bM o401 (bL o657))) (bN o209 (bM o337 (bL o593)) (bM o465 (bL o721)))) (bN o113 (bN o177 (bM o305 (bL o561)) (bM o433 (bL o689))) (bN o241 (bM o369 (bL o625)) (bM o497 (bL o753)))))) (bN o25 (bN o41 (bN o73 (bN o137 (bM o265 (bL o521)) (bM o393 (bL o649))) (bN o201 (bM o329 (bL o585)) (bM o457 (bL o713)))) (bN o105 (bN o169 (bM o297 (bL o553)) (bM o425 (bL o681))) (bN o233 (bM o361 (bL o617)) (bM o489 (bL o745))))) (bN o57 (bN o89 (bN o153 (bM o281 (bL o537)) (bM o409 (bL o665))) (bN o217 (bM o345 (bL o601)) (bM o473 (bL o729)))) (bN o121 (bN o185 (bM o313 (bL o569)) (bM o441 (bL o697))) (bN o249 (bM o377 (bL o633)) (bM o505 (bL o761))))))) (bN o13 (bN o21 (bN o37 (bN o69 (bN o133 (bM o261 (bL o517)) (bM o389 (bL o645))) (bN o197 (bM o325 (bL o581)) (bM o453 (bL o709)))) (bN o101 (bN o165 (bM o293 (bL o549)) (bM o421 (bL o677))) (bN o229 (bM o357 (bL o613)) (bM o485 (bL o741))))) (bN o53 (bN o85 (bN o149 (bM o277 (bL o533)) (bM o405 (bL o661))) (bN o213 (bM o341 (bL o597)) (bM o469 (bL o725)))) (bN o117 (bN o181 (bM o309 (bL o565)) (bM o437 (bL o693))) (bN o245 (bM o373 (bL o629)) (bM o501 (bL o757)))))) (bN o29 (bN o45 (bN o77 (bN o141 (bM o269 (bL o525)) (bM o397 (bL o653))) (bN o205 (bM o333 (bL o589)) (bM o461 (bL o717)))) (bN o109 (bN o173 (bM o301 (bL o557)) (bM o429 (bL o685))) (bN o237 (bM o365 (bL o621)) (bM o493 (bL o749))))) (bN o61 (bN o93 (bN o157 (bM o285 (bL o541)) (bM o413 (bL o669))) (bN o221 (bM o349 (bL o605)) (bM o477 (bL o733)))) (bN o125 (bN o189 (bM o317 (bL o573)) (bM o445 (bL o701))) (bN o253 (bM o381 (bL o637)) (bL o509)))))))) (bN o2 (bN o4 (bN o8 (bN o16 (bN o32 (bN o64 (bN o128 (bM o256 (bL o512)) (bM o384 (bL o640))) (bN o192 (bM o320 (bL o576)) (bM o448 (bL o704)))) (bN o96 (bN o160 (bM o288 (bL o544)) (bM o416 (bL o672))) (bN o224 (bM o352 (bL o608)) (bM o480 (bL o736))))) (bN o48 (bN o80 (bN o144 (bM o272 (bL o528)) (bM o400 (bL o656))) (bN o208 (bM o336 (bL o592)) (bM o464 (bL o720)))) (bN o112 (bN o176 (bM o304 (bL o560)) (bM o432 (bL o688))) (bN o240 (bM o368 (bL o624)) (bM o496 (bL o752)))))) (bN o24 (bN o40 (bN o72 (bN o136 (bM o264 (bL o520)) (bM o392 (bL o648))) (bN o200 (bM o328 (bL o584)) (bM o456 (bL o712)))) (bN o104 (bN o168 (bM o296 (bL o552)) (bM o424 (bL o680))) (bN o232 (bM o360 (bL o616)) (bM o488 (bL o744))))) (bN o56 (bN o88 (bN o152 (bM o280 (bL o536)) (bM o408 (bL o664))) (bN o216 (bM o344 (bL o600)) (bM o472 (bL o728)))) (bN o120 (bN o184 (bM o312 (bL o568)) (bM o440 (bL o696))) (bN o248 (bM o376 (bL o632)) (bM o504 (bL o760))))))) (bN x13v12 (bN o20 (bN o36 (bN o68 (bN o132 (bM o260 (bL o516)) (bM o388 (bL o644))) (bN o196 (bM o324 (bL o580)) (bM o452 (bL o708)))) (bN o100 (bN o164 (bM o292 (bL o548)) (bM o420 (bL o676))) (bN o228 (bM o356 (bL o612)) (bM o484 (bL o740))))) (bN o52 (bN o84 (bN o148 (bM o276 (bL o532)) (bM o404 (bL o660))) (bN o212 (bM o340 (bL o596)) (bM o468 (bL o724)))) (bN o116 (bN o180 (bM o308 (bL o564)) (bM o436 (bL o692))) (bN o244 (bM o372 (bL o628)) (bM o500 (bL o756)))))) (bN o28 (bN o44 (bN o76 (bN o140 (bM o268 (bL o524)) (bM o396 (bL o652))) (bN o204 (bM o332 (bL o588)) (bM o460 (bL o716)))) (bN o108 (bN o172 (bM o300 (bL o556)) (bM o428 (bL o684))) (bN o236 (bM o364 (bL o620)) (bM o492 (bL o748))))) (bN o60 (bN o92 (bN o156 (bM o284 (bL o540)) (bM o412 (bL o668))) (bN o220 (bM o348 (bL o604)) (bM o476 (bL o732)))) (bN o124 (bN o188 (bM o316 (bL o572)) (bM o444 (bL o700))) (bN o252 (bM o380 (bL o636)) (bL o508))))))) (bN o6 (bN o10 (bN o18 (bN o34 (bN o66 (bN o130 (bM o258 (bL o514)) (bM o386 (bL o642))) (bN o194 (bM o322 (bL o578)) (bM o450 (bL o706)))) (bN o98 (bN o162 (bM o290 (bL o546)) (bM o418 (bL o674))) (bN o226 (bM o354 (bL o610)) (bM o482 (bL o738))))) (bN o50 (bN o82 (bN o146 (bM o274 (bL o530)) (bM o402 (bL o658))) (bN o210 (bM o338 (bL o594)) (bM o466 (bL o722)))) (bN o114 (bN o178 (bM o306 (bL o562)) (bM o434 (bL o690))) (bN o242 (bM o370 (bL o626)) (bM o498 (bL o754)))))) (bN o26 (bN o42 (bN o74 (bN o138 (bM o266 (bL o522)) (bM o394 (bL o650))) (bN o202 (bM o330 (bL o586)) (bM o458 (bL o714)))) (bN o106 (bN o170 (bM o298 (bL o554)) (bM o426 (bL o682))) (bN o234 (bM o362 (bL o618)) (bM o490 (bL o746))))) (bN o58 (bN o90 (bN o154 (bM o282 (bL o538)) (bM o410 (bL o666))) (bN o218 (bM o346 (bL o602)) (bM o474 (bL o730)))) (bN o122 (bN o186 (bM o314 (bL o570)) (bM o442 (bL o698))) (bN o250 (bM o378 (bL o634)) (bM o506 (bL o762))))))) (bN o14 (bN o22 (bN o38 (bN o70 (bN o134 (bM o262 (bL o518)) (bM o390 (bL o646))) (bN o198 (bM o326 (bL o582)) (bM o454 (bL o710)))) (bN o102 (bN o166 (bM o294 (bL o550)) (bM o422 (bL o678))) (bN o230 (bM o358 (bL o614)) (bM o486 (bL o742))))) (bN o54 (bN o86 (bN o150 (bM o278 (bL o534)) (bM o406 (bL o662))) (bN o214 (bM o342 (bL o598)) (bM o470 (bL o726)))) (bN o118 (bN o182 (bM o310 (bL o566)) (bM o438 (bL o694))) (bN o246 (bM o374 (bL o630)) (bM o502 (bL o758)))))) (bN o30 (bN o46 (bN o78 (bN o142 (bM o270 (bL o526)) (bM o398 (bL o654))) (bN o206 (bM o334 (bL o590)) (bM o462 (bL o718)))) (bN o110 (bN o174 (bM o302 (bL o558)) (bM o430 (bL o686))) (bN o238 (bM o366 (bL o622)) (bM o494 (bL o750))))) (bN o62 (bN o94 (bN o158 (bM o286 (bL o542)) (bM o414 (bL o670))) (bN o222 (bM o350 (bL o606)) (bM o478 (bL o734)))) (bN o126 (bN o190 (bM o318 (bL o574)) (bM o446 (bL o702))) (bN o254 (bM o382 (bL o638)) (bL o510)))))))))
noncomputable def S13 (w : World) (os : OsState) : SharedT := ⟨T13 w.params, 764, {}, gs0, {}, 1261, os⟩
noncomputable def ss14 : List Stmt := (bE.drop 98).take 14
noncomputable def x14v3 (P : Params) : Obj := dcut P o3 112 [(0, (.str "gateloom.elabparts" 1338)), (78, (.ref 600))] 112
noncomputable def x14v12 (P : Params) : Obj := fcut P o12 300
noncomputable def T14 : Params → BT := (bN o0 (bN o1 (bN x14v3 (bN o7 (bN o15 (bN o31 (bN o63 (bN o127 (bN o255 (bL o511) (bL o767)) (bM o383 (bL o639))) (bN o191 (bN o319 (bL o575) (bL o831)) (bM o447 (bL o703)))) (bN o95 (bN o159 (bN o287 (bL o543) (bL o799)) (bM o415 (bL o671))) (bN o223 (bM o351 (bL o607)) (bM o479 (bL o735))))) (bN o47 (bN o79 (bN o143 (bN o271 (bL o527) (bL o783)) (bM o399 (bL o655))) (bN o207 (bM o335 (bL o591)) (bM o463 (bL o719)))) (bN o111 (bN o175 (bN o303 (bL o559) (bL o815)) (bM o431 (bL o687))) (bN o239 (bM o367 (bL o623)) (bM o495 (bL o751)))))) (bN o23 (bN o39 (bN o71 (bN o135 (bN o263 (bL o519) (bL o775)) (bM o391 (bL o647))) (bN o199 (bN o327 (bL o583) (bL o839)) (bM o455 (bL o711)))) (bN o103 (bN o167 (bN o295 (bL o551) (bL o807)) (bM o423 (bL o679))) (bN o231 (bM o359 (bL o615)) (bM o487 (bL o743))))) (bN o55 (bN o87 (bN o151 (bN o279 (bL o535) (bL o791)) (bM o407 (bL o663))) (bN o215 (bM o343 (bL o599)) (bM o471 (bL o727)))) (bN o119 (bN o183 (bN o311 (bL o567) (bL o823)) (bM o439 (bL o695))) (bN o247 (bM o375 (bL o631)) (bM o503 (bL o759))))))) (bN o11 (bN o19 (bN o35 (bN o67 (bN o131 (bN o259 (bL o515) (bL o771)) (bM o387 (bL o643))) (bN o195 (bN o323 (bL o579) (bL o835)) (bM o451 (bL o707)))) (bN o99 (bN o163 (bN o291 (bL o547) (bL o803)) (bM o419 (bL o675))) (bN o227 (bM o355 (bL o611)) (bM o483 (bL o739))))) (bN o51 (bN o83 (bN o147 (bN o275 (bL o531) (bL o787)) (bM o403 (bL o659))) (bN o211 (bM o339 (bL o595)) (bM o467 (bL o723)))) (bN o115 (bN o179 (bN o307 (bL o563) (bL o819)) (bM o435 (bL o691))) (bN o243 (bM o371 (bL o627)) (bM o499 (bL o755)))))) (bN o27 (bN o43 (bN o75 (bN o139 (bN o267 (bL o523) (bL o779)) (bM o395 (bL o651))) (bN o203 (bN o331 (bL o587) (bL o843)) (bM o459 (bL o715)))) (bN o107 (bN o171 (bN o299 (bL o555) (bL o811)) (bM o427 (bL o683))) (bN o235 (bM o363 (bL o619)) (bM o491 (bL o747))))) (bN o59 (bN o91 (bN o155 (bN o283 (bL o539) (bL o795)) (bM o411 (bL o667))) (bN o219 (bM o347 (bL o603)) (bM o475 (bL o731)))) (bN o123 (bN o187 (bN o315 (bL o571) (bL o827)) (bM o443 (bL o699))) (bN o251 (bM o379 (bL o635)) (bM o507 (bL o763)))))))) (bN o5 (bN o9 (bN o17 (bN o33 (bN o65 (bN o129 (bN o257 (bL o513) (bL o769)) (bM o385 (bL o641))) (bN o193 (bN o321 (bL o577) (bL o833)) (bM o449 (bL o705)))) (bN o97 (bN o161 (bN o289 (bL o545) (bL o801)) (bM o417 (bL o673))) (bN o225 (bM o353 (bL o609)) (bM o481 (bL o737))))) (bN o49 (bN o81 (bN o145 (bN o273 (bL o529) (bL o785)) (bM o401 (bL o657))) (bN o209 (bM o337 (bL o593)) (bM o465 (bL o721)))) (bN o113 (bN o177 (bN o305 (bL o561) (bL o817)) (bM o433 (bL o689))) (bN o241 (bM o369 (bL o625)) (bM o497 (bL o753)))))) (bN o25 (bN o41 (bN o73 (bN o137 (bN o265 (bL o521) (bL o777)) (bM o393 (bL o649))) (bN o201 (bN o329 (bL o585) (bL o841)) (bM o457 (bL o713)))) (bN o105 (bN o169 (bN o297 (bL o553) (bL o809)) (bM o425 (bL o681))) (bN o233 (bM o361 (bL o617)) (bM o489 (bL o745))))) (bN o57 (bN o89 (bN o153 (bN o281 (bL o537) (bL o793)) (bM o409 (bL o665))) (bN o217 (bM o345 (bL o601)) (bM o473 (bL o729)))) (bN o121 (bN o185 (bN o313 (bL o569) (bL o825)) (bM o441 (bL o697))) (bN o249 (bM o377 (bL o633)) (bM o505 (bL o761))))))) (bN o13 (bN o21 (bN o37 (bN o69 (bN o133 (bN o261 (bL o517) (bL o773)) (bM o389 (bL o645))) (bN o197 (bN o325 (bL o581) (bL o837)) (bM o453 (bL o709)))) (bN o101 (bN o165 (bN o293 (bL o549) (bL o805)) (bM o421 (bL o677))) (bN o229 (bM o357 (bL o613)) (bM o485 (bL o741))))) (bN o53 (bN o85 (bN o149 (bN o277 (bL o533) (bL o789)) (bM o405 (bL o661))) (bN o213 (bM o341 (bL o597)) (bM o469 (bL o725)))) (bN o117 (bN o181 (bN o309 (bL o565) (bL o821)) (bM o437 (bL o693))) (bN o245 (bM o373 (bL o629)) (bM o501 (bL o757)))))) (bN o29 (bN o45 (bN o77 (bN o141 (bN o269 (bL o525) (bL o781)) (bM o397 (bL o653))) (bN o205 (bM o333 (bL o589)) (bM o461 (bL o717)))) (bN o109 (bN o173 (bN o301 (bL o557) (bL o813)) (bM o429 (bL o685))) (bN o237 (bM o365 (bL o621)) (bM o493 (bL o749))))) (bN o61 (bN o93 (bN o157 (bN o285 (bL o541) (bL o797)) (bM o413 (bL o669))) (bN o221 (bM o349 (bL o605)) (bM o477 (bL o733)))) (bN o125 (bN o189 (bN o317 (bL o573) (bL o829)) (bM o445 (bL o701))) (bN o253 (bM o381 (bL o637)) (bM o509 (bL o765))))))))) (bN o2 (bN o4 (bN o8 (bN o16 (bN o32 (bN o64 (bN o128 (bN o256 (bL o512) (bL o768)) (bM o384 (bL o640))) (bN o192 (bN o320 (bL o576) (bL o832)) (bM o448 (bL o704)))) (bN o96 (bN o160 (bN o288 (bL o544) (bL o800)) (bM o416 (bL o672))) (bN o224 (bM o352 (bL o608)) (bM o480 (bL o736))))) (bN o48 (bN o80 (bN o144 (bN o272 (bL o528) (bL o784)) (bM o400 (bL o656))) (bN o208 (bM o336 (bL o592)) (bM o464 (bL o720)))) (bN o112 (bN o176 (bN o304 (bL o560) (bL o816)) (bM o432 (bL o688))) (bN o240 (bM o368 (bL o624)) (bM o496 (bL o752)))))) (bN o24 (bN o40 (bN o72 (bN o136 (bN o264 (bL o520) (bL o776)) (bM o392 (bL o648))) (bN o200 (bN o328 (bL o584) (bL o840)) (bM o456 (bL o712)))) (bN o104 (bN o168 (bN o296 (bL o552) (bL o808)) (bM o424 (bL o680))) (bN o232 (bM o360 (bL o616)) (bM o488 (bL o744))))) (bN o56 (bN o88 (bN o152 (bN o280 (bL o536) (bL o792)) (bM o408 (bL o664))) (bN o216 (bM o344 (bL o600)) (bM o472 (bL o728)))) (bN o120 (bN o184 (bN o312 (bL o568) (bL o824)) (bM o440 (bL o696))) (bN o248 (bM o376 (bL o632)) (bM o504 (bL o760))))))) (bN x14v12 (bN o20 (bN o36 (bN o68 (bN o132 (bN o260 (bL o516) (bL o772)) (bM o388 (bL o644))) (bN o196 (bN o324 (bL o580) (bL o836)) (bM o452 (bL o708)))) (bN o100 (bN o164 (bN o292 (bL o548) (bL o804)) (bM o420 (bL o676))) (bN o228 (bM o356 (bL o612)) (bM o484 (bL o740))))) (bN o52 (bN o84 (bN o148 (bN o276 (bL o532) (bL o788)) (bM o404 (bL o660))) (bN o212 (bM o340 (bL o596)) (bM o468 (bL o724)))) (bN o116 (bN o180 (bN o308 (bL o564) (bL o820)) (bM o436 (bL o692))) (bN o244 (bM o372 (bL o628)) (bM o500 (bL o756)))))) (bN o28 (bN o44 (bN o76 (bN o140 (bN o268 (bL o524) (bL o780)) (bM o396 (bL o652))) (bN o204 (bM o332 (bL o588)) (bM o460 (bL o716)))) (bN o108 (bN o172 (bN o300 (bL o556) (bL o812)) (bM o428 (bL o684))) (bN o236 (bM o364 (bL o620)) (bM o492 (bL o748))))) (bN o60 (bN o92 (bN o156 (bN o284 (bL o540) (bL o796)) (bM o412 (bL o668))) (bN o220 (bM o348 (bL o604)) (bM o476 (bL o732)))) (bN o124 (bN o188 (bN o316 (bL o572) (bL o828)) (bM o444 (bL o700))) (bN o252 (bM o380 (bL o636)) (bM o508 (bL o764)))))))) (bN o6 (bN o10 (bN o18 (bN o34 (bN o66 (bN o130 (bN o258 (bL o514) (bL o770)) (bM o386 (bL o642))) (bN o194 (bN o322 (bL o578) (bL o834)) (bM o450 (bL o706)))) (bN o98 (bN o162 (bN o290 (bL o546) (bL o802)) (bM o418 (bL o674))) (bN o226 (bM o354 (bL o610)) (bM o482 (bL o738))))) (bN o50 (bN o82 (bN o146 (bN o274 (bL o530) (bL o786)) (bM o402 (bL o658))) (bN o210 (bM o338 (bL o594)) (bM o466 (bL o722)))) (bN o114 (bN o178 (bN o306 (bL o562) (bL o818)) (bM o434 (bL o690))) (bN o242 (bM o370 (bL o626)) (bM o498 (bL o754)))))) (bN o26 (bN o42 (bN o74 (bN o138 (bN o266 (bL o522) (bL o778)) (bM o394 (bL o650))) (bN o202 (bN o330 (bL o586) (bL o842)) (bM o458 (bL o714)))) (bN o106 (bN o170 (bN o298 (bL o554) (bL o810)) (bM o426 (bL o682))) (bN o234 (bM o362 (bL o618)) (bM o490 (bL o746))))) (bN o58 (bN o90 (bN o154 (bN o282 (bL o538) (bL o794)) (bM o410 (bL o666))) (bN o218 (bM o346 (bL o602)) (bM o474 (bL o730)))) (bN o122 (bN o186 (bN o314 (bL o570) (bL o826)) (bM o442 (bL o698))) (bN o250 (bM o378 (bL o634)) (bM o506 (bL o762))))))) (bN o14 (bN o22 (bN o38 (bN o70 (bN o134 (bN o262 (bL o518) (bL o774)) (bM o390 (bL o646))) (bN o198 (bN o326 (bL o582) (bL o838)) (bM o454 (bL o710)))) (bN o102 (bN o166 (bN o294 (bL o550) (bL o806)) (bM o422 (bL o678))) (bN o230 (bM o358 (bL o614)) (bM o486 (bL o742))))) (bN o54 (bN o86 (bN o150 (bN o278 (bL o534) (bL o790)) (bM o406 (bL o662))) (bN o214 (bM o342 (bL o598)) (bM o470 (bL o726)))) (bN o118 (bN o182 (bN o310 (bL o566) (bL o822)) (bM o438 (bL o694))) (bN o246 (bM o374 (bL o630)) (bM o502 (bL o758)))))) (bN o30 (bN o46 (bN o78 (bN o142 (bN o270 (bL o526) (bL o782)) (bM o398 (bL o654))) (bN o206 (bM o334 (bL o590)) (bM o462 (bL o718)))) (bN o110 (bN o174 (bN o302 (bL o558) (bL o814)) (bM o430 (bL o686))) (bN o238 (bM o366 (bL o622)) (bM o494 (bL o750))))) (bN o62 (bN o94 (bN o158 (bN o286 (bL o542) (bL o798)) (bM o414 (bL o670))) (bN o222 (bM o350 (bL o606)) (bM o478 (bL o734)))) (bN o126 (bN o190 (bN o318 (bL o574) (bL o830)) (bM o446 (bL o702))) (bN o254 (bM o382 (bL o638)) (bM o510 (bL o766))))))))))
noncomputable def S14 (w : World) (os : OsState) : SharedT := ⟨T14 w.params, 844, {}, gs0, {}, 1379, os⟩
noncomputable def ss15 : List Stmt := (bE.drop 112).take 13
noncomputable def x15v3 (P : Params) : Obj := dcut P o3 125 [(0, (.str "gateloom.elabparts" 1338)), (78, (.ref 600))] 125
noncomputable def x15v12 (P : Params) : Obj := fcut P o12 339
noncomputable def T15 : Params → BT := (bN o0 (bN o1 (bN x15v3 (bN o7 (bN o15 (bN o31 (bN o63 (bN o127 (bN o255 (bL o511) (bL o767)) (bN o383 (bL o639) (bL o895))) (bN o191 (bN o319 (bL o575) (bL o831)) (bM o447 (bL o703)))) (bN o95 (bN o159 (bN o287 (bL o543) (bL o799)) (bN o415 (bL o671) (bL o927))) (bN o223 (bN o351 (bL o607) (bL o863)) (bM o479 (bL o735))))) (bN o47 (bN o79 (bN o143 (bN o271 (bL o527) (bL o783)) (bN o399 (bL o655) (bL o911))) (bN o207 (bN o335 (bL o591) (bL o847)) (bM o463 (bL o719)))) (bN o111 (bN o175 (bN o303 (bL o559) (bL o815)) (bM o431 (bL o687))) (bN o239 (bN o367 (bL o623) (bL o879)) (bM o495 (bL o751)))))) (bN o23 (bN o39 (bN o71 (bN o135 (bN o263 (bL o519) (bL o775)) (bN o391 (bL o647) (bL o903))) (bN o199 (bN o327 (bL o583) (bL o839)) (bM o455 (bL o711)))) (bN o103 (bN o167 (bN o295 (bL o551) (bL o807)) (bM o423 (bL o679))) (bN o231 (bN o359 (bL o615) (bL o871)) (bM o487 (bL o743))))) (bN o55 (bN o87 (bN o151 (bN o279 (bL o535) (bL o791)) (bN o407 (bL o663) (bL o919))) (bN o215 (bN o343 (bL o599) (bL o855)) (bM o471 (bL o727)))) (bN o119 (bN o183 (bN o311 (bL o567) (bL o823)) (bM o439 (bL o695))) (bN o247 (bN o375 (bL o631) (bL o887)) (bM o503 (bL o759))))))) (bN o11 (bN o19 (bN o35 (bN o67 (bN o131 (bN o259 (bL o515) (bL o771)) (bN o387 (bL o643) (bL o899))) (bN o195 (bN o323 (bL o579) (bL o835)) (bM o451 (bL o707)))) (bN o99 (bN o163 (bN o291 (bL o547) (bL o803)) (bN o419 (bL o675) (bL o931))) (bN o227 (bN o355 (bL o611) (bL o867)) (bM o483 (bL o739))))) (bN o51 (bN o83 (bN o147 (bN o275 (bL o531) (bL o787)) (bN o403 (bL o659) (bL o915))) (bN o211 (bN o339 (bL o595) (bL o851)) (bM o467 (bL o723)))) (bN o115 (bN o179 (bN o307 (bL o563) (bL o819)) (bM o435 (bL o691))) (bN o243 (bN o371 (bL o627) (bL o883)) (bM o499 (bL o755)))))) (bN o27 (bN o43 (bN o75 (bN o139 (bN o267 (bL o523) (bL o779)) (bN o395 (bL o651) (bL o907))) (bN o203 (bN o331 (bL o587) (bL o843)) (bM o459 (bL o715)))) (bN o107 (bN o171 (bN o299 (bL o555) (bL o811)) (bM o427 (bL o683))) (bN o235 (bN o363 (bL o619) (bL o875)) (bM o491 (bL o747))))) (bN o59 (bN o91 (bN o155 (bN o283 (bL o539) (bL o795)) (bN o411 (bL o667) (bL o923))) (bN o219 (bN o347 (bL o603) (bL o859)) (bM o475 (bL o731)))) (bN o123 (bN o187 (bN o315 (bL o571) (bL o827)) (bM o443 (bL o699))) (bN o251 (bN o379 (bL o635) (bL o891)) (bM o507 (bL o763)))))))) (bN o5 (bN o9 (bN o17 (bN o33 (bN o65 (bN o129 (bN o257 (bL o513) (bL o769)) (bN o385 (bL o641) (bL o897))) (bN o193 (bN o321 (bL o577) (bL o833)) (bM o449 (bL o705)))) (bN o97 (bN o161 (bN o289 (bL o545) (bL o801)) (bN o417 (bL o673) (bL o929))) (bN o225 (bN o353 (bL o609) (bL o865)) (bM o481 (bL o737))))) (bN o49 (bN o81 (bN o145 (bN o273 (bL o529) (bL o785)) (bN o401 (bL o657) (bL o913))) (bN o209 (bN o337 (bL o593) (bL o849)) (bM o465 (bL o721)))) (bN o113 (bN o177 (bN o305 (bL o561) (bL o817)) (bM o433 (bL o689))) (bN o241 (bN o369 (bL o625) (bL o881)) (bM o497 (bL o753)))))) (bN o25 (bN o41 (bN o73 (bN o137 (bN o265 (bL o521) (bL o777)) (bN o393 (bL o649) (bL o905))) (bN o201 (bN o329 (bL o585) (bL o841)) (bM o457 (bL o713)))) (bN o105 (bN o169 (bN o297 (bL o553) (bL o809)) (bM o425 (bL o681))) (bN o233 (bN o361 (bL o617) (bL o873)) (bM o489 (bL o745))))) (bN o57 (bN o89 (bN o153 (bN o281 (bL o537) (bL o793)) (bN o409 (bL o665) (bL o921))) (bN o217 (bN o345 (bL o601) (bL o857)) (bM o473 (bL o729)))) (bN o121 (bN o185 (bN o313 (bL o569) (bL o825)) (bM o441 (bL o697))) (bN o249 (bN o377 (bL o633) (bL o889)) (bM o505 (bL o761))))))) (bN o13 (bN o21 (bN o37 (bN o69 (bN o133 (bN o261 (bL o517) (bL o773)) (bN o389 (bL o645) (bL o901))) (bN o197 (bN o325 (bL o581) (bL o837)) (bM o453 (bL o709)))) (bN o101 (bN o165 (bN o293 (bL o549) (bL o805)) (bN o421 (bL o677) (bL o933))) (bN o229 (bN o357 (bL o613) (bL o869)) (bM o485 (bL o741))))) (bN o53 (bN o85 (bN o149 (bN o277 (bL o533) (bL o789)) (bN o405 (bL o661) (bL o917))) (bN o213 (bN o341 (bL o597) (bL o853)) (bM o469 (bL o725)))) (bN o117 (bN o181 (bN o309 (bL o565) (bL o821)) (bM o437 (bL o693))) (bN o245 (bN o373 (bL o629) (bL o885)) (bM o501 (bL o757)))))) (bN o29 (bN o45 (bN o77 (bN o141 (bN o269 (bL o525) (bL o781)) (bN o397 (bL o653) (bL o909))) (bN o205 (bN o333 (bL o589) (bL o845)) (bM o461 (bL o717)))) (bN o109 (bN o173 (bN o301 (bL o557) (bL o813)) (bM o429 (bL o685))) (bN o237 (bN o365 (bL o621) (bL o877)) (bM o493 (bL o749))))) (bN o61 (bN o93 (bN o157 (bN o285 (bL o541) (bL o797)) (bN o413 (bL o669) (bL o925))) (bN o221 (bN o349 (bL o605) (bL o861)) (bM o477 (bL o733)))) (bN o125 (bN o189 (bN o317 (bL o573) (bL o829)) (bM o445 (bL o701))) (bN o253 (bN o381 (bL o637) (bL o893)) (bM o509 (bL o765))))))))) (bN o2 (bN o4 (bN o8 (bN o16 (bN o32 (bN o64 (bN o128 (bN o256 (bL o512) (bL o768)) (bN o384 (bL o640) (bL o896))) (bN o192 (bN o320 (bL o576) (bL o832)) (bM o448 (bL o704)))) (bN o96 (bN o160 (bN o288 (bL o544) (bL o800)) (bN o416 (bL o672) (bL o928))) (bN o224 (bN o352 (bL o608) (bL o864)) (bM o480 (bL o736))))) (bN o48 (bN o80 (bN o144 (bN o272 (bL o528) (bL o784)) (bN o400 (bL o656) (bL o912))) (bN o208 (bN o336 (bL o592) (bL o848)) (bM o464 (bL o720)))) (bN o112 (bN o176 (bN o304 (bL o560) (bL o816)) (bM o432 (bL o688))) (bN o240 (bN o368 (bL o624) (bL o880)) (bM o496 (bL o752)))))) (bN o24 (bN o40 (bN o72 (bN o136 (bN o264 (bL o520) (bL o776)) (bN o392 (bL o648) (bL o904))) (bN o200 (bN o328 (bL o584) (bL o840)) (bM o456 (bL o712)))) (bN o104 (bN o168 (bN o296 (bL o552) (bL o808)) (bM o424 (bL o680))) (bN o232 (bN o360 (bL o616) (bL o872)) (bM o488 (bL o744))))) (bN o56 (bN o88 (bN o152 (bN o280 (bL o536) (bL o792)) (bN o408 (bL o664) (bL o920))) (bN o216 (bN o344 (bL o600) (bL o856)) (bM o472 (bL o728)))) (bN o120 (bN o184 (bN o312 (bL o568) (bL o824)) (bM o440 (bL o696))) (bN o248 (bN o376 (bL o632) (bL o888)) (bM o504 (bL o760))))))) (bN x15v12 (bN o20 (bN o36 (bN o68 (bN o132 (bN o260 (bL o516) (bL o772)) (bN o388 (bL o644) (bL o900))) (bN o196 (bN o324 (bL o580) (bL o836)) (bM o452 (bL o708)))) (bN o100 (bN o164 (bN o292 (bL o548) (bL o804)) (bN o420 (bL o676) (bL o932))) (bN o228 (bN o356 (bL o612) (bL o868)) (bM o484 (bL o740))))) (bN o52 (bN o84 (bN o148 (bN o276 (bL o532) (bL o788)) (bN o404 (bL o660) (bL o916))) (bN o212 (bN o340 (bL o596) (bL o852)) (bM o468 (bL o724)))) (bN o116 (bN o180 (bN o308 (bL o564) (bL o820)) (bM o436 (bL o692))) (bN o244 (bN o372 (bL o628) (bL o884)) (bM o500 (bL o756)))))) (bN o28 (bN o44 (bN o76 (bN o140 (bN o268 (bL o524) (bL o780)) (bN o396 (bL o652) (bL o908))) (bN o204 (bN o332 (bL o588) (bL o844)) (bM o460 (bL o716)))) (bN o108 (bN o172 (bN o300 (bL o556) (bL o812)) (bM o428 (bL o684))) (bN o236 (bN o364 (bL o620) (bL o876)) (bM o492 (bL o748))))) (bN o60 (bN o92 (bN o156 (bN o284 (bL o540) (bL o796)) (bN o412 (bL o668) (bL o924))) (bN o220 (bN o348 (bL o604) (bL o860)) (bM o476 (bL o732)))) (bN o124 (bN o188 (bN o316 (bL o572) (bL o828)) (bM o444 (bL o700))) (bN o252 (bN o380 (bL o636) (bL o892)) (bM o508 (bL o764)))))))) (bN o6 (bN o10 (bN o18 (bN o34 (bN o66 (bN o130 (bN o258 (bL o514) (bL o770)) (bN o386 (bL o642) (bL o898))) (bN o194 (bN o322 (bL o578) (bL o834)) (bM o450 (bL o706)))) (bN o98 (bN o162 (bN o290 (bL o546) (bL o802)) (bN o418 (bL o674) (bL o930))) (bN o226 (bN o354 (bL o610) (bL o866)) (bM o482 (bL o738))))) (bN o50 (bN o82 (bN o146 (bN o274 (bL o530) (bL o786)) (bN o402 (bL o658) (bL o914))) (bN o210 (bN o338 (bL o594) (bL o850)) (bM o466 (bL o722)))) (bN o114 (bN o178 (bN o306 (bL o562) (bL o818)) (bM o434 (bL o690))) (bN o242 (bN o370 (bL o626) (bL o882)) (bM o498 (bL o754)))))) (bN o26 (bN o42 (bN o74 (bN o138 (bN o266 (bL o522) (bL o778)) (bN o394 (bL o650) (bL o906))) (bN o202 (bN o330 (bL o586) (bL o842)) (bM o458 (bL o714)))) (bN o106 (bN o170 (bN o298 (bL o554) (bL o810)) (bM o426 (bL o682))) (bN o234 (bN o362 (bL o618) (bL o874)) (bM o490 (bL o746))))) (bN o58 (bN o90 (bN o154 (bN o282 (bL o538) (bL o794)) (bN o410 (bL o666) (bL o922))) (bN o218 (bN o346 (bL o602) (bL o858)) (bM o474 (bL o730)))) (bN o122 (bN o186 (bN o314 (bL o570) (bL o826)) (bM o442 (bL o698))) (bN o250 (bN o378 (bL o634) (bL o890)) (bM o506 (bL o762))))))) (bN o14 (bN o22 (bN o38 (bN o70 (bN o134 (bN o262 (bL o518) (bL o774)) (bN o390 (bL o646) (bL o902))) (bN o198 (bN o326 (bL o582) (bL o838)) (bM o454 (bL o710)))) (bN o102 (bN o166 (bN o294 (bL o550) (bL o806)) (bN o422 (bL o678) (bL o934))) (bN o230 (bN o358 (bL o614) (bL o870)) (bM o486 (bL o742))))) (bN o54 (bN o86 (bN o150 (bN o278 (bL o534) (bL o790)) (bN o406 (bL o662) (bL o918))) (bN o214 (bN o342 (bL o598) (bL o854)) (bM o470 (bL o726)))) (bN o118 (bN o182 (bN o310 (bL o566) (bL o822)) (bM o438 (bL o694))) (bN o246 (bN o374 (bL o630) (bL o886)) (bM o502 (bL o758)))))) (bN o30 (bN o46 (bN o78 (bN o142 (bN o270 (bL o526) (bL o782)) (bN o398 (bL o654) (bL o910))) (bN o206 (bN o334 (bL o590) (bL o846)) (bM o462 (bL o718)))) (bN o110 (bN o174 (bN o302 (bL o558) (bL o814)) (bM o430 (bL o686))) (bN o238 (bN o366 (bL o622) (bL o878)) (bM o494 (bL o750))))) (bN o62 (bN o94 (bN o158 (bN o286 (bL o542) (bL o798)) (bN o414 (bL o670) (bL o926))) (bN o222 (bN o350 (bL o606) (bL o862)) (bM o478 (bL o734)))) (bN o126 (bN o190 (bN o318 (bL o574) (bL o830)) (bM o446 (bL o702))) (bN o254 (bN o382 (bL o638) (bL o894)) (bM o510 (bL o766))))))))))
noncomputable def S15 (w : World) (os : OsState) : SharedT := ⟨T15 w.params, 935, {}, gs0, {}, 1491, os⟩
noncomputable def ss16 : List Stmt := (bE.drop 125).take 14
noncomputable def x16v3 (P : Params) : Obj := dcut P o3 137 [(0, (.str "gateloom.elabexpr" 1491))] 137
noncomputable def x16v12 (P : Params) : Obj := fcut P o12 372
noncomputable def T16 : Params → BT := (bN o0 (bN o1 (bN x16v3 (bN o7 (bN o15 (bN o31 (bN o63 (bN o127 (bN o255 (bL o511) (bL o767)) (bN o383 (bL o639) (bL o895))) (bN o191 (bN o319 (bL o575) (bL o831)) (bN o447 (bL o703) (bL o959)))) (bN o95 (bN o159 (bN o287 (bL o543) (bL o799)) (bN o415 (bL o671) (bL o927))) (bN o223 (bN o351 (bL o607) (bL o863)) (bN o479 (bL o735) (bL o991))))) (bN o47 (bN o79 (bN o143 (bN o271 (bL o527) (bL o783)) (bN o399 (bL o655) (bL o911))) (bN o207 (bN o335 (bL o591) (bL o847)) (bN o463 (bL o719) (bL o975)))) (bN o111 (bN o175 (bN o303 (bL o559) (bL o815)) (bN o431 (bL o687) (bL o943))) (bN o239 (bN o367 (bL o623) (bL o879)) (bN o495 (bL o751) (bL o1007)))))) (bN o23 (bN o39 (bN o71 (bN o135 (bN o263 (bL o519) (bL o775)) (bN o391 (bL o647) (bL o903))) (bN o199 (bN o327 (bL o583) (bL o839)) (bN o455 (bL o711) (bL o967)))) (bN o103 (bN o167 (bN o295 (bL o551) (bL o807)) (bN o423 (bL o679) (bL o935))) (bN o231 (bN o359 (bL o615) (bL o871)) (bN o487 (bL o743) (bL o999))))) (bN o55 (bN o87 (bN o151 (bN o279 (bL o535) (bL o791)) (bN o407 (bL o663) (bL o919))) (bN o215 (bN o343 (bL o599) (bL o855)) (bN o471 (bL o727) (bL o983)))) (bN o119 (bN o183 (bN o311 (bL o567) (bL o823)) (bN o439 (bL o695) (bL o951))) (bN o247 (bN o375 (bL o631) (bL o887)) (bM o503 (bL o759))))))) (bN o11 (bN o19 (bN o35 (bN o67 (bN o131 (bN o259 (bL o515) (bL o771)) (bN o387 (bL o643) (bL o899))) (bN o195 (bN o323 (bL o579) (bL o835)) (bN o451 (bL o707) (bL o963)))) (bN o99 (bN o163 (bN o291 (bL o547) (bL o803)) (bN o419 (bL o675) (bL o931))) (bN o227 (bN o355 (bL o611) (bL o867)) (bN o483 (bL o739) (bL o995))))) (bN o51 (bN o83 (bN o147 (bN o275 (bL o531) (bL o787)) (bN o403 (bL o659) (bL o915))) (bN o211 (bN o339 (bL o595) (bL o851)) (bN o467 (bL o723) (bL o979)))) (bN o115 (bN o179 (bN o307 (bL o563) (bL o819)) (bN o435 (bL o691) (bL o947))) (bN o243 (bN o371 (bL o627) (bL o883)) (bN o499 (bL o755) (bL o1011)))))) (bN o27 (bN o43 (bN o75 (bN o139 (bN o267 (bL o523) (bL o779)) (bN o395 (bL o651) (bL o907))) (bN o203 (bN o331 (bL o587) (bL o843)) (bN o459 (bL o715) (bL o971)))) (bN o107 (bN o171 (bN o299 (bL o555) (bL o811)) (bN o427 (bL o683) (bL o939))) (bN o235 (bN o363 (bL o619) (bL o875)) (bN o491 (bL o747) (bL o1003))))) (bN o59 (bN o91 (bN o155 (bN o283 (bL o539) (bL o795)) (bN o411 (bL o667) (bL o923))) (bN o219 (bN o347 (bL o603) (bL o859)) (bN o475 (bL o731) (bL o987)))) (bN o123 (bN o187 (bN o315 (bL o571) (bL o827)) (bN o443 (bL o699) (bL o955))) (bN o251 (bN o379 (bL o635) (bL o891)) (bM o507 (bL o763)))))))) (bN o5 (bN o9 (bN o17 (bN o33 (bN o65 (bN o129 (bN o257 (bL o513) (bL o769)) (bN o385 (bL o641) (bL o897))) (bN o193 (bN o321 (bL o577) (bL o833)) (bN o449 (bL o705) (bL o961)))) (bN o97 (bN o161 (bN o289 (bL o545) (bL o801)) (bN o417 (bL o673) (bL o929))) (bN o225 (bN o353 (bL o609) (bL o865)) (bN o481 (bL o737) (bL o993))))) (bN o49 (bN o81 (bN o145 (bN o273 (bL o529) (bL o785)) (bN o401 (bL o657) (bL o913))) (bN o209 (bN o337 (bL o593) (bL o849)) (bN o465 (bL o721) (bL o977)))) (bN o113 (bN o177 (bN o305 (bL o561) (bL o817)) (bN o433 (bL o689) (bL o945))) (bN o241 (bN o369 (bL o625) (bL o881)) (bN o497 (bL o753) (bL o1009)))))) (bN o25 (bN o41 (bN o73 (bN o137 (bN o265 (bL o521) (bL o777)) (bN o393 (bL o649) (bL o905))) (bN o201 (bN o329 (bL o585) (bL o841)) (bN o457 (bL o713) (bL o969)))) (bN o105 (bN o169 (bN o297 (bL o553) (bL o809)) (bN o425 (bL o681) (bL o937))) (bN o233 (bN o361 (bL o617) (bL o873)) (bN o489 (bL o745) (bL o1001))))) (bN o57 (bN o89 (bN o153 (bN o281 (bL o537) (bL o793)) (bN o409 (bL o665) (bL o921))) (bN o217 (bN o345 (bL o601) (bL o857)) (bN o473 (bL o729) (bL o985)))) (bN o121 (bN o185 (bN o313 (bL o569) (bL o825)) (bN o441 (bL o697) (bL o953))) (bN o249 (bN o377 (bL o633) (bL o889)) (bM o505 (bL o761))))))) (bN o13 (bN o21 (bN o37 (bN o69 (bN o133 (bN o261 (bL o517) (bL o773)) (bN o389 (bL o645) (bL o901))) (bN o197 (bN o325 (bL o581) (bL o837)) (bN o453 (bL o709) (bL o965)))) (bN o101 (bN o165 (bN o293 (bL o549) (bL o805)) (bN o421 (bL o677) (bL o933))) (bN o229 (bN o357 (bL o613) (bL o869)) (bN o485 (bL o741) (bL o997))))) (bN o53 (bN o85 (bN o149 (bN o277 (bL o533) (bL o789)) (bN o405 (bL o661) (bL o917))) (bN o213 (bN o341 (bL o597) (bL o853)) (bN o469 (bL o725) (bL o981)))) (bN o117 (bN o181 (bN o309 (bL o565) (bL o821)) (bN o437 (bL o693) (bL o949))) (bN o245 (bN o373 (bL o629) (bL o885)) (bM o501 (bL o757)))))) (bN o29 (bN o45 (bN o77 (bN o141 (bN o269 (bL o525) (bL o781)) (bN o397 (bL o653) (bL o909))) (bN o205 (bN o333 (bL o589) (bL o845)) (bN o461 (bL o717) (bL o973)))) (bN o109 (bN o173 (bN o301 (bL o557) (bL o813)) (bN o429 (bL o685) (bL o941))) (bN o237 (bN o365 (bL o621) (bL o877)) (bN o493 (bL o749) (bL o1005))))) (bN o61 (bN o93 (bN o157 (bN o285 (bL o541) (bL o797)) (bN o413 (bL o669) (bL o925))) (bN o221 (bN o349 (bL o605) (bL o861)) (bN o477 (bL o733) (bL o989)))) (bN o125 (bN o189 (bN o317 (bL o573) (bL o829)) (bN o445 (bL o701) (bL o957))) (bN o253 (bN o381 (bL o637) (bL o893)) (bM o509 (bL o765))))))))) (bN o2 (bN o4 (bN o8 (bN o16 (bN o32 (bN o64 (bN o128 (bN o256 (bL o512) (bL o768)) (bN o384 (bL o640) (bL o896))) (bN o192 (bN o320 (bL o576) (bL o832)) (bN o448 (bL o704) (bL o960)))) (bN o96 (bN o160 (bN o288 (bL o544) (bL o800)) (bN o416 (bL o672) (bL o928))) (bN o224 (bN o352 (bL o608) (bL o864)) (bN o480 (bL o736) (bL o992))))) (bN o48 (bN o80 (bN o144 (bN o272 (bL o528) (bL o784)) (bN o400 (bL o656) (bL o912))) (bN o208 (bN o336 (bL o592) (bL o848)) (bN o464 (bL o720) (bL o976)))) (bN o112 (bN o176 (bN o304 (bL o560) (bL o816)) (bN o432 (bL o688) (bL o944))) (bN o240 (bN o368 (bL o624) (bL o880)) (bN o496 (bL o752) (bL o1008)))))) (bN o24 (bN o40 (bN o72 (bN o136 (bN o264 (bL o520) (bL o776)) (bN o392 (bL o648) (bL o904))) (bN o200 (bN o328 (bL o584) (bL o840)) (bN o456 (bL o712) (bL o968)))) (bN o104 (bN o168 (bN o296 (bL o552) (bL o808)) (bN o424 (bL o680) (bL o936))) (bN o232 (bN o360 (bL o616) (bL o872)) (bN o488 (bL o744) (bL o1000))))) (bN o56 (bN o88 (bN o152 (bN o280 (bL o536) (bL o792)) (bN o408 (bL o664) (bL o920))) (bN o216 (bN o344 (bL o600) (bL o856)) (bN o472 (bL o728) (bL o984)))) (bN o120 (bN o184 (bN o312 (bL o568) (bL o824)) (bN o440 (bL o696) (bL o952))) (bN o248 (bN o376 (bL o632) (bL o888)) (bM o504 (bL o760))))))) (bN x16v12 (bN o20 (bN o36 (bN o68 (bN o132 (bN o260 (bL o516) (bL o772)) (bN o388 (bL o644) (bL o900))) (bN o196 (bN o324 (bL o580) (bL o836)) (bN o452 (bL o708) (bL o964)))) (bN o100 (bN o164 (bN o292 (bL o548) (bL o804)) (bN o420 (bL o676) (bL o932))) (bN o228 (bN o356 (bL o612) (bL o868)) (bN o484 (bL o740) (bL o996))))) (bN o52 (bN o84 (bN o148 (bN o276 (bL o532) (bL o788)) (bN o404 (bL o660) (bL o916))) (bN o212 (bN o340 (bL o596) (bL o852)) (bN o468 (bL o724) (bL o980)))) (bN o116 (bN o180 (bN o308 (bL o564) (bL o820)) (bN o436 (bL o692) (bL o948))) (bN o244 (bN o372 (bL o628) (bL o884)) (bM o500 (bL o756)))))) (bN o28 (bN o44 (bN o76 (bN o140 (bN o268 (bL o524) (bL o780)) (bN o396 (bL o652) (bL o908))) (bN o204 (bN o332 (bL o588) (bL o844)) (bN o460 (bL o716) (bL o972)))) (bN o108 (bN o172 (bN o300 (bL o556) (bL o812)) (bN o428 (bL o684) (bL o940))) (bN o236 (bN o364 (bL o620) (bL o876)) (bN o492 (bL o748) (bL o1004))))) (bN o60 (bN o92 (bN o156 (bN o284 (bL o540) (bL o796)) (bN o412 (bL o668) (bL o924))) (bN o220 (bN o348 (bL o604) (bL o860)) (bN o476 (bL o732) (bL o988)))) (bN o124 (bN o188 (bN o316 (bL o572) (bL o828)) (bN o444 (bL o700) (bL o956))) (bN o252 (bN o380 (bL o636) (bL o892)) (bM o508 (bL o764)))))))) (bN o6 (bN o10 (bN o18 (bN o34 (bN o66 (bN o130 (bN o258 (bL o514) (bL o770)) (bN o386 (bL o642) (bL o898))) (bN o194 (bN o322 (bL o578) (bL o834)) (bN o450 (bL o706) (bL o962)))) (bN o98 (bN o162 (bN o290 (bL o546) (bL o802)) (bN o418 (bL o674) (bL o930))) (bN o226 (bN o354 (bL o610) (bL o866)) (bN o482 (bL o738) (bL o994))))) (bN o50 (bN o82 (bN o146 (bN o274 (bL o530) (bL o786)) (bN o402 (bL o658) (bL o914))) (bN o210 (bN o338 (bL o594) (bL o850)) (bN o466 (bL o722) (bL o978)))) (bN o114 (bN o178 (bN o306 (bL o562) (bL o818)) (bN o434 (bL o690) (bL o946))) (bN o242 (bN o370 (bL o626) (bL o882)) (bN o498 (bL o754) (bL o1010)))))) (bN o26 (bN o42 (bN o74 (bN o138 (bN o266 (bL o522) (bL o778)) (bN o394 (bL o650) (bL o906))) (bN o202 (bN o330 (bL o586) (bL o842)) (bN o458 (bL o714) (bL o970)))) (bN o106 (bN o170 (bN o298 (bL o554) (bL o810)) (bN o426 (bL o682) (bL o938))) (bN o234 (bN o362 (bL o618) (bL o874)) (bN o490 (bL o746) (bL o1002))))) (bN o58 (bN o90 (bN o154 (bN o282 (bL o538) (bL o794)) (bN o410 (bL o666) (bL o922))) (bN o218 (bN o346 (bL o602) (bL o858)) (bN o474 (bL o730) (bL o986)))) (bN o122 (bN o186 (bN o314 (bL o570) (bL o826)) (bN o442 (bL o698) (bL o954))) (bN o250 (bN o378 (bL o634) (bL o890)) (bM o506 (bL o762))))))) (bN o14 (bN o22 (bN o38 (bN o70 (bN o134 (bN o262 (bL o518) (bL o774)) (bN o390 (bL o646) (bL o902))) (bN o198 (bN o326 (bL o582) (bL o838)) (bN o454 (bL o710) (bL o966)))) (bN o102 (bN o166 (bN o294 (bL o550) (bL o806)) (bN o422 (bL o678) (bL o934))) (bN o230 (bN o358 (bL o614) (bL o870)) (bN o486 (bL o742) (bL o998))))) (bN o54 (bN o86 (bN o150 (bN o278 (bL o534) (bL o790)) (bN o406 (bL o662) (bL o918))) (bN o214 (bN o342 (bL o598) (bL o854)) (bN o470 (bL o726) (bL o982)))) (bN o118 (bN o182 (bN o310 (bL o566) (bL o822)) (bN o438 (bL o694) (bL o950))) (bN o246 (bN o374 (bL o630) (bL o886)) (bM o502 (bL o758)))))) (bN o30 (bN o46 (bN o78 (bN o142 (bN o270 (bL o526) (bL o782)) (bN o398 (bL o654) (bL o910))) (bN o206 (bN o334 (bL o590) (bL o846)) (bN o462 (bL o718) (bL o974)))) (bN o110 (bN o174 (bN o302 (bL o558) (bL o814)) (bN o430 (bL o686) (bL o942))) (bN o238 (bN o366 (bL o622) (bL o878)) (bN o494 (bL o750) (bL o1006))))) (bN o62 (bN o94 (bN o158 (bN o286 (bL o542) (bL o798)) (bN o414 (bL o670) (bL o926))) (bN o222 (bN o350 (bL o606) (bL o862)) (bN o478 (bL o734) (bL o990)))) (bN o126 (bN o190 (bN o318 (bL o574) (bL o830)) (bN o446 (bL o702) (bL o958))) (bN o254 (bN o382 (bL o638) (bL o894)) (bM o510 (bL o766))))))))))
noncomputable def S16 (w : World) (os : OsState) : SharedT := ⟨T16 w.params, 1012, {}, gs0, {}, 1618, os⟩
noncomputable def ss17 : List Stmt := (bE.drop 139).take 12
noncomputable def x17v3 (P : Params) : Obj := dcut P o3 149 [(0, (.str "gateloom.elabexpr" 1491))] 149
noncomputable def x17v12 (P : Params) : Obj := fcut P o12 408
noncomputable def T17 : Params → BT := (bN o0 (bN o1 (bN x17v3 (bN o7 (bN o15 (bN o31 (bN o63 (bN o127 (bN o255 (bM o511 (bL o1023)) (bL o767)) (bN o383 (bL o639) (bL o895))) (bN o191 (bN o319 (bM o575 (bL o1087)) (bL o831)) (bN o447 (bL o703) (bL o959)))) (bN o95 (bN o159 (bN o287 (bM o543 (bL o1055)) (bL o799)) (bN o415 (bL o671) (bL o927))) (bN o223 (bN o351 (bL o607) (bL o863)) (bN o479 (bL o735) (bL o991))))) (bN o47 (bN o79 (bN o143 (bN o271 (bM o527 (bL o1039)) (bL o783)) (bN o399 (bL o655) (bL o911))) (bN o207 (bN o335 (bL o591) (bL o847)) (bN o463 (bL o719) (bL o975)))) (bN o111 (bN o175 (bN o303 (bM o559 (bL o1071)) (bL o815)) (bN o431 (bL o687) (bL o943))) (bN o239 (bN o367 (bL o623) (bL o879)) (bN o495 (bL o751) (bL o1007)))))) (bN o23 (bN o39 (bN o71 (bN o135 (bN o263 (bM o519 (bL o1031)) (bL o775)) (bN o391 (bL o647) (bL o903))) (bN o199 (bN o327 (bM o583 (bL o1095)) (bL o839)) (bN o455 (bL o711) (bL o967)))) (bN o103 (bN o167 (bN o295 (bM o551 (bL o1063)) (bL o807)) (bN o423 (bL o679) (bL o935))) (bN o231 (bN o359 (bL o615) (bL o871)) (bN o487 (bL o743) (bL o999))))) (bN o55 (bN o87 (bN o151 (bN o279 (bM o535 (bL o1047)) (bL o791)) (bN o407 (bL o663) (bL o919))) (bN o215 (bN o343 (bL o599) (bL o855)) (bN o471 (bL o727) (bL o983)))) (bN o119 (bN o183 (bN o311 (bM o567 (bL o1079)) (bL o823)) (bN o439 (bL o695) (bL o951))) (bN o247 (bN o375 (bL o631) (bL o887)) (bN o503 (bL o759) (bL o1015))))))) (bN o11 (bN o19 (bN o35 (bN o67 (bN o131 (bN o259 (bM o515 (bL o1027)) (bL o771)) (bN o387 (bL o643) (bL o899))) (bN o195 (bN o323 (bM o579 (bL o1091)) (bL o835)) (bN o451 (bL o707) (bL o963)))) (bN o99 (bN o163 (bN o291 (bM o547 (bL o1059)) (bL o803)) (bN o419 (bL o675) (bL o931))) (bN o227 (bN o355 (bL o611) (bL o867)) (bN o483 (bL o739) (bL o995))))) (bN o51 (bN o83 (bN o147 (bN o275 (bM o531 (bL o1043)) (bL o787)) (bN o403 (bL o659) (bL o915))) (bN o211 (bN o339 (bL o595) (bL o851)) (bN o467 (bL o723) (bL o979)))) (bN o115 (bN o179 (bN o307 (bM o563 (bL o1075)) (bL o819)) (bN o435 (bL o691) (bL o947))) (bN o243 (bN o371 (bL o627) (bL o883)) (bN o499 (bL o755) (bL o1011)))))) (bN o27 (bN o43 (bN o75 (bN o139 (bN o267 (bM o523 (bL o1035)) (bL o779)) (bN o395 (bL o651) (bL o907))) (bN o203 (bN o331 (bL o587) (bL o843)) (bN o459 (bL o715) (bL o971)))) (bN o107 (bN o171 (bN o299 (bM o555 (bL o1067)) (bL o811)) (bN o427 (bL o683) (bL o939))) (bN o235 (bN o363 (bL o619) (bL o875)) (bN o491 (bL o747) (bL o1003))))) (bN o59 (bN o91 (bN o155 (bN o283 (bM o539 (bL o1051)) (bL o795)) (bN o411 (bL o667) (bL o923))) (bN o219 (bN o347 (bL o603) (bL o859)) (bN o475 (bL o731) (bL o987)))) (bN o123 (bN o187 (bN o315 (bM o571 (bL o1083)) (bL o827)) (bN o443 (bL o699) (bL o955))) (bN o251 (bN o379 (bL o635) (bL o891)) (bN o507 (bL o763) (bL o1019)))))))) (bN o5 (bN o9 (bN o17 (bN o33 (bN o65 (bN o129 (bN o257 (bM o513 (bL o1025)) (bL o769)) (bN o385 (bL o641) (bL o897))) (bN o193 (bN o321 (bM o577 (bL o1089)) (bL o833)) (bN o449 (bL o705) (bL o961)))) (bN o97 (bN o161 (bN o289 (bM o545 (bL o1057)) (bL o801)) (bN o417 (bL o673) (bL o929))) (bN o225 (bN o353 (bL o609) (bL o865)) (bN o481 (bL o737) (bL o993))))) (bN o49 (bN o81 (bN o145 (bN o273 (bM o529 (bL o1041)) (bL o785)) (bN o401 (bL o657) (bL o913))) (bN o209 (bN o337 (bL o593) (bL o849)) (bN o465 (bL o721) (bL o977)))) (bN o113 (bN o177 (bN o305 (bM o561 (bL o1073)) (bL o817)) (bN o433 (bL o689) (bL o945))) (bN o241 (bN o369 (bL o625) (bL o881)) (bN o497 (bL o753) (bL o1009)))))) (bN o25 (bN o41 (bN o73 (bN o137 (bN o265 (bM o521 (bL o1033)) (bL o777)) (bN o393 (bL o649) (bL o905))) (bN o201 (bN o329 (bL o585) (bL o841)) (bN o457 (bL o713) (bL o969)))) (bN o105 (bN o169 (bN o297 (bM o553 (bL o1065)) (bL o809)) (bN o425 (bL o681) (bL o937))) (bN o233 (bN o361 (bL o617) (bL o873)) (bN o489 (bL o745) (bL o1001))))) (bN o57 (bN o89 (bN o153 (bN o281 (bM o537 (bL o1049)) (bL o793)) (bN o409 (bL o665) (bL o921))) (bN o217 (bN o345 (bL o601) (bL o857)) (bN o473 (bL o729) (bL o985)))) (bN o121 (bN o185 (bN o313 (bM o569 (bL o1081)) (bL o825)) (bN o441 (bL o697) (bL o953))) (bN o249 (bN o377 (bL o633) (bL o889)) (bN o505 (bL o761) (bL o1017))))))) (bN o13 (bN o21 (bN o37 (bN o69 (bN o133 (bN o261 (bM o517 (bL o1029)) (bL o773)) (bN o389 (bL o645) (bL o901))) (bN o197 (bN o325 (bM o581 (bL o1093)) (bL o837)) (bN o453 (bL o709) (bL o965)))) (bN o101 (bN o165 (bN o293 (bM o549 (bL o1061)) (bL o805)) (bN o421 (bL o677) (bL o933))) (bN o229 (bN o357 (bL o613) (bL o869)) (bN o485 (bL o741) (bL o997))))) (bN o53 (bN o85 (bN o149 (bN o277 (bM o533 (bL o1045)) (bL o789)) (bN o405 (bL o661) (bL o917))) (bN o213 (bN o341 (bL o597) (bL o853)) (bN o469 (bL o725) (bL o981)))) (bN o117 (bN o181 (bN o309 (bM o565 (bL o1077)) (bL o821)) (bN o437 (bL o693) (bL o949))) (bN o245 (bN o373 (bL o629) (bL o885)) (bN o501 (bL o757) (bL o1013)))))) (bN o29 (bN o45 (bN o77 (bN o141 (bN o269 (bM o525 (bL o1037)) (bL o781)) (bN o397 (bL o653) (bL o909))) (bN o205 (bN o333 (bL o589) (bL o845)) (bN o461 (bL o717) (bL o973)))) (bN o109 (bN o173 (bN o301 (bM o557 (bL o1069)) (bL o813)) (bN o429 (bL o685) (bL o941))) (bN o237 (bN o365 (bL o621) (bL o877)) (bN o493 (bL o749) (bL o1005))))) (bN o61 (bN o93 (bN o157 (bN o285 (bM o541 (bL o1053)) (bL o797)) (bN o413 (bL o669) (bL o925))) (bN o221 (bN o349 (bL o605) (bL o861)) (bN o477 (bL o733) (bL o989)))) (bN o125 (bN o189 (bN o317 (bM o573 (bL o1085)) (bL o829)) (bN o445 (bL o701) (bL o957))) (bN o253 (bN o381 (bL o637) (bL o893)) (bN o509 (bL o765) (bL o1021))))))))) (bN o2 (bN o4 (bN o8 (bN o16 (bN o32 (bN o64 (bN o128 (bN o256 (bM o512 (bL o1024)) (bL o768)) (bN o384 (bL o640) (bL o896))) (bN o192 (bN o320 (bM o576 (bL o1088)) (bL o832)) (bN o448 (bL o704) (bL o960)))) (bN o96 (bN o160 (bN o288 (bM o544 (bL o1056)) (bL o800)) (bN o416 (bL o672) (bL o928))) (bN o224 (bN o352 (bL o608) (bL o864)) (bN o480 (bL o736) (bL o992))))) (bN o48 (bN o80 (bN o144 (bN o272 (bM o528 (bL o1040)) (bL o784)) (bN o400 (bL o656) (bL o912))) (bN o208 (bN o336 (bL o592) (bL o848)) (bN o464 (bL o720) (bL o976)))) (bN o112 (bN o176 (bN o304 (bM o560 (bL o1072)) (bL o816)) (bN o432 (bL o688) (bL o944))) (bN o240 (bN o368 (bL o624) (bL o880)) (bN o496 (bL o752) (bL o1008)))))) (bN o24 (bN o40 (bN o72 (bN o136 (bN o264 (bM o520 (bL o1032)) (bL o776)) (bN o392 (bL o648) (bL o904))) (bN o200 (bN o328 (bL o584) (bL o840)) (bN o456 (bL o712) (bL o968)))) (bN o104 (bN o168 (bN o296 (bM o552 (bL o1064)) (bL o808)) (bN o424 (bL o680) (bL o936))) (bN o232 (bN o360 (bL o616) (bL o872)) (bN o488 (bL o744) (bL o1000))))) (bN o56 (bN o88 (bN o152 (bN o280 (bM o536 (bL o1048)) (bL o792)) (bN o408 (bL o664) (bL o920))) (bN o216 (bN o344 (bL o600) (bL o856)) (bN o472 (bL o728) (bL o984)))) (bN o120 (bN o184 (bN o312 (bM o568 (bL o1080)) (bL o824)) (bN o440 (bL o696) (bL o952))) (bN o248 (bN o376 (bL o632) (bL o888)) (bN o504 (bL o760) (bL o1016))))))) (bN x17v12 (bN o20 (bN o36 (bN o68 (bN o132 (bN o260 (bM o516 (bL o1028)) (bL o772)) (bN o388 (bL o644) (bL o900))) (bN o196 (bN o324 (bM o580 (bL o1092)) (bL o836)) (bN o452 (bL o708) (bL o964)))) (bN o100 (bN o164 (bN o292 (bM o548 (bL o1060)) (bL o804)) (bN o420 (bL o676) (bL o932))) (bN o228 (bN o356 (bL o612) (bL o868)) (bN o484 (bL o740) (bL o996))))) (bN o52 (bN o84 (bN o148 (bN o276 (bM o532 (bL o1044)) (bL o788)) (bN o404 (bL o660) (bL o916))) (bN o212 (bN o340 (bL o596) (bL o852)) (bN o468 (bL o724) (bL o980)))) (bN o116 (bN o180 (bN o308 (bM o564 (bL o1076)) (bL o820)) (bN o436 (bL o692) (bL o948))) (bN o244 (bN o372 (bL o628) (bL o884)) (bN o500 (bL o756) (bL o1012)))))) (bN o28 (bN o44 (bN o76 (bN o140 (bN o268 (bM o524 (bL o1036)) (bL o780)) (bN o396 (bL o652) (bL o908))) (bN o204 (bN o332 (bL o588) (bL o844)) (bN o460 (bL o716) (bL o972)))) (bN o108 (bN o172 (bN o300 (bM o556 (bL o1068)) (bL o812)) (bN o428 (bL o684) (bL o940))) (bN o236 (bN o364 (bL o620) (bL o876)) (bN o492 (bL o748) (bL o1004))))) (bN o60 (bN o92 (bN o156 (bN o284 (bM o540 (bL o1052)) (bL o796)) (bN o412 (bL o668) (bL o924))) (bN o220 (bN o348 (bL o604) (bL o860)) (bN o476 (bL o732) (bL o988)))) (bN o124 (bN o188 (bN o316 (bM o572 (bL o1084)) (bL o828)) (bN o444 (bL o700) (bL o956))) (bN o252 (bN o380 (bL o636) (bL o892)) (bN o508 (bL o764) (bL o1020)))))))) (bN o6 (bN o10 (bN o18 (bN o34 (bN o66 (bN o130 (bN o258 (bM o514 (bL o1026)) (bL o770)) (bN o386 (bL o642) (bL o898))) (bN o194 (bN o322 (bM o578 (bL o1090)) (bL o834)) (bN o450 (bL o706) (bL o962)))) (bN o98 (bN o162 (bN o290 (bM o546 (bL o1058)) (bL o802)) (bN o418 (bL o674) (bL o930))) (bN o226 (bN o354 (bL o610) (bL o866)) (bN o482 (bL o738) (bL o994))))) (bN o50 (bN o82 (bN o146 (bN o274 (bM o530 (bL o1042)) (bL o786)) (bN o402 (bL o658) (bL o914))) (bN o210 (bN o338 (bL o594) (bL o850)) (bN o466 (bL o722) (bL o978)))) (bN o114 (bN o178 (bN o306 (bM o562 (bL o1074)) (bL o818)) (bN o434 (bL o690) (bL o946))) (bN o242 (bN o370 (bL o626) (bL o882)) (bN o498 (bL o754) (bL o1010)))))) (bN o26 (bN o42 (bN o74 (bN o138 (bN o266 (bM o522 (bL o1034)) (bL o778)) (bN o394 (bL o650) (bL o906))) (bN o202 (bN o330 (bL o586) (bL o842)) (bN o458 (bL o714) (bL o970)))) (bN o106 (bN o170 (bN o298 (bM o554 (bL o1066)) (bL o810)) (bN o426 (bL o682) (bL o938))) (bN o234 (bN o362 (bL o618) (bL o874)) (bN o490 (bL o746) (bL o1002))))) (bN o58 (bN o90 (bN o154 (bN o282 (bM o538 (bL o1050)) (bL o794)) (bN o410 (bL o666) (bL o922))) (bN o218 (bN o346 (bL o602) (bL o858)) (bN o474 (bL o730) (bL o986)))) (bN o122 (bN o186 (bN o314 (bM o570 (bL o1082)) (bL o826)) (bN o442 (bL o698) (bL o954))) (bN o250 (bN o378 (bL o634) (bL o890)) (bN o506 (bL o762) (bL o1018))))))) (bN o14 (bN o22 (bN o38 (bN o70 (bN o134 (bN o262 (bM o518 (bL o1030)) (bL o774)) (bN o390 (bL o646) (bL o902))) (bN o198 (bN o326 (bM o582 (bL o1094)) (bL o838)) (bN o454 (bL o710) (bL o966)))) (bN o102 (bN o166 (bN o294 (bM o550 (bL o1062)) (bL o806)) (bN o422 (bL o678) (bL o934))) (bN o230 (bN o358 (bL o614) (bL o870)) (bN o486 (bL o742) (bL o998))))) (bN o54 (bN o86 (bN o150 (bN o278 (bM o534 (bL o1046)) (bL o790)) (bN o406 (bL o662) (bL o918))) (bN o214 (bN o342 (bL o598) (bL o854)) (bN o470 (bL o726) (bL o982)))) (bN o118 (bN o182 (bN o310 (bM o566 (bL o1078)) (bL o822)) (bN o438 (bL o694) (bL o950))) (bN o246 (bN o374 (bL o630) (bL o886)) (bN o502 (bL o758) (bL o1014)))))) (bN o30 (bN o46 (bN o78 (bN o142 (bN o270 (bM o526 (bL o1038)) (bL o782)) (bN o398 (bL o654) (bL o910))) (bN o206 (bN o334 (bL o590) (bL o846)) (bN o462 (bL o718) (bL o974)))) (bN o110 (bN o174 (bN o302 (bM o558 (bL o1070)) (bL o814)) (bN o430 (bL o686) (bL o942))) (bN o238 (bN o366 (bL o622) (bL o878)) (bN o494 (bL o750) (bL o1006))))) (bN o62 (bN o94 (bN o158 (bN o286 (bM o542 (bL o1054)) (bL o798)) (bN o414 (bL o670) (bL o926))) (bN o222 (bN o350 (bL o606) (bL o862)) (bN o478 (bL o734) (bL o990)))) (bN o126 (bN o190 (bN o318 (bM o574 (bL o1086)) (bL o830)) (bN o446 (bL o702) (bL o958))) (bN o254 (bN o382 (bL o638) (bL o894)) (bN o510 (bL o766) (bL o1022))))))))))
noncomputable def S17 (w : World) (os : OsState) : SharedT := ⟨T17 w.params, 1096, {}, gs0, {}, 1751, os⟩
noncomputable def ss18 : List Stmt := (bE.drop 151).take 5
noncomputable def x18v3 (P : Params) : Obj := dcut P o3 153 [(0, (.str "gateloom.design" 1782))] 153
noncomputable def x18v12 (P : Params) : Obj := fcut P o12 420
noncomputable def T18 : Params → BT := (bN o0 (bN o1 (bN x18v3 (bN o7 (bN o15 (bN o31 (bN o63 (bN o127 (bN o255 (bM o511 (bL o1023)) (bL o767)) (bN o383 (bL o639) (bL o895))) (bN o191 (bN o319 (bM o575 (bL o1087)) (bL o831)) (bN o447 (bL o703) (bL o959)))) (bN o95 (bN o159 (bN o287 (bM o543 (bL o1055)) (bL o799)) (bN o415 (bL o671) (bL o927))) (bN o223 (bN o351 (bM o607 (bL o1119)) (bL o863)) (bN o479 (bL o735) (bL o991))))) (bN o47 (bN o79 (bN o143 (bN o271 (bM o527 (bL o1039)) (bL o783)) (bN o399 (bL o655) (bL o911))) (bN o207 (bN o335 (bM o591 (bL o1103)) (bL o847)) (bN o463 (bL o719) (bL o975)))) (bN o111 (bN o175 (bN o303 (bM o559 (bL o1071)) (bL o815)) (bN o431 (bL o687) (bL o943))) (bN o239 (bN o367 (bL o623) (bL o879)) (bN o495 (bL o751) (bL o1007)))))) (bN o23 (bN o39 (bN o71 (bN o135 (bN o263 (bM o519 (bL o1031)) (bL o775)) (bN o391 (bL o647) (bL o903))) (bN o199 (bN o327 (bM o583 (bL o1095)) (bL o839)) (bN o455 (bL o711) (bL o967)))) (bN o103 (bN o167 (bN o295 (bM o551 (bL o1063)) (bL o807)) (bN o423 (bL o679) (bL o935))) (bN o231 (bN o359 (bL o615) (bL o871)) (bN o487 (bL o743) (bL o999))))) (bN o55 (bN o87 (bN o151 (bN o279 (bM o535 (bL o1047)) (bL o791)) (bN o407 (bL o663) (bL o919))) (bN o215 (bN o343 (bM o599 (bL o1111)) (bL o855)) (bN o471 (bL o727) (bL o983)))) (bN o119 (bN o183 (bN o311 (bM o567 (bL o1079)) (bL o823)) (bN o439 (bL o695) (bL o951))) (bN o247 (bN o375 (bL o631) (bL o887)) (bN o503 (bL o759) (bL o1015))))))) (bN o11 (bN o19 (bN o35 (bN o67 (bN o131 (bN o259 (bM o515 (bL o1027)) (bL o771)) (bN o387 (bL o643) (bL o899))) (bN o195 (bN o323 (bM o579 (bL o1091)) (bL o835)) (bN o451 (bL o707) (bL o963)))) (bN o99 (bN o163 (bN o291 (bM o547 (bL o1059)) (bL o803)) (bN o419 (bL o675) (bL o931))) (bN o227 (bN o355 (bM o611 (bL o1123)) (bL o867)) (bN o483 (bL o739) (bL o995))))) (bN o51 (bN o83 (bN o147 (bN o275 (bM o531 (bL o1043)) (bL o787)) (bN o403 (bL o659) (bL o915))) (bN o211 (bN o339 (bM o595 (bL o1107)) (bL o851)) (bN o467 (bL o723) (bL o979)))) (bN o115 (bN o179 (bN o307 (bM o563 (bL o1075)) (bL o819)) (bN o435 (bL o691) (bL o947))) (bN o243 (bN o371 (bL o627) (bL o883)) (bN o499 (bL o755) (bL o1011)))))) (bN o27 (bN o43 (bN o75 (bN o139 (bN o267 (bM o523 (bL o1035)) (bL o779)) (bN o395 (bL o651) (bL o907))) (bN o203 (bN o331 (bM o587 (bL o1099)) (bL o843)) (bN o459 (bL o715) (bL o971)))) (bN o107 (bN o171 (bN o299 (bM o555 (bL o1067)) (bL o811)) (bN o427 (bL o683) (bL o939))) (bN o235 (bN o363 (bL o619) (bL o875)) (bN o491 (bL o747) (bL o1003))))) (bN o59 (bN o91 (bN o155 (bN o283 (bM o539 (bL o1051)) (bL o795)) (bN o411 (bL o667) (bL o923))) (bN o219 (bN o347 (bM o603 (bL o1115)) (bL o859)) (bN o475 (bL o731) (bL o987)))) (bN o123 (bN o187 (bN o315 (bM o571 (bL o1083)) (bL o827)) (bN o443 (bL o699) (bL o955))) (bN o251 (bN o379 (bL o635) (bL o891)) (bN o507 (bL o763) (bL o1019)))))))) (bN o5 (bN o9 (bN o17 (bN o33 (bN o65 (bN o129 (bN o257 (bM o513 (bL o1025)) (bL o769)) (bN o385 (bL o641) (bL o897))) (bN o193 (bN o321 (bM o577 (bL o1089)) (bL o833)) (bN o449 (bL o705) (bL o961)))) (bN o97 (bN o161 (bN o289 (bM o545 (bL o1057)) (bL o801)) (bN o417 (bL o673) (bL o929))) (bN o225 (bN o353 (bM o609 (bL o1121)) (bL o865)) (bN o481 (bL o737) (bL o993))))) (bN o49 (bN o81 (bN o145 (bN o273 (bM o529 (bL o1041)) (bL o785)) (bN o401 (bL o657) (bL o913))) (bN o209 (bN o337 (bM o593 (bL o1105)) (bL o849)) (bN o465 (bL o721) (bL o977)))) (bN o113 (bN o177 (bN o305 (bM o561 (bL o1073)) (bL o817)) (bN o433 (bL o689) (bL o945))) (bN o241 (bN o369 (bL o625) (bL o881)) (bN o497 (bL o753) (bL o1009)))))) (bN o25 (bN o41 (bN o73 (bN o137 (bN o265 (bM o521 (bL o1033)) (bL o777)) (bN o393 (bL o649) (bL o905))) (bN o201 (bN o329 (bM o585 (bL o1097)) (bL o841)) (bN o457 (bL o713) (bL o969)))) (bN o105 (bN o169 (bN o297 (bM o553 (bL o1065)) (bL o809)) (bN o425 (bL o681) (bL o937))) (bN o233 (bN o361 (bL o617) (bL o873)) (bN o489 (bL o745) (bL o1001))))) (bN o57 (bN o89 (bN o153 (bN o281 (bM o537 (bL o1049)) (bL o793)) (bN o409 (bL o665) (bL o921))) (bN o217 (bN o345 (bM o601 (bL o1113)) (bL o857)) (bN o473 (bL o729) (bL o985)))) (bN o121 (bN o185 (bN o313 (bM o569 (bL o1081)) (bL o825)) (bN o441 (bL o697) (bL o953))) (bN o249 (bN o377 (bL o633) (bL o889)) (bN o505 (bL o761) (bL o1017))))))) (bN o13 (bN o21 (bN o37 (bN o69 (bN o133 (bN o261 (bM o517 (bL o1029)) (bL o773)) (bN o389 (bL o645) (bL o901))) (bN o197 (bN o325 (bM o581 (bL o1093)) (bL o837)) (bN o453 (bL o709) (bL o965)))) (bN o101 (bN o165 (bN o293 (bM o549 (bL o1061)) (bL o805)) (bN o421 (bL o677) (bL o933))) (bN o229 (bN o357 (bL o613) (bL o869)) (bN o485 (bL o741) (bL o997))))) (bN o53 (bN o85 (bN o149 (bN o277 (bM o533 (bL o1045)) (bL o789)) (bN o405 (bL o661) (bL o917))) (bN o213 (bN o341 (bM o597 (bL o1109)) (bL o853)) (bN o469 (bL o725) (bL o981)))) (bN o117 (bN o181 (bN o309 (bM o565 (bL o1077)) (bL o821)) (bN o437 (bL o693) (bL o949))) (bN o245 (bN o373 (bL o629) (bL o885)) (bN o501 (bL o757) (bL o1013)))))) (bN o29 (bN o45 (bN o77 (bN o141 (bN o269 (bM o525 (bL o1037)) (bL o781)) (bN o397 (bL o653) (bL o909))) (bN o205 (bN o333 (bM o589 (bL o1101)) (bL o845)) (bN o461 (bL o717) (bL o973)))) (bN o109 (bN o173 (bN o301 (bM o557 (bL o1069)) (bL o813)) (bN o429 (bL o685) (bL o941))) (bN o237 (bN o365 (bL o621) (bL o877)) (bN o493 (bL o749) (bL o1005))))) (bN o61 (bN o93 (bN o157 (bN o285 (bM o541 (bL o1053)) (bL o797)) (bN o413 (bL o669) (bL o925))) (bN o221 (bN o349 (bM o605 (bL o1117)) (bL o861)) (bN o477 (bL o733) (bL o989)))) (bN o125 (bN o189 (bN o317 (bM o573 (bL o1085)) (bL o829)) (bN o445 (bL o701) (bL o957))) (bN o253 (bN o381 (bL o637) (bL o893)) (bN o509 (bL o765) (bL o1021))))))))) (bN o2 (bN o4 (bN o8 (bN o16 (bN o32 (bN o64 (bN o128 (bN o256 (bM o512 (bL o1024)) (bL o768)) (bN o384 (bL o640) (bL o896))) (bN o192 (bN o320 (bM o576 (bL o1088)) (bL o832)) (bN o448 (bL o704) (bL o960)))) (bN o96 (bN o160 (bN o288 (bM o544 (bL o1056)) (bL o800)) (bN o416 (bL o672) (bL o928))) (bN o224 (bN o352 (bM o608 (bL o1120)) (bL o864)) (bN o480 (bL o736) (bL o992))))) (bN o48 (bN o80 (bN o144 (bN o272 (bM o528 (bL o1040)) (bL o784)) (bN o400 (bL o656) (bL o912))) (bN o208 (bN o336 (bM o592 (bL o1104)) (bL o848)) (bN o464 (bL o720) (bL o976)))) (bN o112 (bN o176 (bN o304 (bM o560 (bL o1072)) (bL o816)) (bN o432 (bL o688) (bL o944))) (bN o240 (bN o368 (bL o624) (bL o880)) (bN o496 (bL o752) (bL o1008)))))) (bN o24 (bN o40 (bN o72 (bN o136 (bN o264 (bM o520 (bL o1032)) (bL o776)) (bN o392 (bL o648) (bL o904))) (bN o200 (bN o328 (bM o584 (bL o1096)) (bL o840)) (bN o456 (bL o712) (bL o968)))) (bN o104 (bN o168 (bN o296 (bM o552 (bL o1064)) (bL o808)) (bN o424 (bL o680) (bL o936))) (bN o232 (bN o360 (bL o616) (bL o872)) (bN o488 (bL o744) (bL o1000))))) (bN o56 (bN o88 (bN o152 (bN o280 (bM o536 (bL o1048)) (bL o792)) (bN o408 (bL o664) (bL o920))) (bN o216 (bN o344 (bM o600 (bL o1112)) (bL o856)) (bN o472 (bL o728) (bL o984)))) (bN o120 (bN o184 (bN o312 (bM o568 (bL o1080)) (bL o824)) (bN o440 (bL o696) (bL o952))) (bN o248 (bN o376 (bL o632) (bL o888)) (bN o504 (bL o760) (bL o1016))))))) (bN x18v12 (bN o20 (bN o36 (bN o68 (bN o132 (bN o260 (bM o516 (bL o1028)) (bL o772)) (bN o388 (bL o644) (bL o900))) (bN o196 (bN o324 (bM o580 (bL o1092)) (bL o836)) (bN o452 (bL o708) (bL o964)))) (bN o100 (bN o164 (bN o292 (bM o548 (bL o1060)) (bL o804)) (bN o420 (bL o676) (bL o932))) (bN o228 (bN o356 (bL o612) (bL o868)) (bN o484 (bL o740) (bL o996))))) (bN o52 (bN o84 (bN o148 (bN o276 (bM o532 (bL o1044)) (bL o788)) (bN o404 (bL o660) (bL o916))) (bN o212 (bN o340 (bM o596 (bL o1108)) (bL o852)) (bN o468 (bL o724) (bL o980)))) (bN o116 (bN o180 (bN o308 (bM o564 (bL o1076)) (bL o820)) (bN o436 (bL o692) (bL o948))) (bN o244 (bN o372 (bL o628) (bL o884)) (bN o500 (bL o756) (bL o1012)))))) (bN o28 (bN o44 (bN o76 (bN o140 (bN o268 (bM o524 (bL o1036)) (bL o780)) (bN o396 (bL o652) (bL o908))) (bN o204 (bN o332 (bM o588 (bL o1100)) (bL o844)) (bN o460 (bL o716) (bL o972)))) (bN o108 (bN o172 (bN o300 (bM o556 (bL o1068)) (bL o812)) (bN o428 (bL o684) (bL o940))) (bN o236 (bN o364 (bL o620) (bL o876)) (bN o492 (bL o748) (bL o1004))))) (bN o60 (bN o92 (bN o156 (bN o284 (bM o540 (bL o1052)) (bL o796)) (bN o412 (bL o668) (bL o924))) (bN o220 (bN o348 (bM o604 (bL o1116)) (bL o860)) (bN o476 (bL o732) (bL o988)))) (bN o124 (bN o188 (bN o316 (bM o572 (bL o1084)) (bL o828)) (bN o444 (bL o700) (bL o956))) (bN o252 (bN o380 (bL o636) (bL o892)) (bN o508 (bL o764) (bL o1020)))))))) (bN o6 (bN o10 (bN o18 (bN o34 (bN o66 (bN o130 (bN o258 (bM o514 (bL o1026)) (bL o770)) (bN o386 (bL o642) (bL o898))) (bN o194 (bN o322 (bM o578 (bL o1090)) (bL o834)) (bN o450 (bL o706) (bL o962)))) (bN o98 (bN o162 (bN o290 (bM o546 (bL o1058)) (bL o802)) (bN o418 (bL o674) (bL o930))) (bN o226 (bN o354 (bM o610 (bL o1122)) (bL o866)) (bN o482 (bL o738) (bL o994))))) (bN o50 (bN o82 (bN o146 (bN o274 (bM o530 (bL o1042)) (bL o786)) (bN o402 (bL o658) (bL o914))) (bN o210 (bN o338 (bM o594 (bL o1106)) (bL o850)) (bN o466 (bL o722) (bL o978)))) (bN o114 (bN o178 (bN o306 (bM o562 (bL o1074)) (bL o818)) (bN o434 (bL o690) (bL o946))) (bN o242 (bN o370 (bL o626) (bL o882)) (bN o498 (bL o754) (bL o1010)))))) (bN o26 (bN o42 (bN o74 (bN o138 (bN o266 (bM o522 (bL o1034)) (bL o778)) (bN o394 (bL o650) (bL o906))) (bN o202 (bN o330 (bM o586 (bL o1098)) (bL o842)) (bN o458 (bL o714) (bL o970)))) (bN o106 (bN o170 (bN o298 (bM o554 (bL o1066)) (bL o810)) (bN o426 (bL o682) (bL o938))) (bN o234 (bN o362 (bL o618) (bL o874)) (bN o490 (bL o746) (bL o1002))))) (bN o58 (bN o90 (bN o154 (bN o282 (bM o538 (bL o1050)) (bL o794)) (bN o410 (bL o666) (bL o922))) (bN o218 (bN o346 (bM o602 (bL o1114)) (bL o858)) (bN o474 (bL o730) (bL o986)))) (bN o122 (bN o186 (bN o314 (bM o570 (bL o1082)) (bL o826)) (bN o442 (bL o698) (bL o954))) (bN o250 (bN o378 (bL o634) (bL o890)) (bN o506 (bL o762) (bL o1018))))))) (bN o14 (bN o22 (bN o38 (bN o70 (bN o134 (bN o262 (bM o518 (bL o1030)) (bL o774)) (bN o390 (bL o646) (bL o902))) (bN o198 (bN o326 (bM o582 (bL o1094)) (bL o838)) (bN o454 (bL o710) (bL o966)))) (bN o102 (bN o166 (bN o294 (bM o550 (bL o1062)) (bL o806)) (bN o422 (bL o678) (bL o934))) (bN o230 (bN o358 (bL o614) (bL o870)) (bN o486 (bL o742) (bL o998))))) (bN o54 (bN o86 (bN o150 (bN o278 (bM o534 (bL o1046)) (bL o790)) (bN o406 (bL o662) (bL o918))) (bN o214 (bN o342 (bM o598 (bL o1110)) (bL o854)) (bN o470 (bL o726) (bL o982)))) (bN o118 (bN o182 (bN o310 (bM o566 (bL o1078)) (bL o822)) (bN o438 (bL o694) (bL o950))) (bN o246 (bN o374 (bL o630) (bL o886)) (bN o502 (bL o758) (bL o1014)))))) (bN o30 (bN o46 (bN o78 (bN o142 (bN o270 (bM o526 (bL o1038)) (bL o782)) (bN o398 (bL o654) (bL o910))) (bN o206 (bN o334 (bM o590 (bL o1102)) (bL o846)) (bN o462 (bL o718) (bL o974)))) (bN o110 (bN o174 (bN o302 (bM o558 (bL o1070)) (bL o814)) (bN o430 (bL o686) (bL o942))) (bN o238 (bN o366 (bL o622) (bL o878)) (bN o494 (bL o750) (bL o1006))))) (bN o62 (bN o94 (bN o158 (bN o286 (bM o542 (bL o1054)) (bL o798)) (bN o414 (bL o670) (bL o926))) (bN o222 (bN o350 (bM o606 (bL o1118)) (bL o862)) (bN o478 (bL o734) (bL o990)))) (bN o126 (bN o190 (bN o318 (bM o574 (bL o1086)) (bL o830)) (bN o446 (bL o702) (bL o958))) (bN o254 (bN o382 (bL o638) (bL o894)) (bN o510 (bL o766) (bL o1022))))))))))
noncomputable def S18 (w : World) (os : OsState) : SharedT := ⟨T18 w.params, 1124, {}, gs0, {}, 1790, os⟩
noncomputable def ss19 : List Stmt := (bE.drop 156).take 1
noncomputable def x19v3 (P : Params) : Obj := dcut P o3 154 [(0, (.str "gateloom.design" 1782))] 154
noncomputable def x19v12 (P : Params) : Obj := fcut P o12 423
noncomputable def T19 : Params → BT := (bN o0 (bN o1 (bN x19v3 (bN o7 (bN o15 (bN o31 (bN o63 (bN o127 (bN o255 (bM o511 (bL o1023)) (bL o767)) (bN o383 (bM o639 (bL o1151)) (bL o895))) (bN o191 (bN o319 (bM o575 (bL o1087)) (bL o831)) (bN o447 (bL o703) (bL o959)))) (bN o95 (bN o159 (bN o287 (bM o543 (bL o1055)) (bL o799)) (bN o415 (bL o671) (bL o927))) (bN o223 (bN o351 (bM o607 (bL o1119)) (bL o863)) (bN o479 (bL o735) (bL o991))))) (bN o47 (bN o79 (bN o143 (bN o271 (bM o527 (bL o1039)) (bL o783)) (bN o399 (bM o655 (bL o1167)) (bL o911))) (bN o207 (bN o335 (bM o591 (bL o1103)) (bL o847)) (bN o463 (bL o719) (bL o975)))) (bN o111 (bN o175 (bN o303 (bM o559 (bL o1071)) (bL o815)) (bN o431 (bL o687) (bL o943))) (bN o239 (bN o367 (bM o623 (bL o1135)) (bL o879)) (bN o495 (bL o751) (bL o1007)))))) (bN o23 (bN o39 (bN o71 (bN o135 (bN o263 (bM o519 (bL o1031)) (bL o775)) (bN o391 (bM o647 (bL o1159)) (bL o903))) (bN o199 (bN o327 (bM o583 (bL o1095)) (bL o839)) (bN o455 (bL o711) (bL o967)))) (bN o103 (bN o167 (bN o295 (bM o551 (bL o1063)) (bL o807)) (bN o423 (bL o679) (bL o935))) (bN o231 (bN o359 (bM o615 (bL o1127)) (bL o871)) (bN o487 (bL o743) (bL o999))))) (bN o55 (bN o87 (bN o151 (bN o279 (bM o535 (bL o1047)) (bL o791)) (bN o407 (bM o663 (bL o1175)) (bL o919))) (bN o215 (bN o343 (bM o599 (bL o1111)) (bL o855)) (bN o471 (bL o727) (bL o983)))) (bN o119 (bN o183 (bN o311 (bM o567 (bL o1079)) (bL o823)) (bN o439 (bL o695) (bL o951))) (bN o247 (bN o375 (bM o631 (bL o1143)) (bL o887)) (bN o503 (bL o759) (bL o1015))))))) (bN o11 (bN o19 (bN o35 (bN o67 (bN o131 (bN o259 (bM o515 (bL o1027)) (bL o771)) (bN o387 (bM o643 (bL o1155)) (bL o899))) (bN o195 (bN o323 (bM o579 (bL o1091)) (bL o835)) (bN o451 (bL o707) (bL o963)))) (bN o99 (bN o163 (bN o291 (bM o547 (bL o1059)) (bL o803)) (bN o419 (bL o675) (bL o931))) (bN o227 (bN o355 (bM o611 (bL o1123)) (bL o867)) (bN o483 (bL o739) (bL o995))))) (bN o51 (bN o83 (bN o147 (bN o275 (bM o531 (bL o1043)) (bL o787)) (bN o403 (bM o659 (bL o1171)) (bL o915))) (bN o211 (bN o339 (bM o595 (bL o1107)) (bL o851)) (bN o467 (bL o723) (bL o979)))) (bN o115 (bN o179 (bN o307 (bM o563 (bL o1075)) (bL o819)) (bN o435 (bL o691) (bL o947))) (bN o243 (bN o371 (bM o627 (bL o1139)) (bL o883)) (bN o499 (bL o755) (bL o1011)))))) (bN o27 (bN o43 (bN o75 (bN o139 (bN o267 (bM o523 (bL o1035)) (bL o779)) (bN o395 (bM o651 (bL o1163)) (bL o907))) (bN o203 (bN o331 (bM o587 (bL o1099)) (bL o843)) (bN o459 (bL o715) (bL o971)))) (bN o107 (bN o171 (bN o299 (bM o555 (bL o1067)) (bL o811)) (bN o427 (bL o683) (bL o939))) (bN o235 (bN o363 (bM o619 (bL o1131)) (bL o875)) (bN o491 (bL o747) (bL o1003))))) (bN o59 (bN o91 (bN o155 (bN o283 (bM o539 (bL o1051)) (bL o795)) (bN o411 (bM o667 (bL o1179)) (bL o923))) (bN o219 (bN o347 (bM o603 (bL o1115)) (bL o859)) (bN o475 (bL o731) (bL o987)))) (bN o123 (bN o187 (bN o315 (bM o571 (bL o1083)) (bL o827)) (bN o443 (bL o699) (bL o955))) (bN o251 (bN o379 (bM o635 (bL o1147)) (bL o891)) (bN o507 (bL o763) (bL o1019)))))))) (bN o5 (bN o9 (bN o17 (bN o33 (bN o65 (bN o129 (bN o257 (bM o513 (bL o1025)) (bL o769)) (bN o385 (bM o641 (bL o1153)) (bL o897))) (bN o193 (bN o321 (bM o577 (bL o1089)) (bL o833)) (bN o449 (bL o705) (bL o961)))) (bN o97 (bN o161 (bN o289 (bM o545 (bL o1057)) (bL o801)) (bN o417 (bL o673) (bL o929))) (bN o225 (bN o353 (bM o609 (bL o1121)) (bL o865)) (bN o481 (bL o737) (bL o993))))) (bN o49 (bN o81 (bN o145 (bN o273 (bM o529 (bL o1041)) (bL o785)) (bN o401 (bM o657 (bL o1169)) (bL o913))) (bN o209 (bN o337 (bM o593 (bL o1105)) (bL o849)) (bN o465 (bL o721) (bL o977)))) (bN o113 (bN o177 (bN o305 (bM o561 (bL o1073)) (bL o817)) (bN o433 (bL o689) (bL o945))) (bN o241 (bN o369 (bM o625 (bL o1137)) (bL o881)) (bN o497 (bL o753) (bL o1009)))))) (bN o25 (bN o41 (bN o73 (bN o137 (bN o265 (bM o521 (bL o1033)) (bL o777)) (bN o393 (bM o649 (bL o1161)) (bL o905))) (bN o201 (bN o329 (bM o585 (bL o1097)) (bL o841)) (bN o457 (bL o713) (bL o969)))) (bN o105 (bN o169 (bN o297 (bM o553 (bL o1065)) (bL o809)) (bN o425 (bL o681) (bL o937))) (bN o233 (bN o361 (bM o617 (bL o1129)) (bL o873)) (bN o489 (bL o745) (bL o1001))))) (bN o57 (bN o89 (bN o153 (bN o281 (bM o537 (bL o1049)) (bL o793)) (bN o409 (bM o665 (bL o1177)) (bL o921))) (bN o217 (bN o345 (bM o601 (bL o1113)) (bL o857)) (bN o473 (bL o729) (bL o985)))) (bN o121 (bN o185 (bN o313 (bM o569 (bL o1081)) (bL o825)) (bN o441 (bL o697) (bL o953))) (bN o249 (bN o377 (bM o633 (bL o1145)) (bL o889)) (bN o505 (bL o761) (bL o1017))))))) (bN o13 (bN o21 (bN o37 (bN o69 (bN o133 (bN o261 (bM o517 (bL o1029)) (bL o773)) (bN o389 (bM o645 (bL o1157)) (bL o901))) (bN o197 (bN o325 (bM o581 (bL o1093)) (bL o837)) (bN o453 (bL o709) (bL o965)))) (bN o101 (bN o165 (bN o293 (bM o549 (bL o1061)) (bL o805)) (bN o421 (bL o677) (bL o933))) (bN o229 (bN o357 (bM o613 (bL o1125)) (bL o869)) (bN o485 (bL o741) (bL o997))))) (bN o53 (bN o85 (bN o149 (bN o277 (bM o533 (bL o1045)) (bL o789)) (bN o405 (bM o661 (bL o1173)) (bL o917))) (bN o213 (bN o341 (bM o597 (bL o1109)) (bL o853)) (bN o469 (bL o725) (bL o981)))) (bN o117 (bN o181 (bN o309 (bM o565 (bL o1077)) (bL o821)) (bN o437 (bL o693) (bL o949))) (bN o245 (bN o373 (bM o629 (bL o1141)) (bL o885)) (bN o501 (bL o757) (bL o1013)))))) (bN o29 (bN o45 (bN o77 (bN o141 (bN o269 (bM o525 (bL o1037)) (bL o781)) (bN o397 (bM o653 (bL o1165)) (bL o909))) (bN o205 (bN o333 (bM o589 (bL o1101)) (bL o845)) (bN o461 (bL o717) (bL o973)))) (bN o109 (bN o173 (bN o301 (bM o557 (bL o1069)) (bL o813)) (bN o429 (bL o685) (bL o941))) (bN o237 (bN o365 (bM o621 (bL o1133)) (bL o877)) (bN o493 (bL o749) (bL o1005))))) (bN o61 (bN o93 (bN o157 (bN o285 (bM o541 (bL o1053)) (bL o797)) (bN o413 (bL o669) (bL o925))) (bN o221 (bN o349 (bM o605 (bL o1117)) (bL o861)) (bN o477 (bL o733) (bL o989)))) (bN o125 (bN o189 (bN o317 (bM o573 (bL o1085)) (bL o829)) (bN o445 (bL o701) (bL o957))) (bN o253 (bN o381 (bM o637 (bL o1149)) (bL o893)) (bN o509 (bL o765) (bL o1021))))))))) (bN o2 (bN o4 (bN o8 (bN o16 (bN o32 (bN o64 (bN o128 (bN o256 (bM o512 (bL o1024)) (bL o768)) (bN o384 (bM o640 (bL o1152)) (bL o896))) (bN o192 (bN o320 (bM o576 (bL o1088)) (bL o832)) (bN o448 (bL o704) (bL o960)))) (bN o96 (bN o160 (bN o288 (bM o544 (bL o1056)) (bL o800)) (bN o416 (bL o672) (bL o928))) (bN o224 (bN o352 (bM o608 (bL o1120)) (bL o864)) (bN o480 (bL o736) (bL o992))))) (bN o48 (bN o80 (bN o144 (bN o272 (bM o528 (bL o1040)) (bL o784)) (bN o400 (bM o656 (bL o1168)) (bL o912))) (bN o208 (bN o336 (bM o592 (bL o1104)) (bL o848)) (bN o464 (bL o720) (bL o976)))) (bN o112 (bN o176 (bN o304 (bM o560 (bL o1072)) (bL o816)) (bN o432 (bL o688) (bL o944))) (bN o240 (bN o368 (bM o624 (bL o1136)) (bL o880)) (bN o496 (bL o752) (bL o1008)))))) (bN o24 (bN o40 (bN o72 (bN o136 (bN o264 (bM o520 (bL o1032)) (bL o776)) (bN o392 (bM o648 (bL o1160)) (bL o904))) (bN o200 (bN o328 (bM o584 (bL o1096)) (bL o840)) (bN o456 (bL o712) (bL o968)))) (bN o104 (bN o168 (bN o296 (bM o552 (bL o1064)) (bL o808)) (bN o424 (bL o680) (bL o936))) (bN o232 (bN o360 (bM o616 (bL o1128)) (bL o872)) (bN o488 (bL o744) (bL o1000))))) (bN o56 (bN o88 (bN o152 (bN o280 (bM o536 (bL o1048)) (bL o792)) (bN o408 (bM o664 (bL o1176)) (bL o920))) (bN o216 (bN o344 (bM o600 (bL o1112)) (bL o856)) (bN o472 (bL o728) (bL o984)))) (bN o120 (bN o184 (bN o312 (bM o568 (bL o1080)) (bL o824)) (bN o440 (bL o696) (bL o952))) (bN o248 (bN o376 (bM o632 (bL o1144)) (bL o888)) (bN o504 (bL o760) (bL o1016))))))) (bN x19v12 (bN o20 (bN o36 (bN o68 (bN o132 (bN o260 (bM o516 (bL o1028)) (bL o772)) (bN o388 (bM o644 (bL o1156)) (bL o900))) (bN o196 (bN o324 (bM o580 (bL o1092)) (bL o836)) (bN o452 (bL o708) (bL o964)))) (bN o100 (bN o164 (bN o292 (bM o548 (bL o1060)) (bL o804)) (bN o420 (bL o676) (bL o932))) (bN o228 (bN o356 (bM o612 (bL o1124)) (bL o868)) (bN o484 (bL o740) (bL o996))))) (bN o52 (bN o84 (bN o148 (bN o276 (bM o532 (bL o1044)) (bL o788)) (bN o404 (bM o660 (bL o1172)) (bL o916))) (bN o212 (bN o340 (bM o596 (bL o1108)) (bL o852)) (bN o468 (bL o724) (bL o980)))) (bN o116 (bN o180 (bN o308 (bM o564 (bL o1076)) (bL o820)) (bN o436 (bL o692) (bL o948))) (bN o244 (bN o372 (bM o628 (bL o1140)) (bL o884)) (bN o500 (bL o756) (bL o1012)))))) (bN o28 (bN o44 (bN o76 (bN o140 (bN o268 (bM o524 (bL o1036)) (bL o780)) (bN o396 (bM o652 (bL o1164)) (bL o908))) (bN o204 (bN o332 (bM o588 (bL o1100)) (bL o844)) (bN o460 (bL o716) (bL o972)))) (bN o108 (bN o172 (bN o300 (bM o556 (bL o1068)) (bL o812)) (bN o428 (bL o684) (bL o940))) (bN o236 (bN o364 (bM o620 (bL o1132)) (bL o876)) (bN o492 (bL o748) (bL o1004))))) (bN o60 (bN o92 (bN o156 (bN o284 (bM o540 (bL o1052)) (bL o796)) (bN o412 (bL o668) (bL o924))) (bN o220 (bN o348 (bM o604 (bL o1116)) (bL o860)) (bN o476 (bL o732) (bL o988)))) (bN o124 (bN o188 (bN o316 (bM o572 (bL o1084)) (bL o828)) (bN o444 (bL o700) (bL o956))) (bN o252 (bN o380 (bM o636 (bL o1148)) (bL o892)) (bN o508 (bL o764) (bL o1020)))))))) (bN o6 (bN o10 (bN o18 (bN o34 (bN o66 (bN o130 (bN o258 (bM o514 (bL o1026)) (bL o770)) (bN o386 (bM o642 (bL o1154)) (bL o898))) (bN o194 (bN o322 (bM o578 (bL o1090)) (bL o834)) (bN o450 (bL o706) (bL o962)))) (bN o98 (bN o162 (bN o290 (bM o546 (bL o1058)) (bL o802)) (bN o418 (bL o674) (bL o930))) (bN o226 (bN o354 (bM o610 (bL o1122)) (bL o866)) (bN o482 (bL o738) (bL o994))))) (bN o50 (bN o82 (bN o146 (bN o274 (bM o530 (bL o1042)) (bL o786)) (bN o402 (bM o658 (bL o1170)) (bL o914))) (bN o210 (bN o338 (bM o594 (bL o1106)) (bL o850)) (bN o466 (bL o722) (bL o978)))) (bN o114 (bN o178 (bN o306 (bM o562 (bL o1074)) (bL o818)) (bN o434 (bL o690) (bL o946))) (bN o242 (bN o370 (bM o626 (bL o1138)) (bL o882)) (bN o498 (bL o754) (bL o1010)))))) (bN o26 (bN o42 (bN o74 (bN o138 (bN o266 (bM o522 (bL o1034)) (bL o778)) (bN o394 (bM o650 (bL o1162)) (bL o906))) (bN o202 (bN o330 (bM o586 (bL o1098)) (bL o842)) (bN o458 (bL o714) (bL o970)))) (bN o106 (bN o170 (bN o298 (bM o554 (bL o1066)) (bL o810)) (bN o426 (bL o682) (bL o938))) (bN o234 (bN o362 (bM o618 (bL o1130)) (bL o874)) (bN o490 (bL o746) (bL o1002))))) (bN o58 (bN o90 (bN o154 (bN o282 (bM o538 (bL o1050)) (bL o794)) (bN o410 (bM o666 (bL o1178)) (bL o922))) (bN o218 (bN o346 (bM o602 (bL o1114)) (bL o858)) (bN o474 (bL o730) (bL o986)))) (bN o122 (bN o186 (bN o314 (bM o570 (bL o1082)) (bL o826)) (bN o442 (bL o698) (bL o954))) (bN o250 (bN o378 (bM o634 (bL o1146)) (bL o890)) (bN o506 (bL o762) (bL o1018))))))) (bN o14 (bN o22 (bN o38 (bN o70 (bN o134 (bN o262 (bM o518 (bL o1030)) (bL o774)) (bN o390 (bM o646 (bL o1158)) (bL o902))) (bN o198 (bN o326 (bM o582 (bL o1094)) (bL o838)) (bN o454 (bL o710) (bL o966)))) (bN o102 (bN o166 (bN o294 (bM o550 (bL o1062)) (bL o806)) (bN o422 (bL o678) (bL o934))) (bN o230 (bN o358 (bM o614 (bL o1126)) (bL o870)) (bN o486 (bL o742) (bL o998))))) (bN o54 (bN o86 (bN o150 (bN o278 (bM o534 (bL o1046)) (bL o790)) (bN o406 (bM o662 (bL o1174)) (bL o918))) (bN o214 (bN o342 (bM o598 (bL o1110)) (bL o854)) (bN o470 (bL o726) (bL o982)))) (bN o118 (bN o182 (bN o310 (bM o566 (bL o1078)) (bL o822)) (bN o438 (bL o694) (bL o950))) (bN o246 (bN o374 (bM o630 (bL o1142)) (bL o886)) (bN o502 (bL o758) (bL o1014)))))) (bN o30 (bN o46 (bN o78 (bN o142 (bN o270 (bM o526 (bL o1038)) (bL o782)) (bN o398 (bM o654 (bL o1166)) (bL o910))) (bN o206 (bN o334 (bM o590 (bL o1102)) (bL o846)) (bN o462 (bL o718) (bL o974)))) (bN o110 (bN o174 (bN o302 (bM o558 (bL o1070)) (bL o814)) (bN o430 (bL o686) (bL o942))) (bN o238 (bN o366 (bM o622 (bL o1134)) (bL o878)) (bN o494 (bL o750) (bL o1006))))) (bN o62 (bN o94 (bN o158 (bN o286 (bM o542 (bL o1054)) (bL o798)) (bN o414 (bL o670) (bL o926))) (bN o222 (bN o350 (bM o606 (bL o1118)) (bL o862)) (bN o478 (bL o734) (bL o990)))) (bN o126 (bN o190 (bN o318 (bM o574 (bL o1086)) (bL o830)) (bN o446 (bL o702) (bL o958))) (bN o254 (bN o382 (bM o638 (bL o1150)) (bL o894)) (bN o510 (bL o766) (bL o1022))))))))))
noncomputable def S19 (w : World) (os : OsState) : SharedT := ⟨T19 w.params, 1180, {}, gs0, {}, 1875, os⟩
noncomputable def ss20 : List Stmt := (bE.drop 157).take 1
noncomputable def x20v3 (P : Params) : Obj := dcut P o3 155 [(0, (.str "gateloom.design" 1782))] 155
noncomputable def x20v12 (P : Params) : Obj := fcut P o12 426
noncomputable def T20 : Params → BT := (bN o0 (bN o1 (bN x20v3 (bN o7 (bN o15 (bN o31 (bN o63 (bN o127 (bN o255 (bM o511 (bL o1023)) (bL o767)) (bN o383 (bM o639 (bL o1151)) (bL o895))) (bN o191 (bN o319 (bM o575 (bL o1087)) (bL o831)) (bN o447 (bM o703 (bL o1215)) (bL o959)))) (bN o95 (bN o159 (bN o287 (bM o543 (bL o1055)) (bL o799)) (bN o415 (bM o671 (bL o1183)) (bL o927))) (bN o223 (bN o351 (bM o607 (bL o1119)) (bL o863)) (bN o479 (bL o735) (bL o991))))) (bN o47 (bN o79 (bN o143 (bN o271 (bM o527 (bL o1039)) (bL o783)) (bN o399 (bM o655 (bL o1167)) (bL o911))) (bN o207 (bN o335 (bM o591 (bL o1103)) (bL o847)) (bN o463 (bM o719 (bL o1231)) (bL o975)))) (bN o111 (bN o175 (bN o303 (bM o559 (bL o1071)) (bL o815)) (bN o431 (bM o687 (bL o1199)) (bL o943))) (bN o239 (bN o367 (bM o623 (bL o1135)) (bL o879)) (bN o495 (bL o751) (bL o1007)))))) (bN o23 (bN o39 (bN o71 (bN o135 (bN o263 (bM o519 (bL o1031)) (bL o775)) (bN o391 (bM o647 (bL o1159)) (bL o903))) (bN o199 (bN o327 (bM o583 (bL o1095)) (bL o839)) (bN o455 (bM o711 (bL o1223)) (bL o967)))) (bN o103 (bN o167 (bN o295 (bM o551 (bL o1063)) (bL o807)) (bN o423 (bM o679 (bL o1191)) (bL o935))) (bN o231 (bN o359 (bM o615 (bL o1127)) (bL o871)) (bN o487 (bL o743) (bL o999))))) (bN o55 (bN o87 (bN o151 (bN o279 (bM o535 (bL o1047)) (bL o791)) (bN o407 (bM o663 (bL o1175)) (bL o919))) (bN o215 (bN o343 (bM o599 (bL o1111)) (bL o855)) (bN o471 (bM o727 (bL o1239)) (bL o983)))) (bN o119 (bN o183 (bN o311 (bM o567 (bL o1079)) (bL o823)) (bN o439 (bM o695 (bL o1207)) (bL o951))) (bN o247 (bN o375 (bM o631 (bL o1143)) (bL o887)) (bN o503 (bL o759) (bL o1015))))))) (bN o11 (bN o19 (bN o35 (bN o67 (bN o131 (bN o259 (bM o515 (bL o1027)) (bL o771)) (bN o387 (bM o643 (bL o1155)) (bL o899))) (bN o195 (bN o323 (bM o579 (bL o1091)) (bL o835)) (bN o451 (bM o707 (bL o1219)) (bL o963)))) (bN o99 (bN o163 (bN o291 (bM o547 (bL o1059)) (bL o803)) (bN o419 (bM o675 (bL o1187)) (bL o931))) (bN o227 (bN o355 (bM o611 (bL o1123)) (bL o867)) (bN o483 (bL o739) (bL o995))))) (bN o51 (bN o83 (bN o147 (bN o275 (bM o531 (bL o1043)) (bL o787)) (bN o403 (bM o659 (bL o1171)) (bL o915))) (bN o211 (bN o339 (bM o595 (bL o1107)) (bL o851)) (bN o467 (bM o723 (bL o1235)) (bL o979)))) (bN o115 (bN o179 (bN o307 (bM o563 (bL o1075)) (bL o819)) (bN o435 (bM o691 (bL o1203)) (bL o947))) (bN o243 (bN o371 (bM o627 (bL o1139)) (bL o883)) (bN o499 (bL o755) (bL o1011)))))) (bN o27 (bN o43 (bN o75 (bN o139 (bN o267 (bM o523 (bL o1035)) (bL o779)) (bN o395 (bM o651 (bL o1163)) (bL o907))) (bN o203 (bN o331 (bM o587 (bL o1099)) (bL o843)) (bN o459 (bM o715 (bL o1227)) (bL o971)))) (bN o107 (bN o171 (bN o299 (bM o555 (bL o1067)) (bL o811)) (bN o427 (bM o683 (bL o1195)) (bL o939))) (bN o235 (bN o363 (bM o619 (bL o1131)) (bL o875)) (bN o491 (bL o747) (bL o1003))))) (bN o59 (bN o91 (bN o155 (bN o283 (bM o539 (bL o1051)) (bL o795)) (bN o411 (bM o667 (bL o1179)) (bL o923))) (bN o219 (bN o347 (bM o603 (bL o1115)) (bL o859)) (bN o475 (bL o731) (bL o987)))) (bN o123 (bN o187 (bN o315 (bM o571 (bL o1083)) (bL o827)) (bN o443 (bM o699 (bL o1211)) (bL o955))) (bN o251 (bN o379 (bM o635 (bL o1147)) (bL o891)) (bN o507 (bL o763) (bL o1019)))))))) (bN o5 (bN o9 (bN o17 (bN o33 (bN o65 (bN o129 (bN o257 (bM o513 (bL o1025)) (bL o769)) (bN o385 (bM o641 (bL o1153)) (bL o897))) (bN o193 (bN o321 (bM o577 (bL o1089)) (bL o833)) (bN o449 (bM o705 (bL o1217)) (bL o961)))) (bN o97 (bN o161 (bN o289 (bM o545 (bL o1057)) (bL o801)) (bN o417 (bM o673 (bL o1185)) (bL o929))) (bN o225 (bN o353 (bM o609 (bL o1121)) (bL o865)) (bN o481 (bL o737) (bL o993))))) (bN o49 (bN o81 (bN o145 (bN o273 (bM o529 (bL o1041)) (bL o785)) (bN o401 (bM o657 (bL o1169)) (bL o913))) (bN o209 (bN o337 (bM o593 (bL o1105)) (bL o849)) (bN o465 (bM o721 (bL o1233)) (bL o977)))) (bN o113 (bN o177 (bN o305 (bM o561 (bL o1073)) (bL o817)) (bN o433 (bM o689 (bL o1201)) (bL o945))) (bN o241 (bN o369 (bM o625 (bL o1137)) (bL o881)) (bN o497 (bL o753) (bL o1009)))))) (bN o25 (bN o41 (bN o73 (bN o137 (bN o265 (bM o521 (bL o1033)) (bL o777)) (bN o393 (bM o649 (bL o1161)) (bL o905))) (bN o201 (bN o329 (bM o585 (bL o1097)) (bL o841)) (bN o457 (bM o713 (bL o1225)) (bL o969)))) (bN o105 (bN o169 (bN o297 (bM o553 (bL o1065)) (bL o809)) (bN o425 (bM o681 (bL o1193)) (bL o937))) (bN o233 (bN o361 (bM o617 (bL o1129)) (bL o873)) (bN o489 (bL o745) (bL o1001))))) (bN o57 (bN o89 (bN o153 (bN o281 (bM o537 (bL o1049)) (bL o793)) (bN o409 (bM o665 (bL o1177)) (bL o921))) (bN o217 (bN o345 (bM o601 (bL o1113)) (bL o857)) (bN o473 (bM o729 (bL o1241)) (bL o985)))) (bN o121 (bN o185 (bN o313 (bM o569 (bL o1081)) (bL o825)) (bN o441 (bM o697 (bL o1209)) (bL o953))) (bN o249 (bN o377 (bM o633 (bL o1145)) (bL o889)) (bN o505 (bL o761) (bL o1017))))))) (bN o13 (bN o21 (bN o37 (bN o69 (bN o133 (bN o261 (bM o517 (bL o1029)) (bL o773)) (bN o389 (bM o645 (bL o1157)) (bL o901))) (bN o197 (bN o325 (bM o581 (bL o1093)) (bL o837)) (bN o453 (bM o709 (bL o1221)) (bL o965)))) (bN o101 (bN o165 (bN o293 (bM o549 (bL o1061)) (bL o805)) (bN o421 (bM o677 (bL o1189)) (bL o933))) (bN o229 (bN o357 (bM o613 (bL o1125)) (bL o869)) (bN o485 (bL o741) (bL o997))))) (bN o53 (bN o85 (bN o149 (bN o277 (bM o533 (bL o1045)) (bL o789)) (bN o405 (bM o661 (bL o1173)) (bL o917))) (bN o213 (bN o341 (bM o597 (bL o1109)) (bL o853)) (bN o469 (bM o725 (bL o1237)) (bL o981)))) (bN o117 (bN o181 (bN o309 (bM o565 (bL o1077)) (bL o821)) (bN o437 (bM o693 (bL o1205)) (bL o949))) (bN o245 (bN o373 (bM o629 (bL o1141)) (bL o885)) (bN o501 (bL o757) (bL o1013)))))) (bN o29 (bN o45 (bN o77 (bN o141 (bN o269 (bM o525 (bL o1037)) (bL o781)) (bN o397 (bM o653 (bL o1165)) (bL o909))) (bN o205 (bN o333 (bM o589 (bL o1101)) (bL o845)) (bN o461 (bM o717 (bL o1229)) (bL o973)))) (bN o109 (bN o173 (bN o301 (bM o557 (bL o1069)) (bL o813)) (bN o429 (bM o685 (bL o1197)) (bL o941))) (bN o237 (bN o365 (bM o621 (bL o1133)) (bL o877)) (bN o493 (bL o749) (bL o1005))))) (bN o61 (bN o93 (bN o157 (bN o285 (bM o541 (bL o1053)) (bL o797)) (bN o413 (bM o669 (bL o1181)) (bL o925))) (bN o221 (bN o349 (bM o605 (bL o1117)) (bL o861)) (bN o477 (bL o733) (bL o989)))) (bN o125 (bN o189 (bN o317 (bM o573 (bL o1085)) (bL o829)) (bN o445 (bM o701 (bL o1213)) (bL o957))) (bN o253 (bN o381 (bM o637 (bL o1149)) (bL o893)) (bN o509 (bL o765) (bL o1021))))))))) (bN o2 (bN o4 (bN o8 (bN o16 (bN o32 (bN o64 (bN o128 (bN o256 (bM o512 (bL o1024)) (bL o768)) (bN o384 (bM o640 (bL o1152)) (bL o896))) (bN o192 (bN o320 (bM o576 (bL o1088)) (bL o832)) (bN o448 (bM o704 (bL o1216)) (bL o960)))) (bN o96 (bN o160 (bN o288 (bM o544 (bL o1056)) (bL o800)) (bN o416 (bM o672 (bL o1184)) (bL o928))) (bN o224 (bN o352 (bM o608 (bL o1120)) (bL o864)) (bN o480 (bL o736) (bL o992))))) (bN o48 (bN o80 (bN o144 (bN o272 (bM o528 (bL o1040)) (bL o784)) (bN o400 (bM o656 (bL o1168)) (bL o912))) (bN o208 (bN o336 (bM o592 (bL o1104)) (bL o848)) (bN o464 (bM o720 (bL o1232)) (bL o976)))) (bN o112 (bN o176 (bN o304 (bM o560 (bL o1072)) (bL o816)) (bN o432 (bM o688 (bL o1200)) (bL o944))) (bN o240 (bN o368 (bM o624 (bL o1136)) (bL o880)) (bN o496 (bL o752) (bL o1008)))))) (bN o24 (bN o40 (bN o72 (bN o136 (bN o264 (bM o520 (bL o1032)) (bL o776)) (bN o392 (bM o648 (bL o1160)) (bL o904))) (bN o200 (bN o328 (bM o584 (bL o1096)) (bL o840)) (bN o456 (bM o712 (bL o1224)) (bL o968)))) (bN o104 (bN o168 (bN o296 (bM o552 (bL o1064)) (bL o808)) (bN o424 (bM o680 (bL o1192)) (bL o936))) (bN o232 (bN o360 (bM o616 (bL o1128)) (bL o872)) (bN o488 (bL o744) (bL o1000))))) (bN o56 (bN o88 (bN o152 (bN o280 (bM o536 (bL o1048)) (bL o792)) (bN o408 (bM o664 (bL o1176)) (bL o920))) (bN o216 (bN o344 (bM o600 (bL o1112)) (bL o856)) (bN o472 (bM o728 (bL o1240)) (bL o984)))) (bN o120 (bN o184 (bN o312 (bM o568 (bL o1080)) (bL o824)) (bN o440 (bM o696 (bL o1208)) (bL o952))) (bN o248 (bN o376 (bM o632 (bL o1144)) (bL o888)) (bN o504 (bL o760) (bL o1016))))))) (bN x20v12 (bN o20 (bN o36 (bN o68 (bN o132 (bN o260 (bM o516 (bL o1028)) (bL o772)) (bN o388 (bM o644 (bL o1156)) (bL o900))) (bN o196 (bN o324 (bM o580 (bL o1092)) (bL o836)) (bN o452 (bM o708 (bL o1220)) (bL o964)))) (bN o100 (bN o164 (bN o292 (bM o548 (bL o1060)) (bL o804)) (bN o420 (bM o676 (bL o1188)) (bL o932))) (bN o228 (bN o356 (bM o612 (bL o1124)) (bL o868)) (bN o484 (bL o740) (bL o996))))) (bN o52 (bN o84 (bN o148 (bN o276 (bM o532 (bL o1044)) (bL o788)) (bN o404 (bM o660 (bL o1172)) (bL o916))) (bN o212 (bN o340 (bM o596 (bL o1108)) (bL o852)) (bN o468 (bM o724 (bL o1236)) (bL o980)))) (bN o116 (bN o180 (bN o308 (bM o564 (bL o1076)) (bL o820)) (bN o436 (bM o692 (bL o1204)) (bL o948))) (bN o244 (bN o372 (bM o628 (bL o1140)) (bL o884)) (bN o500 (bL o756) (bL o1012)))))) (bN o28 (bN o44 (bN o76 (bN o140 (bN o268 (bM o524 (bL o1036)) (bL o780)) (bN o396 (bM o652 (bL o1164)) (bL o908))) (bN o204 (bN o332 (bM o588 (bL o1100)) (bL o844)) (bN o460 (bM o716 (bL o1228)) (bL o972)))) (bN o108 (bN o172 (bN o300 (bM o556 (bL o1068)) (bL o812)) (bN o428 (bM o684 (bL o1196)) (bL o940))) (bN o236 (bN o364 (bM o620 (bL o1132)) (bL o876)) (bN o492 (bL o748) (bL o1004))))) (bN o60 (bN o92 (bN o156 (bN o284 (bM o540 (bL o1052)) (bL o796)) (bN o412 (bM o668 (bL o1180)) (bL o924))) (bN o220 (bN o348 (bM o604 (bL o1116)) (bL o860)) (bN o476 (bL o732) (bL o988)))) (bN o124 (bN o188 (bN o316 (bM o572 (bL o1084)) (bL o828)) (bN o444 (bM o700 (bL o1212)) (bL o956))) (bN o252 (bN o380 (bM o636 (bL o1148)) (bL o892)) (bN o508 (bL o764) (bL o1020)))))))) (bN o6 (bN o10 (bN o18 (bN o34 (bN o66 (bN o130 (bN o258 (bM o514 (bL o1026)) (bL o770)) (bN o386 (bM o642 (bL o1154)) (bL o898))) (bN o194 (bN o322 (bM o578 (bL o1090)) (bL o834)) (bN o450 (bM o706 (bL o1218)) (bL o962)))) (bN o98 (bN o162 (bN o290 (bM o546 (bL o1058)) (bL o802)) (bN o418 (bM o674 (bL o1186)) (bL o930))) (bN o226 (bN o354 (bM o610 (bL o1122)) (bL o866)) (bN o482 (bL o738) (bL o994))))) (bN o50 (bN o82 (bN o146 (bN o274 (bM o530 (bL o1042)) (bL o786)) (bN o402 (bM o658 (bL o1170)) (bL o914))) (bN o210 (bN o338 (bM o594 (bL o1106)) (bL o850)) (bN o466 (bM o722 (bL o1234)) (bL o978)))) (bN o114 (bN o178 (bN o306 (bM o562 (bL o1074)) (bL o818)) (bN o434 (bM o690 (bL o1202)) (bL o946))) (bN o242 (bN o370 (bM o626 (bL o1138)) (bL o882)) (bN o498 (bL o754) (bL o1010)))))) (bN o26 (bN o42 (bN o74 (bN o138 (bN o266 (bM o522 (bL o1034)) (bL o778)) (bN o394 (bM o650 (bL o1162)) (bL o906))) (bN o202 (bN o330 (bM o586 (bL o1098)) (bL o842)) (bN o458 (bM o714 (bL o1226)) (bL o970)))) (bN o106 (bN o170 (bN o298 (bM o554 (bL o1066)) (bL o810)) (bN o426 (bM o682 (bL o1194)) (bL o938))) (bN o234 (bN o362 (bM o618 (bL o1130)) (bL o874)) (bN o490 (bL o746) (bL o1002))))) (bN o58 (bN o90 (bN o154 (bN o282 (bM o538 (bL o1050)) (bL o794)) (bN o410 (bM o666 (bL o1178)) (bL o922))) (bN o218 (bN o346 (bM o602 (bL o1114)) (bL o858)) (bN o474 (bM o730 (bL o1242)) (bL o986)))) (bN o122 (bN o186 (bN o314 (bM o570 (bL o1082)) (bL o826)) (bN o442 (bM o698 (bL o1210)) (bL o954))) (bN o250 (bN o378 (bM o634 (bL o1146)) (bL o890)) (bN o506 (bL o762) (bL o1018))))))) (bN o14 (bN o22 (bN o38 (bN o70 (bN o134 (bN o262 (bM o518 (bL o1030)) (bL o774)) (bN o390 (bM o646 (bL o1158)) (bL o902))) (bN o198 (bN o326 (bM o582 (bL o1094)) (bL o838)) (bN o454 (bM o710 (bL o1222)) (bL o966)))) (bN o102 (bN o166 (bN o294 (bM o550 (bL o1062)) (bL o806)) (bN o422 (bM o678 (bL o1190)) (bL o934))) (bN o230 (bN o358 (bM o614 (bL o1126)) (bL o870)) (bN o486 (bL o742) (bL o998))))) (bN o54 (bN o86 (bN o150 (bN o278 (bM o534 (bL o1046)) (bL o790)) (bN o406 (bM o662 (bL o1174)) (bL o918))) (bN o214 (bN o342 (bM o598 (bL o1110)) (bL o854)) (bN o470 (bM o726 (bL o1238)) (bL o982)))) (bN o118 (bN o182 (bN o310 (bM o566 (bL o1078)) (bL o822)) (bN o438 (bM o694 (bL o1206)) (bL o950))) (bN o246 (bN o374 (bM o630 (bL o1142)) (bL o886)) (bN o502 (bL o758) (bL o1014)))))) (bN o30 (bN o46 (bN o78 (bN o142 (bN o270 (bM o526 (bL o1038)) (bL o782)) (bN o398 (bM o654 (bL o1166)) (bL o910))) (bN o206 (bN o334 (bM o590 (bL o1102)) (bL o846)) (bN o462 (bM o718 (bL o1230)) (bL o974)))) (bN o110 (bN o174 (bN o302 (bM o558 (bL o1070)) (bL o814)) (bN o430 (bM o686 (bL o1198)) (bL o942))) (bN o238 (bN o366 (bM o622 (bL o1134)) (bL o878)) (bN o494 (bL o750) (bL o1006))))) (bN o62 (bN o94 (bN o158 (bN o286 (bM o542 (bL o1054)) (bL o798)) (bN o414 (bM o670 (bL o1182)) (bL o926))) (bN o222 (bN o350 (bM o606 (bL o1118)) (bL o862)) (bN o478 (bL o734) (bL o990)))) (bN o126 (bN o190 (bN o318 (bM o574 (bL o1086)) (bL o830)) (bN o446 (bM o702 (bL o1214)) (bL o958))) (bN o254 (bN o382 (bM o638 (bL o1150)) (bL o894)) (bN o510 (bL o766) (bL o1022))))))))))
noncomputable def S20 (w : World) (os : OsState) : SharedT := ⟨T20 w.params, 1243, {}, gs0, {}, 1976, os⟩
noncomputable def ss21 : List Stmt := (bE.drop 158).take 1
noncomputable def x21v3 (P : Params) : Obj := dcut P o3 155 [(0, (.str "gateloom.scopes" 1976))] 155
noncomputable def x21v12 (P : Params) : Obj := fcut P o12 426
noncomputable def T21 : Params → BT := (bN o0 (bN o1 (bN x21v3 (bN o7 (bN o15 (bN o31 (bN o63 (bN o127 (bN o255 (bM o511 (bL o1023)) (bL o767)) (bN o383 (bM o639 (bL o1151)) (bL o895))) (bN o191 (bN o319 (bM o575 (bL o1087)) (bL o831)) (bN o447 (bM o703 (bL o1215)) (bL o959)))) (bN o95 (bN o159 (bN o287 (bM o543 (bL o1055)) (bL o799)) (bN o415 (bM o671 (bL o1183)) (bL o927))) (bN o223 (bN o351 (bM o607 (bL o1119)) (bL o863)) (bN o479 (bL o735) (bL o991))))) (bN o47 (bN o79 (bN o143 (bN o271 (bM o527 (bL o1039)) (bL o783)) (bN o399 (bM o655 (bL o1167)) (bL o911))) (bN o207 (bN o335 (bM o591 (bL o1103)) (bL o847)) (bN o463 (bM o719 (bL o1231)) (bL o975)))) (bN o111 (bN o175 (bN o303 (bM o559 (bL o1071)) (bL o815)) (bN o431 (bM o687 (bL o1199)) (bL o943))) (bN o239 (bN o367 (bM o623 (bL o1135)) (bL o879)) (bN o495 (bL o751) (bL o1007)))))) (bN o23 (bN o39 (bN o71 (bN o135 (bN o263 (bM o519 (bL o1031)) (bL o775)) (bN o391 (bM o647 (bL o1159)) (bL o903))) (bN o199 (bN o327 (bM o583 (bL o1095)) (bL o839)) (bN o455 (bM o711 (bL o1223)) (bL o967)))) (bN o103 (bN o167 (bN o295 (bM o551 (bL o1063)) (bL o807)) (bN o423 (bM o679 (bL o1191)) (bL o935))) (bN o231 (bN o359 (bM o615 (bL o1127)) (bL o871)) (bN o487 (bL o743) (bL o999))))) (bN o55 (bN o87 (bN o151 (bN o279 (bM o535 (bL o1047)) (bL o791)) (bN o407 (bM o663 (bL o1175)) (bL o919))) (bN o215 (bN o343 (bM o599 (bL o1111)) (bL o855)) (bN o471 (bM o727 (bL o1239)) (bL o983)))) (bN o119 (bN o183 (bN o311 (bM o567 (bL o1079)) (bL o823)) (bN o439 (bM o695 (bL o1207)) (bL o951))) (bN o247 (bN o375 (bM o631 (bL o1143)) (bL o887)) (bN o503 (bL o759) (bL o1015))))))) (bN o11 (bN o19 (bN o35 (bN o67 (bN o131 (bN o259 (bM o515 (bL o1027)) (bL o771)) (bN o387 (bM o643 (bL o1155)) (bL o899))) (bN o195 (bN o323 (bM o579 (bL o1091)) (bL o835)) (bN o451 (bM o707 (bL o1219)) (bL o963)))) (bN o99 (bN o163 (bN o291 (bM o547 (bL o1059)) (bL o803)) (bN o419 (bM o675 (bL o1187)) (bL o931))) (bN o227 (bN o355 (bM o611 (bL o1123)) (bL o867)) (bN o483 (bL o739) (bL o995))))) (bN o51 (bN o83 (bN o147 (bN o275 (bM o531 (bL o1043)) (bL o787)) (bN o403 (bM o659 (bL o1171)) (bL o915))) (bN o211 (bN o339 (bM o595 (bL o1107)) (bL o851)) (bN o467 (bM o723 (bL o1235)) (bL o979)))) (bN o115 (bN o179 (bN o307 (bM o563 (bL o1075)) (bL o819)) (bN o435 (bM o691 (bL o1203)) (bL o947))) (bN o243 (bN o371 (bM o627 (bL o1139)) (bL o883)) (bN o499 (bL o755) (bL o1011)))))) (bN o27 (bN o43 (bN o75 (bN o139 (bN o267 (bM o523 (bL o1035)) (bL o779)) (bN o395 (bM o651 (bL o1163)) (bL o907))) (bN o203 (bN o331 (bM o587 (bL o1099)) (bL o843)) (bN o459 (bM o715 (bL o1227)) (bL o971)))) (bN o107 (bN o171 (bN o299 (bM o555 (bL o1067)) (bL o811)) (bN o427 (bM o683 (bL o1195)) (bL o939))) (bN o235 (bN o363 (bM o619 (bL o1131)) (bL o875)) (bN o491 (bL o747) (bL o1003))))) (bN o59 (bN o91 (bN o155 (bN o283 (bM o539 (bL o1051)) (bL o795)) (bN o411 (bM o667 (bL o1179)) (bL o923))) (bN o219 (bN o347 (bM o603 (bL o1115)) (bL o859)) (bN o475 (bL o731) (bL o987)))) (bN o123 (bN o187 (bN o315 (bM o571 (bL o1083)) (bL o827)) (bN o443 (bM o699 (bL o1211)) (bL o955))) (bN o251 (bN o379 (bM o635 (bL o1147)) (bL o891)) (bN o507 (bL o763) (bL o1019)))))))) (bN o5 (bN o9 (bN o17 (bN o33 (bN o65 (bN o129 (bN o257 (bM o513 (bL o1025)) (bL o769)) (bN o385 (bM o641 (bL o1153)) (bL o897))) (bN o193 (bN o321 (bM o577 (bL o1089)) (bL o833)) (bN o449 (bM o705 (bL o1217)) (bL o961)))) (bN o97 (bN o161 (bN o289 (bM o545 (bL o1057)) (bL o801)) (bN o417 (bM o673 (bL o1185)) (bL o929))) (bN o225 (bN o353 (bM o609 (bL o1121)) (bL o865)) (bN o481 (bL o737) (bL o993))))) (bN o49 (bN o81 (bN o145 (bN o273 (bM o529 (bL o1041)) (bL o785)) (bN o401 (bM o657 (bL o1169)) (bL o913))) (bN o209 (bN o337 (bM o593 (bL o1105)) (bL o849)) (bN o465 (bM o721 (bL o1233)) (bL o977)))) (bN o113 (bN o177 (bN o305 (bM o561 (bL o1073)) (bL o817)) (bN o433 (bM o689 (bL o1201)) (bL o945))) (bN o241 (bN o369 (bM o625 (bL o1137)) (bL o881)) (bN o497 (bL o753) (bL o1009)))))) (bN o25 (bN o41 (bN o73 (bN o137 (bN o265 (bM o521 (bL o1033)) (bL o777)) (bN o393 (bM o649 (bL o1161)) (bL o905))) (bN o201 (bN o329 (bM o585 (bL o1097)) (bL o841)) (bN o457 (bM o713 (bL o1225)) (bL o969)))) (bN o105 (bN o169 (bN o297 (bM o553 (bL o1065)) (bL o809)) (bN o425 (bM o681 (bL o1193)) (bL o937))) (bN o233 (bN o361 (bM o617 (bL o1129)) (bL o873)) (bN o489 (bL o745) (bL o1001))))) (bN o57 (bN o89 (bN o153 (bN o281 (bM o537 (bL o1049)) (bL o793)) (bN o409 (bM o665 (bL o1177)) (bL o921))) (bN o217 (bN o345 (bM o601 (bL o1113)) (bL o857)) (bN o473 (bM o729 (bL o1241)) (bL o985)))) (bN o121 (bN o185 (bN o313 (bM o569 (bL o1081)) (bL o825)) (bN o441 (bM o697 (bL o1209)) (bL o953))) (bN o249 (bN o377 (bM o633 (bL o1145)) (bL o889)) (bN o505 (bL o761) (bL o1017))))))) (bN o13 (bN o21 (bN o37 (bN o69 (bN o133 (bN o261 (bM o517 (bL o1029)) (bL o773)) (bN o389 (bM o645 (bL o1157)) (bL o901))) (bN o197 (bN o325 (bM o581 (bL o1093)) (bL o837)) (bN o453 (bM o709 (bL o1221)) (bL o965)))) (bN o101 (bN o165 (bN o293 (bM o549 (bL o1061)) (bL o805)) (bN o421 (bM o677 (bL o1189)) (bL o933))) (bN o229 (bN o357 (bM o613 (bL o1125)) (bL o869)) (bN o485 (bL o741) (bL o997))))) (bN o53 (bN o85 (bN o149 (bN o277 (bM o533 (bL o1045)) (bL o789)) (bN o405 (bM o661 (bL o1173)) (bL o917))) (bN o213 (bN o341 (bM o597 (bL o1109)) (bL o853)) (bN o469 (bM o725 (bL o1237)) (bL o981)))) (bN o117 (bN o181 (bN o309 (bM o565 (bL o1077)) (bL o821)) (bN o437 (bM o693 (bL o1205)) (bL o949))) (bN o245 (bN o373 (bM o629 (bL o1141)) (bL o885)) (bN o501 (bL o757) (bL o1013)))))) (bN o29 (bN o45 (bN o77 (bN o141 (bN o269 (bM o525 (bL o1037)) (bL o781)) (bN o397 (bM o653 (bL o1165)) (bL o909))) (bN o205 (bN o333 (bM o589 (bL o1101)) (bL o845)) (bN o461 (bM o717 (bL o1229)) (bL o973)))) (bN o109 (bN o173 (bN o301 (bM o557 (bL o1069)) (bL o813)) (bN o429 (bM o685 (bL o1197)) (bL o941))) (bN o237 (bN o365 (bM o621 (bL o1133)) (bL o877)) (bN o493 (bL o749) (bL o1005))))) (bN o61 (bN o93 (bN o157 (bN o285 (bM o541 (bL o1053)) (bL o797)) (bN o413 (bM o669 (bL o1181)) (bL o925))) (bN o221 (bN o349 (bM o605 (bL o1117)) (bL o861)) (bN o477 (bL o733) (bL o989)))) (bN o125 (bN o189 (bN o317 (bM o573 (bL o1085)) (bL o829)) (bN o445 (bM o701 (bL o1213)) (bL o957))) (bN o253 (bN o381 (bM o637 (bL o1149)) (bL o893)) (bN o509 (bL o765) (bL o1021))))))))) (bN o2 (bN o4 (bN o8 (bN o16 (bN o32 (bN o64 (bN o128 (bN o256 (bM o512 (bL o1024)) (bL o768)) (bN o384 (bM o640 (bL o1152)) (bL o896))) (bN o192 (bN o320 (bM o576 (bL o1088)) (bL o832)) (bN o448 (bM o704 (bL o1216)) (bL o960)))) (bN o96 (bN o160 (bN o288 (bM o544 (bL o1056)) (bL o800)) (bN o416 (bM o672 (bL o1184)) (bL o928))) (bN o224 (bN o352 (bM o608 (bL o1120)) (bL o864)) (bN o480 (bL o736) (bL o992))))) (bN o48 (bN o80 (bN o144 (bN o272 (bM o528 (bL o1040)) (bL o784)) (bN o400 (bM o656 (bL o1168)) (bL o912))) (bN o208 (bN o336 (bM o592 (bL o1104)) (bL o848)) (bN o464 (bM o720 (bL o1232)) (bL o976)))) (bN o112 (bN o176 (bN o304 (bM o560 (bL o1072)) (bL o816)) (bN o432 (bM o688 (bL o1200)) (bL o944))) (bN o240 (bN o368 (bM o624 (bL o1136)) (bL o880)) (bN o496 (bL o752) (bL o1008)))))) (bN o24 (bN o40 (bN o72 (bN o136 (bN o264 (bM o520 (bL o1032)) (bL o776)) (bN o392 (bM o648 (bL o1160)) (bL o904))) (bN o200 (bN o328 (bM o584 (bL o1096)) (bL o840)) (bN o456 (bM o712 (bL o1224)) (bL o968)))) (bN o104 (bN o168 (bN o296 (bM o552 (bL o1064)) (bL o808)) (bN o424 (bM o680 (bL o1192)) (bL o936))) (bN o232 (bN o360 (bM o616 (bL o1128)) (bL o872)) (bN o488 (bL o744) (bL o1000))))) (bN o56 (bN o88 (bN o152 (bN o280 (bM o536 (bL o1048)) (bL o792)) (bN o408 (bM o664 (bL o1176)) (bL o920))) (bN o216 (bN o344 (bM o600 (bL o1112)) (bL o856)) (bN o472 (bM o728 (bL o1240)) (bL o984)))) (bN o120 (bN o184 (bN o312 (bM o568 (bL o1080)) (bL o824)) (bN o440 (bM o696 (bL o1208)) (bL o952))) (bN o248 (bN o376 (bM o632 (bL o1144)) (bL o888)) (bN o504 (bL o760) (bL o1016))))))) (bN x21v12 (bN o20 (bN o36 (bN o68 (bN o132 (bN o260 (bM o516 (bL o1028)) (bL o772)) (bN o388 (bM o644 (bL o1156)) (bL o900))) (bN o196 (bN o324 (bM o580 (bL o1092)) (bL o836)) (bN o452 (bM o708 (bL o1220)) (bL o964)))) (bN o100 (bN o164 (bN o292 (bM o548 (bL o1060)) (bL o804)) (bN o420 (bM o676 (bL o1188)) (bL o932))) (bN o228 (bN o356 (bM o612 (bL o1124)) (bL o868)) (bN o484 (bL o740) (bL o996))))) (bN o52 (bN o84 (bN o148 (bN o276 (bM o532 (bL o1044)) (bL o788)) (bN o404 (bM o660 (bL o1172)) (bL o916))) (bN o212 (bN o340 (bM o596 (bL o1108)) (bL o852)) (bN o468 (bM o724 (bL o1236)) (bL o980)))) (bN o116 (bN o180 (bN o308 (bM o564 (bL o1076)) (bL o820)) (bN o436 (bM o692 (bL o1204)) (bL o948))) (bN o244 (bN o372 (bM o628 (bL o1140)) (bL o884)) (bN o500 (bL o756) (bL o1012)))))) (bN o28 (bN o44 (bN o76 (bN o140 (bN o268 (bM o524 (bL o1036)) (bL o780)) (bN o396 (bM o652 (bL o1164)) (bL o908))) (bN o204 (bN o332 (bM o588 (bL o1100)) (bL o844)) (bN o460 (bM o716 (bL o1228)) (bL o972)))) (bN o108 (bN o172 (bN o300 (bM o556 (bL o1068)) (bL o812)) (bN o428 (bM o684 (bL o1196)) (bL o940))) (bN o236 (bN o364 (bM o620 (bL o1132)) (bL o876)) (bN o492 (bL o748) (bL o1004))))) (bN o60 (bN o92 (bN o156 (bN o284 (bM o540 (bL o1052)) (bL o796)) (bN o412 (bM o668 (bL o1180)) (bL o924))) (bN o220 (bN o348 (bM o604 (bL o1116)) (bL o860)) (bN o476 (bL o732) (bL o988)))) (bN o124 (bN o188 (bN o316 (bM o572 (bL o1084)) (bL o828)) (bN o444 (bM o700 (bL o1212)) (bL o956))) (bN o252 (bN o380 (bM o636 (bL o1148)) (bL o892)) (bN o508 (bL o764) (bL o1020)))))))) (bN o6 (bN o10 (bN o18 (bN o34 (bN o66 (bN o130 (bN o258 (bM o514 (bL o1026)) (bL o770)) (bN o386 (bM o642 (bL o1154)) (bL o898))) (bN o194 (bN o322 (bM o578 (bL o1090)) (bL o834)) (bN o450 (bM o706 (bL o1218)) (bL o962)))) (bN o98 (bN o162 (bN o290 (bM o546 (bL o1058)) (bL o802)) (bN o418 (bM o674 (bL o1186)) (bL o930))) (bN o226 (bN o354 (bM o610 (bL o1122)) (bL o866)) (bN o482 (bL o738) (bL o994))))) (bN o50 (bN o82 (bN o146 (bN o274 (bM o530 (bL o1042)) (bL o786)) (bN o402 (bM o658 (bL o1170)) (bL o914))) (bN o210 (bN o338 (bM o594 (bL o1106)) (bL o850)) (bN o466 (bM o722 (bL o1234)) (bL o978)))) (bN o114 (bN o178 (bN o306 (bM o562 (bL o1074)) (bL o818)) (bN o434 (bM o690 (bL o1202)) (bL o946))) (bN o242 (bN o370 (bM o626 (bL o1138)) (bL o882)) (bN o498 (bL o754) (bL o1010)))))) (bN o26 (bN o42 (bN o74 (bN o138 (bN o266 (bM o522 (bL o1034)) (bL o778)) (bN o394 (bM o650 (bL o1162)) (bL o906))) (bN o202 (bN o330 (bM o586 (bL o1098)) (bL o842)) (bN o458 (bM o714 (bL o1226)) (bL o970)))) (bN o106 (bN o170 (bN o298 (bM o554 (bL o1066)) (bL o810)) (bN o426 (bM o682 (bL o1194)) (bL o938))) (bN o234 (bN o362 (bM o618 (bL o1130)) (bL o874)) (bN o490 (bL o746) (bL o1002))))) (bN o58 (bN o90 (bN o154 (bN o282 (bM o538 (bL o1050)) (bL o794)) (bN o410 (bM o666 (bL o1178)) (bL o922))) (bN o218 (bN o346 (bM o602 (bL o1114)) (bL o858)) (bN o474 (bM o730 (bL o1242)) (bL o986)))) (bN o122 (bN o186 (bN o314 (bM o570 (bL o1082)) (bL o826)) (bN o442 (bM o698 (bL o1210)) (bL o954))) (bN o250 (bN o378 (bM o634 (bL o1146)) (bL o890)) (bN o506 (bL o762) (bL o1018))))))) (bN o14 (bN o22 (bN o38 (bN o70 (bN o134 (bN o262 (bM o518 (bL o1030)) (bL o774)) (bN o390 (bM o646 (bL o1158)) (bL o902))) (bN o198 (bN o326 (bM o582 (bL o1094)) (bL o838)) (bN o454 (bM o710 (bL o1222)) (bL o966)))) (bN o102 (bN o166 (bN o294 (bM o550 (bL o1062)) (bL o806)) (bN o422 (bM o678 (bL o1190)) (bL o934))) (bN o230 (bN o358 (bM o614 (bL o1126)) (bL o870)) (bN o486 (bL o742) (bL o998))))) (bN o54 (bN o86 (bN o150 (bN o278 (bM o534 (bL o1046)) (bL o790)) (bN o406 (bM o662 (bL o1174)) (bL o918))) (bN o214 (bN o342 (bM o598 (bL o1110)) (bL o854)) (bN o470 (bM o726 (bL o1238)) (bL o982)))) (bN o118 (bN o182 (bN o310 (bM o566 (bL o1078)) (bL o822)) (bN o438 (bM o694 (bL o1206)) (bL o950))) (bN o246 (bN o374 (bM o630 (bL o1142)) (bL o886)) (bN o502 (bL o758) (bL o1014)))))) (bN o30 (bN o46 (bN o78 (bN o142 (bN o270 (bM o526 (bL o1038)) (bL o782)) (bN o398 (bM o654 (bL o1166)) (bL o910))) (bN o206 (bN o334 (bM o590 (bL o1102)) (bL o846)) (bN o462 (bM o718 (bL o1230)) (bL o974)))) (bN o110 (bN o174 (bN o302 (bM o558 (bL o1070)) (bL o814)) (bN o430 (bM o686 (bL o1198)) (bL o942))) (bN o238 (bN o366 (bM o622 (bL o1134)) (bL o878)) (bN o494 (bL o750) (bL o1006))))) (bN o62 (bN o94 (bN o158 (bN o286 (bM o542 (bL o1054)) (bL o798)) (bN o414 (bM o670 (bL o1182)) (bL o926))) (bN o222 (bN o350 (bM o606 (bL o1118)) (bL o862)) (bN o478 (bL o734) (bL o990)))) (bN o126 (bN o190 (bN o318 (bM o574 (bL o1086)) (bL o830)) (bN o446 (bM o702 (bL o1214)) (bL o958))) (bN o254 (bN o382 (bM o638 (bL o1150)) (bL o894)) (bN o510 (bL o766) (bL o1022))))))))))
noncomputable def S21 (w : World) (os : OsState) : SharedT := ⟨T21 w.params, 1243, {}, gs0, {}, 1978, os⟩
noncomputable def ss22 : List Stmt := (bE.drop 159).take 1
noncomputable def x22v3 (P : Params) : Obj := dcut P o3 156 [(0, (.str "gateloom.scopes" 1976))] 156
noncomputable def x22v12 (P : Params) : Obj := fcut P o12 429
noncomputable def T22 : Params → BT := (bN o0 (bN o1 (bN x22v3 (bN o7 (bN o15 (bN o31 (bN o63 (bN o127 (bN o255 (bM o511 (bL o1023)) (bM o767 (bL o1279))) (bN o383 (bM o639 (bL o1151)) (bL o895))) (bN o191 (bN o319 (bM o575 (bL o1087)) (bL o831)) (bN o447 (bM o703 (bL o1215)) (bL o959)))) (bN o95 (bN o159 (bN o287 (bM o543 (bL o1055)) (bM o799 (bL o1311))) (bN o415 (bM o671 (bL o1183)) (bL o927))) (bN o223 (bN o351 (bM o607 (bL o1119)) (bL o863)) (bN o479 (bM o735 (bL o1247)) (bL o991))))) (bN o47 (bN o79 (bN o143 (bN o271 (bM o527 (bL o1039)) (bM o783 (bL o1295))) (bN o399 (bM o655 (bL o1167)) (bL o911))) (bN o207 (bN o335 (bM o591 (bL o1103)) (bL o847)) (bN o463 (bM o719 (bL o1231)) (bL o975)))) (bN o111 (bN o175 (bN o303 (bM o559 (bL o1071)) (bL o815)) (bN o431 (bM o687 (bL o1199)) (bL o943))) (bN o239 (bN o367 (bM o623 (bL o1135)) (bL o879)) (bN o495 (bM o751 (bL o1263)) (bL o1007)))))) (bN o23 (bN o39 (bN o71 (bN o135 (bN o263 (bM o519 (bL o1031)) (bM o775 (bL o1287))) (bN o391 (bM o647 (bL o1159)) (bL o903))) (bN o199 (bN o327 (bM o583 (bL o1095)) (bL o839)) (bN o455 (bM o711 (bL o1223)) (bL o967)))) (bN o103 (bN o167 (bN o295 (bM o551 (bL o1063)) (bM o807 (bL o1319))) (bN o423 (bM o679 (bL o1191)) (bL o935))) (bN o231 (bN o359 (bM o615 (bL o1127)) (bL o871)) (bN o487 (bM o743 (bL o1255)) (bL o999))))) (bN o55 (bN o87 (bN o151 (bN o279 (bM o535 (bL o1047)) (bM o791 (bL o1303))) (bN o407 (bM o663 (bL o1175)) (bL o919))) (bN o215 (bN o343 (bM o599 (bL o1111)) (bL o855)) (bN o471 (bM o727 (bL o1239)) (bL o983)))) (bN o119 (bN o183 (bN o311 (bM o567 (bL o1079)) (bL o823)) (bN o439 (bM o695 (bL o1207)) (bL o951))) (bN o247 (bN o375 (bM o631 (bL o1143)) (bL o887)) (bN o503 (bM o759 (bL o1271)) (bL o1015))))))) (bN o11 (bN o19 (bN o35 (bN o67 (bN o131 (bN o259 (bM o515 (bL o1027)) (bM o771 (bL o1283))) (bN o387 (bM o643 (bL o1155)) (bL o899))) (bN o195 (bN o323 (bM o579 (bL o1091)) (bL o835)) (bN o451 (bM o707 (bL o1219)) (bL o963)))) (bN o99 (bN o163 (bN o291 (bM o547 (bL o1059)) (bM o803 (bL o1315))) (bN o419 (bM o675 (bL o1187)) (bL o931))) (bN o227 (bN o355 (bM o611 (bL o1123)) (bL o867)) (bN o483 (bM o739 (bL o1251)) (bL o995))))) (bN o51 (bN o83 (bN o147 (bN o275 (bM o531 (bL o1043)) (bM o787 (bL o1299))) (bN o403 (bM o659 (bL o1171)) (bL o915))) (bN o211 (bN o339 (bM o595 (bL o1107)) (bL o851)) (bN o467 (bM o723 (bL o1235)) (bL o979)))) (bN o115 (bN o179 (bN o307 (bM o563 (bL o1075)) (bL o819)) (bN o435 (bM o691 (bL o1203)) (bL o947))) (bN o243 (bN o371 (bM o627 (bL o1139)) (bL o883)) (bN o499 (bM o755 (bL o1267)) (bL o1011)))))) (bN o27 (bN o43 (bN o75 (bN o139 (bN o267 (bM o523 (bL o1035)) (bM o779 (bL o1291))) (bN o395 (bM o651 (bL o1163)) (bL o907))) (bN o203 (bN o331 (bM o587 (bL o1099)) (bL o843)) (bN o459 (bM o715 (bL o1227)) (bL o971)))) (bN o107 (bN o171 (bN o299 (bM o555 (bL o1067)) (bL o811)) (bN o427 (bM o683 (bL o1195)) (bL o939))) (bN o235 (bN o363 (bM o619 (bL o1131)) (bL o875)) (bN o491 (bM o747 (bL o1259)) (bL o1003))))) (bN o59 (bN o91 (bN o155 (bN o283 (bM o539 (bL o1051)) (bM o795 (bL o1307))) (bN o411 (bM o667 (bL o1179)) (bL o923))) (bN o219 (bN o347 (bM o603 (bL o1115)) (bL o859)) (bN o475 (bM o731 (bL o1243)) (bL o987)))) (bN o123 (bN o187 (bN o315 (bM o571 (bL o1083)) (bL o827)) (bN o443 (bM o699 (bL o1211)) (bL o955))) (bN o251 (bN o379 (bM o635 (bL o1147)) (bL o891)) (bN o507 (bM o763 (bL o1275)) (bL o1019)))))))) (bN o5 (bN o9 (bN o17 (bN o33 (bN o65 (bN o129 (bN o257 (bM o513 (bL o1025)) (bM o769 (bL o1281))) (bN o385 (bM o641 (bL o1153)) (bL o897))) (bN o193 (bN o321 (bM o577 (bL o1089)) (bL o833)) (bN o449 (bM o705 (bL o1217)) (bL o961)))) (bN o97 (bN o161 (bN o289 (bM o545 (bL o1057)) (bM o801 (bL o1313))) (bN o417 (bM o673 (bL o1185)) (bL o929))) (bN o225 (bN o353 (bM o609 (bL o1121)) (bL o865)) (bN o481 (bM o737 (bL o1249)) (bL o993))))) (bN o49 (bN o81 (bN o145 (bN o273 (bM o529 (bL o1041)) (bM o785 (bL o1297))) (bN o401 (bM o657 (bL o1169)) (bL o913))) (bN o209 (bN o337 (bM o593 (bL o1105)) (bL o849)) (bN o465 (bM o721 (bL o1233)) (bL o977)))) (bN o113 (bN o177 (bN o305 (bM o561 (bL o1073)) (bL o817)) (bN o433 (bM o689 (bL o1201)) (bL o945))) (bN o241 (bN o369 (bM o625 (bL o1137)) (bL o881)) (bN o497 (bM o753 (bL o1265)) (bL o1009)))))) (bN o25 (bN o41 (bN o73 (bN o137 (bN o265 (bM o521 (bL o1033)) (bM o777 (bL o1289))) (bN o393 (bM o649 (bL o1161)) (bL o905))) (bN o201 (bN o329 (bM o585 (bL o1097)) (bL o841)) (bN o457 (bM o713 (bL o1225)) (bL o969)))) (bN o105 (bN o169 (bN o297 (bM o553 (bL o1065)) (bL o809)) (bN o425 (bM o681 (bL o1193)) (bL o937))) (bN o233 (bN o361 (bM o617 (bL o1129)) (bL o873)) (bN o489 (bM o745 (bL o1257)) (bL o1001))))) (bN o57 (bN o89 (bN o153 (bN o281 (bM o537 (bL o1049)) (bM o793 (bL o1305))) (bN o409 (bM o665 (bL o1177)) (bL o921))) (bN o217 (bN o345 (bM o601 (bL o1113)) (bL o857)) (bN o473 (bM o729 (bL o1241)) (bL o985)))) (bN o121 (bN o185 (bN o313 (bM o569 (bL o1081)) (bL o825)) (bN o441 (bM o697 (bL o1209)) (bL o953))) (bN o249 (bN o377 (bM o633 (bL o1145)) (bL o889)) (bN o505 (bM o761 (bL o1273)) (bL o1017))))))) (bN o13 (bN o21 (bN o37 (bN o69 (bN o133 (bN o261 (bM o517 (bL o1029)) (bM o773 (bL o1285))) (bN o389 (bM o645 (bL o1157)) (bL o901))) (bN o197 (bN o325 (bM o581 (bL o1093)) (bL o837)) (bN o453 (bM o709 (bL o1221)) (bL o965)))) (bN o101 (bN o165 (bN o293 (bM o549 (bL o1061)) (bM o805 (bL o1317))) (bN o421 (bM o677 (bL o1189)) (bL o933))) (bN o229 (bN o357 (bM o613 (bL o1125)) (bL o869)) (bN o485 (bM o741 (bL o1253)) (bL o997))))) (bN o53 (bN o85 (bN o149 (bN o277 (bM o533 (bL o1045)) (bM o789 (bL o1301))) (bN o405 (bM o661 (bL o1173)) (bL o917))) (bN o213 (bN o341 (bM o597 (bL o1109)) (bL o853)) (bN o469 (bM o725 (bL o1237)) (bL o981)))) (bN o117 (bN o181 (bN o309 (bM o565 (bL o1077)) (bL o821)) (bN o437 (bM o693 (bL o1205)) (bL o949))) (bN o245 (bN o373 (bM o629 (bL o1141)) (bL o885)) (bN o501 (bM o757 (bL o1269)) (bL o1013)))))) (bN o29 (bN o45 (bN o77 (bN o141 (bN o269 (bM o525 (bL o1037)) (bM o781 (bL o1293))) (bN o397 (bM o653 (bL o1165)) (bL o909))) (bN o205 (bN o333 (bM o589 (bL o1101)) (bL o845)) (bN o461 (bM o717 (bL o1229)) (bL o973)))) (bN o109 (bN o173 (bN o301 (bM o557 (bL o1069)) (bL o813)) (bN o429 (bM o685 (bL o1197)) (bL o941))) (bN o237 (bN o365 (bM o621 (bL o1133)) (bL o877)) (bN o493 (bM o749 (bL o1261)) (bL o1005))))) (bN o61 (bN o93 (bN o157 (bN o285 (bM o541 (bL o1053)) (bM o797 (bL o1309))) (bN o413 (bM o669 (bL o1181)) (bL o925))) (bN o221 (bN o349 (bM o605 (bL o1117)) (bL o861)) (bN o477 (bM o733 (bL o1245)) (bL o989)))) (bN o125 (bN o189 (bN o317 (bM o573 (bL o1085)) (bL o829)) (bN o445 (bM o701 (bL o1213)) (bL o957))) (bN o253 (bN o381 (bM o637 (bL o1149)) (bL o893)) (bN o509 (bM o765 (bL o1277)) (bL o1021))))))))) (bN o2 (bN o4 (bN o8 (bN o16 (bN o32 (bN o64 (bN o128 (bN o256 (bM o512 (bL o1024)) (bM o768 (bL o1280))) (bN o384 (bM o640 (bL o1152)) (bL o896))) (bN o192 (bN o320 (bM o576 (bL o1088)) (bL o832)) (bN o448 (bM o704 (bL o1216)) (bL o960)))) (bN o96 (bN o160 (bN o288 (bM o544 (bL o1056)) (bM o800 (bL o1312))) (bN o416 (bM o672 (bL o1184)) (bL o928))) (bN o224 (bN o352 (bM o608 (bL o1120)) (bL o864)) (bN o480 (bM o736 (bL o1248)) (bL o992))))) (bN o48 (bN o80 (bN o144 (bN o272 (bM o528 (bL o1040)) (bM o784 (bL o1296))) (bN o400 (bM o656 (bL o1168)) (bL o912))) (bN o208 (bN o336 (bM o592 (bL o1104)) (bL o848)) (bN o464 (bM o720 (bL o1232)) (bL o976)))) (bN o112 (bN o176 (bN o304 (bM o560 (bL o1072)) (bL o816)) (bN o432 (bM o688 (bL o1200)) (bL o944))) (bN o240 (bN o368 (bM o624 (bL o1136)) (bL o880)) (bN o496 (bM o752 (bL o1264)) (bL o1008)))))) (bN o24 (bN o40 (bN o72 (bN o136 (bN o264 (bM o520 (bL o1032)) (bM o776 (bL o1288))) (bN o392 (bM o648 (bL o1160)) (bL o904))) (bN o200 (bN o328 (bM o584 (bL o1096)) (bL o840)) (bN o456 (bM o712 (bL o1224)) (bL o968)))) (bN o104 (bN o168 (bN o296 (bM o552 (bL o1064)) (bL o808)) (bN o424 (bM o680 (bL o1192)) (bL o936))) (bN o232 (bN o360 (bM o616 (bL o1128)) (bL o872)) (bN o488 (bM o744 (bL o1256)) (bL o1000))))) (bN o56 (bN o88 (bN o152 (bN o280 (bM o536 (bL o1048)) (bM o792 (bL o1304))) (bN o408 (bM o664 (bL o1176)) (bL o920))) (bN o216 (bN o344 (bM o600 (bL o1112)) (bL o856)) (bN o472 (bM o728 (bL o1240)) (bL o984)))) (bN o120 (bN o184 (bN o312 (bM o568 (bL o1080)) (bL o824)) (bN o440 (bM o696 (bL o1208)) (bL o952))) (bN o248 (bN o376 (bM o632 (bL o1144)) (bL o888)) (bN o504 (bM o760 (bL o1272)) (bL o1016))))))) (bN x22v12 (bN o20 (bN o36 (bN o68 (bN o132 (bN o260 (bM o516 (bL o1028)) (bM o772 (bL o1284))) (bN o388 (bM o644 (bL o1156)) (bL o900))) (bN o196 (bN o324 (bM o580 (bL o1092)) (bL o836)) (bN o452 (bM o708 (bL o1220)) (bL o964)))) (bN o100 (bN o164 (bN o292 (bM o548 (bL o1060)) (bM o804 (bL o1316))) (bN o420 (bM o676 (bL o1188)) (bL o932))) (bN o228 (bN o356 (bM o612 (bL o1124)) (bL o868)) (bN o484 (bM o740 (bL o1252)) (bL o996))))) (bN o52 (bN o84 (bN o148 (bN o276 (bM o532 (bL o1044)) (bM o788 (bL o1300))) (bN o404 (bM o660 (bL o1172)) (bL o916))) (bN o212 (bN o340 (bM o596 (bL o1108)) (bL o852)) (bN o468 (bM o724 (bL o1236)) (bL o980)))) (bN o116 (bN o180 (bN o308 (bM o564 (bL o1076)) (bL o820)) (bN o436 (bM o692 (bL o1204)) (bL o948))) (bN o244 (bN o372 (bM o628 (bL o1140)) (bL o884)) (bN o500 (bM o756 (bL o1268)) (bL o1012)))))) (bN o28 (bN o44 (bN o76 (bN o140 (bN o268 (bM o524 (bL o1036)) (bM o780 (bL o1292))) (bN o396 (bM o652 (bL o1164)) (bL o908))) (bN o204 (bN o332 (bM o588 (bL o1100)) (bL o844)) (bN o460 (bM o716 (bL o1228)) (bL o972)))) (bN o108 (bN o172 (bN o300 (bM o556 (bL o1068)) (bL o812)) (bN o428 (bM o684 (bL o1196)) (bL o940))) (bN o236 (bN o364 (bM o620 (bL o1132)) (bL o876)) (bN o492 (bM o748 (bL o1260)) (bL o1004))))) (bN o60 (bN o92 (bN o156 (bN o284 (bM o540 (bL o1052)) (bM o796 (bL o1308))) (bN o412 (bM o668 (bL o1180)) (bL o924))) (bN o220 (bN o348 (bM o604 (bL o1116)) (bL o860)) (bN o476 (bM o732 (bL o1244)) (bL o988)))) (bN o124 (bN o188 (bN o316 (bM o572 (bL o1084)) (bL o828)) (bN o444 (bM o700 (bL o1212)) (bL o956))) (bN o252 (bN o380 (bM o636 (bL o1148)) (bL o892)) (bN o508 (bM o764 (bL o1276)) (bL o1020)))))))) (bN o6 (bN o10 (bN o18 (bN o34 (bN o66 (bN o130 (bN o258 (bM o514 (bL o1026)) (bM o770 (bL o1282))) (bN o386 (bM o642 (bL o1154)) (bL o898))) (bN o194 (bN o322 (bM o578 (bL o1090)) (bL o834)) (bN o450 (bM o706 (bL o1218)) (bL o962)))) (bN o98 (bN o162 (bN o290 (bM o546 (bL o1058)) (bM o802 (bL o1314))) (bN o418 (bM o674 (bL o1186)) (bL o930))) (bN o226 (bN o354 (bM o610 (bL o1122)) (bL o866)) (bN o482 (bM o738 (bL o1250)) (bL o994))))) (bN o50 (bN o82 (bN o146 (bN o274 (bM o530 (bL o1042)) (bM o786 (bL o1298))) (bN o402 (bM o658 (bL o1170)) (bL o914))) (bN o210 (bN o338 (bM o594 (bL o1106)) (bL o850)) (bN o466 (bM o722 (bL o1234)) (bL o978)))) (bN o114 (bN o178 (bN o306 (bM o562 (bL o1074)) (bL o818)) (bN o434 (bM o690 (bL o1202)) (bL o946))) (bN o242 (bN o370 (bM o626 (bL o1138)) (bL o882)) (bN o498 (bM o754 (bL o1266)) (bL o1010)))))) (bN o26 (bN o42 (bN o74 (bN o138 (bN o266 (bM o522 (bL o1034)) (bM o778 (bL o1290))) (bN o394 (bM o650 (bL o1162)) (bL o906))) (bN o202 (bN o330 (bM o586 (bL o1098)) (bL o842)) (bN o458 (bM o714 (bL o1226)) (bL o970)))) (bN o106 (bN o170 (bN o298 (bM o554 (bL o1066)) (bL o810)) (bN o426 (bM o682 (bL o1194)) (bL o938))) (bN o234 (bN o362 (bM o618 (bL o1130)) (bL o874)) (bN o490 (bM o746 (bL o1258)) (bL o1002))))) (bN o58 (bN o90 (bN o154 (bN o282 (bM o538 (bL o1050)) (bM o794 (bL o1306))) (bN o410 (bM o666 (bL o1178)) (bL o922))) (bN o218 (bN o346 (bM o602 (bL o1114)) (bL o858)) (bN o474 (bM o730 (bL o1242)) (bL o986)))) (bN o122 (bN o186 (bN o314 (bM o570 (bL o1082)) (bL o826)) (bN o442 (bM o698 (bL o1210)) (bL o954))) (bN o250 (bN o378 (bM o634 (bL o1146)) (bL o890)) (bN o506 (bM o762 (bL o1274)) (bL o1018))))))) (bN o14 (bN o22 (bN o38 (bN o70 (bN o134 (bN o262 (bM o518 (bL o1030)) (bM o774 (bL o1286))) (bN o390 (bM o646 (bL o1158)) (bL o902))) (bN o198 (bN o326 (bM o582 (bL o1094)) (bL o838)) (bN o454 (bM o710 (bL o1222)) (bL o966)))) (bN o102 (bN o166 (bN o294 (bM o550 (bL o1062)) (bM o806 (bL o1318))) (bN o422 (bM o678 (bL o1190)) (bL o934))) (bN o230 (bN o358 (bM o614 (bL o1126)) (bL o870)) (bN o486 (bM o742 (bL o1254)) (bL o998))))) (bN o54 (bN o86 (bN o150 (bN o278 (bM o534 (bL o1046)) (bM o790 (bL o1302))) (bN o406 (bM o662 (bL o1174)) (bL o918))) (bN o214 (bN o342 (bM o598 (bL o1110)) (bL o854)) (bN o470 (bM o726 (bL o1238)) (bL o982)))) (bN o118 (bN o182 (bN o310 (bM o566 (bL o1078)) (bL o822)) (bN o438 (bM o694 (bL o1206)) (bL o950))) (bN o246 (bN o374 (bM o630 (bL o1142)) (bL o886)) (bN o502 (bM o758 (bL o1270)) (bL o1014)))))) (bN o30 (bN o46 (bN o78 (bN o142 (bN o270 (bM o526 (bL o1038)) (bM o782 (bL o1294))) (bN o398 (bM o654 (bL o1166)) (bL o910))) (bN o206 (bN o334 (bM o590 (bL o1102)) (bL o846)) (bN o462 (bM o718 (bL o1230)) (bL o974)))) (bN o110 (bN o174 (bN o302 (bM o558 (bL o1070)) (bL o814)) (bN o430 (bM o686 (bL o1198)) (bL o942))) (bN o238 (bN o366 (bM o622 (bL o1134)) (bL o878)) (bN o494 (bM o750 (bL o1262)) (bL o1006))))) (bN o62 (bN o94 (bN o158 (bN o286 (bM o542 (bL o1054)) (bM o798 (bL o1310))) (bN o414 (bM o670 (bL o1182)) (bL o926))) (bN o222 (bN o350 (bM o606 (bL o1118)) (bL o862)) (bN o478 (bM o734 (bL o1246)) (bL o990)))) (bN o126 (bN o190 (bN o318 (bM o574 (bL o1086)) (bL o830)) (bN o446 (bM o702 (bL o1214)) (bL o958))) (bN o254 (bN o382 (bM o638 (bL o1150)) (bL o894)) (bN o510 (bM o766 (bL o1278)) (bL o1022))))))))))
noncomputable def S22 (w : World) (os : OsState) : SharedT := ⟨T22 w.params, 1320, {}, gs0, {}, 2096, os⟩
noncomputable def ss23 : List Stmt := (bE.drop 160).take 4
noncomputable def S23 (w : World) (os : OsState) : SharedT := ⟨TF w.params, 1341, {}, gs0, {}, 2135, os⟩
end
section
set_option maxRecDepth 100000
set_option maxHeartbeats 0
noncomputable abbrev TB : String → Option Builtin := treeTable
noncomputable def HA (P : Params) : Heap := ⟨Array.mk [], {}⟩
theorem opn : ∀ w : World, (fencedOpening treeTable PR w 20000).map (fun s => (s.heap, s.gens, s.drawn, s.toks)) = some (boot_heap w.params, Array.mk [], boot_drawn, boot_toks) :=
  boot_open (by kernel_rfl) (by rfl) (fun s => by kernel_rfl)
theorem siz : ∀ w : World, ((boot_heap w.params).isNs mainGlobals && (Array.mk [] : Array GenState).size == 0, (boot_heap w.params).objs.size, (boot_heap w.params).nsMap mainGlobals "__annotations__") = (true, 11, some (.ref 6)) := fun w => by
  rw [PySem.W.Fast.te8920871248978507458]
  kernel_rfl
theorem pre (w : World) (os : OsState) : topGo treeTable PR w 11 ann 12 ⟨boot_heap w.params, Array.mk [], boot_drawn, boot_toks, os⟩ (topStub PR) = some ((S0 w os).abs, ⟨denote treeTable cE, cE, ⟨0, 0, 0, 0⟩, B⟩) := by
  rw [PySem.W.Fast.te15667345088766844465, PySem.W.Fast.te14364793385576792824, PySem.W.Fast.te11892475500146522536]
  kernel_rfl
theorem blk (w : World) (os : OsState) : segRun treeTable PR w 11 ann 1 1 (S0 w os).abs (blockOf bE env cE ⟨0, 0, 0, 0⟩ B) = some (.next, (S0 w os).abs, cE, ⟨0, 0, 0, 0⟩) := by
  rw [PySem.W.Fast.te14374325043358763698, PySem.W.Fast.te14364793385576792824]
  kernel_rfl
theorem fin (w : World) (os : OsState) : topRun treeTable PR w 11 ann 2 (S23 w os).abs ⟨doneF .next, cE, ⟨1363, 0, 1387, 101⟩, B⟩ = some (S23 w os).abs := by
  rw [PySem.W.Fast.te14082659384304107361, PySem.W.Fast.te14364793385576792824]
  kernel_rfl
end
section
set_option maxRecDepth 100000
set_option maxHeartbeats 0
noncomputable def H1 (P : Params) : Heap := absHeap (TF P) 1341 {}
noncomputable def asK : List Addr := nat_lit 3 :: nat_lit 1053 :: nat_lit 1032 :: nat_lit 1081 :: nat_lit 864 :: nat_lit 1074 :: nat_lit 1102 :: nat_lit 1109 :: nat_lit 1018 :: nat_lit 605 :: nat_lit 1095 :: nat_lit 913 :: nat_lit 158 :: nat_lit 81 :: nat_lit 73 :: nat_lit 123 :: nat_lit 1025 :: nat_lit 885 :: nat_lit 735 :: nat_lit 1039 :: nat_lit 857 :: nat_lit 850 :: nat_lit 186 :: nat_lit 229 :: nat_lit 151 :: nat_lit 906 :: nat_lit 1116 :: nat_lit 1333 :: nat_lit 1326 :: nat_lit 36 :: nat_lit 822 :: nat_lit 948 :: nat_lit 1284 :: nat_lit 976 :: nat_lit 829 :: nat_lit 1151 :: nat_lit 836 :: nat_lit 1340 :: nat_lit 1193 :: nat_lit 1256 :: nat_lit 1207 :: nat_lit 1200 :: nat_lit 1137 :: nat_lit 1270 :: nat_lit 983 :: nat_lit 843 :: nat_lit 934 :: nat_lit 742 :: nat_lit 39 :: nat_lit 52 :: nat_lit 210 :: nat_lit 253 :: nat_lit 1175 :: nat_lit 1238 :: nat_lit 1315 :: nat_lit 1052 :: nat_lit 1031 :: nat_lit 1080 :: nat_lit 863 :: nat_lit 1073 :: nat_lit 1101 :: nat_lit 1108 :: nat_lit 1017 :: nat_lit 604 :: nat_lit 1094 :: nat_lit 912 :: nat_lit 157 :: nat_lit 74 :: nat_lit 80 :: nat_lit 72 :: nat_lit 122 :: nat_lit 1024 :: nat_lit 884 :: nat_lit 734 :: nat_lit 1038 :: nat_lit 856 :: nat_lit 849 :: nat_lit 185 :: nat_lit 222 :: nat_lit 228 :: nat_lit 150 :: nat_lit 905 :: nat_lit 1115 :: nat_lit 1332 :: nat_lit 1325 :: nat_lit 29 :: nat_lit 35 :: nat_lit 821 :: nat_lit 947 :: nat_lit 1283 :: nat_lit 975 :: nat_lit 828 :: nat_lit 1150 :: nat_lit 835 :: nat_lit 1339 :: nat_lit 1192 :: nat_lit 1255 :: nat_lit 1206 :: nat_lit 1199 :: nat_lit 1136 :: nat_lit 1269 :: nat_lit 982 :: nat_lit 842 :: nat_lit 933 :: nat_lit 741 :: nat_lit 38 :: nat_lit 22 :: nat_lit 51 :: nat_lit 43 :: nat_lit 209 :: nat_lit 252 :: nat_lit 1174 :: nat_lit 1237 :: nat_lit 1314 :: nat_lit 1047 :: nat_lit 1049 :: nat_lit 1050 :: nat_lit 1026 :: nat_lit 1028 :: nat_lit 1029 :: nat_lit 1075 :: nat_lit 1077 :: nat_lit 1078 :: nat_lit 858 :: nat_lit 860 :: nat_lit 861 :: nat_lit 1068 :: nat_lit 1070 :: nat_lit 1071 :: nat_lit 1096 :: nat_lit 1098 :: nat_lit 1099 :: nat_lit 1103 :: nat_lit 1105 :: nat_lit 1106 :: nat_lit 1012 :: nat_lit 1014 :: nat_lit 1015 :: nat_lit 601 :: nat_lit 1089 :: nat_lit 1091 :: nat_lit 1092 :: nat_lit 907 :: nat_lit 909 :: nat_lit 910 :: nat_lit 152 :: nat_lit 154 :: nat_lit 155 :: nat_lit 75 :: nat_lit 77 :: nat_lit 78 :: nat_lit 67 :: nat_lit 69 :: nat_lit 70 :: nat_lit 117 :: nat_lit 119 :: nat_lit 120 :: nat_lit 1019 :: nat_lit 1021 :: nat_lit 1022 :: nat_lit 879 :: nat_lit 881 :: nat_lit 882 :: nat_lit 729 :: nat_lit 731 :: nat_lit 732 :: nat_lit 1033 :: nat_lit 1035 :: nat_lit 1036 :: nat_lit 851 :: nat_lit 853 :: nat_lit 854 :: nat_lit 844 :: nat_lit 846 :: nat_lit 847 :: nat_lit 180 :: nat_lit 182 :: nat_lit 183 :: nat_lit 223 :: nat_lit 225 :: nat_lit 226 :: nat_lit 145 :: nat_lit 147 :: nat_lit 148 :: nat_lit 900 :: nat_lit 902 :: nat_lit 903 :: nat_lit 1110 :: nat_lit 1112 :: nat_lit 1113 :: nat_lit 1327 :: nat_lit 1329 :: nat_lit 1330 :: nat_lit 1320 :: nat_lit 1322 :: nat_lit 1323 :: nat_lit 30 :: nat_lit 32 :: nat_lit 33 :: nat_lit 816 :: nat_lit 818 :: nat_lit 819 :: nat_lit 942 :: nat_lit 944 :: nat_lit 945 :: nat_lit 1278 :: nat_lit 1280 :: nat_lit 1281 :: nat_lit 970 :: nat_lit 972 :: nat_lit 973 :: nat_lit 823 :: nat_lit 825 :: nat_lit 826 :: nat_lit 1145 :: nat_lit 1147 :: nat_lit 1148 :: nat_lit 830 :: nat_lit 832 :: nat_lit 833 :: nat_lit 1334 :: nat_lit 1336 :: nat_lit 1337 :: nat_lit 1187 :: nat_lit 1189 :: nat_lit 1190 :: nat_lit 1250 :: nat_lit 1252 :: nat_lit 1253 :: nat_lit 1201 :: nat_lit 1203 :: nat_lit 1204 :: nat_lit 1194 :: nat_lit 1196 :: nat_lit 1197 :: nat_lit 1131 :: nat_lit 1133 :: nat_lit 1134 :: nat_lit 1264 :: nat_lit 1266 :: nat_lit 1267 :: nat_lit 977 :: nat_lit 979 :: nat_lit 980 :: nat_lit 837 :: nat_lit 839 :: nat_lit 840 :: nat_lit 928 :: nat_lit 930 :: nat_lit 931 :: nat_lit 736 :: nat_lit 738 :: nat_lit 739 :: nat_lit 37 :: nat_lit 40 :: nat_lit 50 :: nat_lit 193 :: nat_lit 200 :: nat_lit 207 :: nat_lit 208 :: nat_lit 211 :: nat_lit 212 :: nat_lit 236 :: nat_lit 243 :: nat_lit 250 :: nat_lit 251 :: nat_lit 254 :: nat_lit 255 :: nat_lit 1144 :: nat_lit 1158 :: nat_lit 1165 :: nat_lit 1172 :: nat_lit 1173 :: nat_lit 1176 :: nat_lit 1177 :: nat_lit 1214 :: nat_lit 1221 :: nat_lit 1228 :: nat_lit 1235 :: nat_lit 1236 :: nat_lit 1239 :: nat_lit 1240 :: nat_lit 1263 :: nat_lit 1277 :: nat_lit 1291 :: nat_lit 1298 :: nat_lit 1305 :: nat_lit 1312 :: nat_lit 1313 :: nat_lit 1316 :: nat_lit 1317 :: nat_lit 192 :: nat_lit 199 :: nat_lit 206 :: nat_lit 235 :: nat_lit 242 :: nat_lit 249 :: nat_lit 1143 :: nat_lit 1157 :: nat_lit 1164 :: nat_lit 1171 :: nat_lit 1213 :: nat_lit 1220 :: nat_lit 1227 :: nat_lit 1234 :: nat_lit 1262 :: nat_lit 1276 :: nat_lit 1290 :: nat_lit 1297 :: nat_lit 1304 :: nat_lit 1311 :: nat_lit 187 :: nat_lit 189 :: nat_lit 190 :: nat_lit 194 :: nat_lit 196 :: nat_lit 197 :: nat_lit 201 :: nat_lit 203 :: nat_lit 204 :: nat_lit 230 :: nat_lit 232 :: nat_lit 233 :: nat_lit 237 :: nat_lit 239 :: nat_lit 240 :: nat_lit 244 :: nat_lit 246 :: nat_lit 247 :: nat_lit 1138 :: nat_lit 1140 :: nat_lit 1141 :: nat_lit 1152 :: nat_lit 1154 :: nat_lit 1155 :: nat_lit 1159 :: nat_lit 1161 :: nat_lit 1162 :: nat_lit 1166 :: nat_lit 1168 :: nat_lit 1169 :: nat_lit 1208 :: nat_lit 1210 :: nat_lit 1211 :: nat_lit 1215 :: nat_lit 1217 :: nat_lit 1218 :: nat_lit 1222 :: nat_lit 1224 :: nat_lit 1225 :: nat_lit 1229 :: nat_lit 1231 :: nat_lit 1232 :: nat_lit 1257 :: nat_lit 1259 :: nat_lit 1260 :: nat_lit 1271 :: nat_lit 1273 :: nat_lit 1274 :: nat_lit 1285 :: nat_lit 1287 :: nat_lit 1288 :: nat_lit 1292 :: nat_lit 1294 :: nat_lit 1295 :: nat_lit 1299 :: nat_lit 1301 :: nat_lit 1302 :: nat_lit 1306 :: nat_lit 1308 :: nat_lit 1309 :: nat_lit 0 :: nat_lit 2 :: []
theorem asK_eq (P : Params) : asK = (K P).map (·.1) := by kernel_rfl
noncomputable abbrev HH : Hook := kHook K asK asK_eq
theorem l5 (w : World) : (fun os => openSeen q loose (importedModules PR.main.body) (fun s => xlAt q [] s && recOk [] s) true ⟨H1 w.params, gs0, {}, 2135, os⟩) = fun _ => openGood q loose := by
  rw [PySem.W.Fast.te4187177175401517315]
  kernel_rfl
end
section
set_option maxRecDepth 100000
set_option maxHeartbeats 0
theorem l1 (w : World) : staticsOk (importedModules PR.main.body) (boot_heap w.params) (H1 w.params) = true := by
  unfold staticsOk
  rw [PySem.W.Fast.te8920871248978507458]
  kernel_rfl
theorem l2 (w : World) : namesBound PR (H1 w.params) = true := by
  unfold namesBound
  rw [PySem.W.Fast.te18344453789297297638, PySem.W.Fast.te12749700546528644094]
  kernel_rfl
theorem l4 (w : World) : laidKept (boot_heap w.params) (H1 w.params) = true := by
  unfold laidKept
  rw [PySem.W.Fast.te8920871248978507458]
  kernel_rfl
end
section
set_option maxRecDepth 100000
set_option maxHeartbeats 0
theorem abs_obs (t : BT) (n : Nat) (life : Life) : ∀ as : List Addr, as.all (fun a => Nat.blt a n) = true → as.map (absHeap t n life).get? = as.map fun a => (t.get a).elim (alive default) alive
  | [], _ => rfl
  | a :: r, h => by
    obtain ⟨h1, h2⟩ := Bool.and_eq_true_iff.mp (show (Nat.blt a n && r.all (fun a => Nat.blt a n)) = true from h)
    rw [List.map_cons, List.map_cons, abs_obs t n life r h2]
    congr 1
    have lt : a < n := Nat.le_of_ble_eq_true h1
    cases g : t.get a with
    | some o => rw [abs_get lt g]; rfl
    | none =>
      unfold Heap.get?
      rw [absHeap_at, if_pos lt, g]
      rfl
theorem l6 (w : World) : (fun os => Hook.obs HH ⟨H1 w.params, gs0, {}, 2135, os⟩) = fun _ => Hook.val HH w := by
  funext os
  refine (abs_obs (TF w.params) 1341 {} asK (by decide +kernel)).trans ?_
  kernel_rfl
end
section
set_option maxRecDepth 100000
set_option maxHeartbeats 0
theorem p1 (w : World) (os : OsState) : segRunT treeTable PySem.Challenge.pw_pq0479_01 w 11 ann 1 279 (S0 w os) (piecesOf ss1 env cE ⟨0, 0, 0, 0⟩ B) = some (.next, S1 w os, cE, ⟨5, 0, 10, 28⟩) := by
  rw [PySem.W.Fast.te10110043849684766642, PySem.W.Fast.te14364793385576792824]
  kernel_rfl
theorem p2 (w : World) (os : OsState) : segRunT treeTable PySem.Challenge.pw_pq0479_01 w 11 ann 1 214 (S1 w os) (piecesOf ss2 env cE ⟨5, 0, 10, 28⟩ B) = some (.next, S2 w os, cE, ⟨11, 0, 12, 8⟩) := by
  rw [PySem.W.Fast.te10110043849684766642, PySem.W.Fast.te14364793385576792824]
  kernel_rfl
theorem p3 (w : World) (os : OsState) : segRunT treeTable PySem.Challenge.pw_pq0479_01 w 11 ann 1 374 (S2 w os) (piecesOf ss3 env cE ⟨11, 0, 12, 8⟩ B) = some (.next, S3 w os, cE, ⟨26, 0, 27, 26⟩) := by
  rw [PySem.W.Fast.te10110043849684766642, PySem.W.Fast.te14364793385576792824]
  kernel_rfl
theorem p4 (w : World) (os : OsState) : segRunT treeTable PySem.Challenge.pw_pq0479_01 w 11 ann 1 334 (S3 w os) (piecesOf ss4 env cE ⟨26, 0, 27, 26⟩ B) = some (.next, S4 w os, cE, ⟨90, 0, 90, 8⟩) := by
  rw [PySem.W.Fast.te10110043849684766642, PySem.W.Fast.te14364793385576792824]
  kernel_rfl
theorem p5 (w : World) (os : OsState) : segRunT treeTable PySem.Challenge.pw_pq0479_01 w 11 ann 1 333 (S4 w os) (piecesOf ss5 env cE ⟨90, 0, 90, 8⟩ B) = some (.next, S5 w os, cE, ⟨91, 0, 136, 19⟩) := by
  rw [PySem.W.Fast.te10110043849684766642, PySem.W.Fast.te14364793385576792824]
  kernel_rfl
theorem p6 (w : World) (os : OsState) : segRunT treeTable PySem.Challenge.pw_pq0479_01 w 11 ann 1 395 (S5 w os) (piecesOf ss6 env cE ⟨91, 0, 136, 19⟩ B) = some (.next, S6 w os, cE, ⟨161, 0, 164, 38⟩) := by
  rw [PySem.W.Fast.te10110043849684766642, PySem.W.Fast.te14364793385576792824]
  kernel_rfl
theorem p7 (w : World) (os : OsState) : segRunT treeTable PySem.Challenge.pw_pq0479_01 w 11 ann 1 392 (S6 w os) (piecesOf ss7 env cE ⟨161, 0, 164, 38⟩ B) = some (.next, S7 w os, cE, ⟨249, 0, 253, 39⟩) := by
  rw [PySem.W.Fast.te10110043849684766642, PySem.W.Fast.te14364793385576792824]
  kernel_rfl
theorem p8 (w : World) (os : OsState) : segRunT treeTable PySem.Challenge.pw_pq0479_01 w 11 ann 1 389 (S7 w os) (piecesOf ss8 env cE ⟨249, 0, 253, 39⟩ B) = some (.next, S8 w os, cE, ⟨292, 0, 293, 28⟩) := by
  rw [PySem.W.Fast.te10110043849684766642, PySem.W.Fast.te14364793385576792824]
  kernel_rfl
theorem p9 (w : World) (os : OsState) : segRunT treeTable PySem.Challenge.pw_pq0479_01 w 11 ann 1 377 (S8 w os) (piecesOf ss9 env cE ⟨292, 0, 293, 28⟩ B) = some (.next, S9 w os, cE, ⟨342, 0, 342, 8⟩) := by
  rw [PySem.W.Fast.te10110043849684766642, PySem.W.Fast.te14364793385576792824]
  kernel_rfl
theorem p10 (w : World) (os : OsState) : segRunT treeTable PySem.Challenge.pw_pq0479_01 w 11 ann 1 385 (S9 w os) (piecesOf ss10 env cE ⟨342, 0, 342, 8⟩ B) = some (.next, S10 w os, cE, ⟨465, 0, 495, 52⟩) := by
  rw [PySem.W.Fast.te10110043849684766642, PySem.W.Fast.te14364793385576792824]
  kernel_rfl
theorem p11 (w : World) (os : OsState) : segRunT treeTable PySem.Challenge.pw_pq0479_01 w 11 ann 1 160 (S10 w os) (piecesOf ss11 env cE ⟨465, 0, 495, 52⟩ B) = some (.next, S11 w os, cE, ⟨537, 0, 537, 11⟩) := by
  rw [PySem.W.Fast.te10110043849684766642, PySem.W.Fast.te14364793385576792824]
  kernel_rfl
theorem p12 (w : World) (os : OsState) : segRunT treeTable PySem.Challenge.pw_pq0479_01 w 11 ann 1 383 (S11 w os) (piecesOf ss12 env cE ⟨537, 0, 537, 11⟩ B) = some (.next, S12 w os, cE, ⟨538, 0, 580, 44⟩) := by
  rw [PySem.W.Fast.te10110043849684766642, PySem.W.Fast.te14364793385576792824]
  kernel_rfl
theorem p13 (w : World) (os : OsState) : segRunT treeTable PySem.Challenge.pw_pq0479_01 w 11 ann 1 391 (S12 w os) (piecesOf ss13 env cE ⟨538, 0, 580, 44⟩ B) = some (.next, S13 w os, cE, ⟨696, 0, 703, 16⟩) := by
  rw [PySem.W.Fast.te10110043849684766642, PySem.W.Fast.te14364793385576792824]
  kernel_rfl
theorem p14 (w : World) (os : OsState) : segRunT treeTable PySem.Challenge.pw_pq0479_01 w 11 ann 1 393 (S13 w os) (piecesOf ss14 env cE ⟨696, 0, 703, 16⟩ B) = some (.next, S14 w os, cE, ⟨819, 0, 829, 46⟩) := by
  rw [PySem.W.Fast.te10110043849684766642, PySem.W.Fast.te14364793385576792824]
  kernel_rfl
theorem p15 (w : World) (os : OsState) : segRunT treeTable PySem.Challenge.pw_pq0479_01 w 11 ann 1 399 (S14 w os) (piecesOf ss15 env cE ⟨819, 0, 829, 46⟩ B) = some (.next, S15 w os, cE, ⟨879, 0, 895, 15⟩) := by
  rw [PySem.W.Fast.te10110043849684766642, PySem.W.Fast.te14364793385576792824]
  kernel_rfl
theorem p16 (w : World) (os : OsState) : segRunT treeTable PySem.Challenge.pw_pq0479_01 w 11 ann 1 393 (S15 w os) (piecesOf ss16 env cE ⟨879, 0, 895, 15⟩ B) = some (.next, S16 w os, cE, ⟨1028, 0, 1028, 21⟩) := by
  rw [PySem.W.Fast.te10110043849684766642, PySem.W.Fast.te14364793385576792824]
  kernel_rfl
theorem p17 (w : World) (os : OsState) : segRunT treeTable PySem.Challenge.pw_pq0479_01 w 11 ann 1 398 (S16 w os) (piecesOf ss17 env cE ⟨1028, 0, 1028, 21⟩ B) = some (.next, S17 w os, cE, ⟨1146, 0, 1152, 71⟩) := by
  rw [PySem.W.Fast.te10110043849684766642, PySem.W.Fast.te14364793385576792824]
  kernel_rfl
theorem p18 (w : World) (os : OsState) : segRunT treeTable PySem.Challenge.pw_pq0479_01 w 11 ann 1 135 (S17 w os) (piecesOf ss18 env cE ⟨1146, 0, 1152, 71⟩ B) = some (.next, S18 w os, cE, ⟨1175, 0, 1176, 89⟩) := by
  rw [PySem.W.Fast.te10110043849684766642, PySem.W.Fast.te14364793385576792824]
  kernel_rfl
theorem p19 (w : World) (os : OsState) : segRunT treeTable PySem.Challenge.pw_pq0479_01 w 11 ann 1 399 (S18 w os) (piecesOf ss19 env cE ⟨1175, 0, 1176, 89⟩ B) = some (.next, S19 w os, cE, ⟨1177, 0, 1222, 20⟩) := by
  rw [PySem.W.Fast.te10110043849684766642, PySem.W.Fast.te14364793385576792824]
  kernel_rfl
theorem p20 (w : World) (os : OsState) : segRunT treeTable PySem.Challenge.pw_pq0479_01 w 11 ann 1 439 (S19 w os) (piecesOf ss20 env cE ⟨1177, 0, 1222, 20⟩ B) = some (.next, S20 w os, cE, ⟨1223, 0, 1265, 22⟩) := by
  rw [PySem.W.Fast.te10110043849684766642, PySem.W.Fast.te14364793385576792824]
  kernel_rfl
theorem p21 (w : World) (os : OsState) : segRunT treeTable PySem.Challenge.pw_pq0479_01 w 11 ann 1 10 (S20 w os) (piecesOf ss21 env cE ⟨1223, 0, 1265, 22⟩ B) = some (.next, S21 w os, cE, ⟨1266, 0, 1266, 8⟩) := by
  rw [PySem.W.Fast.te10110043849684766642, PySem.W.Fast.te14364793385576792824]
  kernel_rfl
theorem p22 (w : World) (os : OsState) : segRunT treeTable PySem.Challenge.pw_pq0479_01 w 11 ann 1 504 (S21 w os) (piecesOf ss22 env cE ⟨1266, 0, 1266, 8⟩ B) = some (.next, S22 w os, cE, ⟨1267, 0, 1348, 88⟩) := by
  rw [PySem.W.Fast.te10110043849684766642, PySem.W.Fast.te14364793385576792824]
  kernel_rfl
theorem p23 (w : World) (os : OsState) : segRunT treeTable PySem.Challenge.pw_pq0479_01 w 11 ann 1 113 (S22 w os) (piecesOf ss23 env cE ⟨1267, 0, 1348, 88⟩ B) = some (.next, S23 w os, cE, ⟨1363, 0, 1387, 101⟩) := by
  rw [PySem.W.Fast.te10110043849684766642, PySem.W.Fast.te14364793385576792824]
  kernel_rfl
end
section
set_option maxRecDepth 100000
set_option maxHeartbeats 0
theorem bE_split : bE = (ss1 ++ (ss2 ++ (ss3 ++ (ss4 ++ (ss5 ++ (ss6 ++ (ss7 ++ (ss8 ++ (ss9 ++ (ss10 ++ (ss11 ++ (ss12 ++ (ss13 ++ (ss14 ++ (ss15 ++ (ss16 ++ (ss17 ++ (ss18 ++ (ss19 ++ (ss20 ++ (ss21 ++ (ss22 ++ (ss23 ++ []))))))))))))))))))))))) := by kernel_rfl
theorem run (w : World) (os : OsState) : topRun treeTable PR w 11 ann (12 + (1 + (279 + (214 + (374 + (334 + (333 + (395 + (392 + (389 + (377 + (385 + (160 + (383 + (391 + (393 + (399 + (393 + (398 + (135 + (399 + (439 + (10 + (504 + (113 + 2))))))))))))))))))))))))) ⟨boot_heap w.params, Array.mk [], boot_drawn, boot_toks, os⟩ (topStub PR) = some (S23 w os).abs := by
  have k : topRun treeTable PR w 11 ann 2 (S23 w os).abs (restOf [] env cE ⟨1363, 0, 1387, 101⟩ B) = some (S23 w os).abs := fin w os
  replace k := piece_app (segRun_of (p23 w os)) k
  replace k := piece_app (segRun_of (p22 w os)) k
  replace k := piece_app (segRun_of (p21 w os)) k
  replace k := piece_app (segRun_of (p20 w os)) k
  replace k := piece_app (segRun_of (p19 w os)) k
  replace k := piece_app (segRun_of (p18 w os)) k
  replace k := piece_app (segRun_of (p17 w os)) k
  replace k := piece_app (segRun_of (p16 w os)) k
  replace k := piece_app (segRun_of (p15 w os)) k
  replace k := piece_app (segRun_of (p14 w os)) k
  replace k := piece_app (segRun_of (p13 w os)) k
  replace k := piece_app (segRun_of (p12 w os)) k
  replace k := piece_app (segRun_of (p11 w os)) k
  replace k := piece_app (segRun_of (p10 w os)) k
  replace k := piece_app (segRun_of (p9 w os)) k
  replace k := piece_app (segRun_of (p8 w os)) k
  replace k := piece_app (segRun_of (p7 w os)) k
  replace k := piece_app (segRun_of (p6 w os)) k
  replace k := piece_app (segRun_of (p5 w os)) k
  replace k := piece_app (segRun_of (p4 w os)) k
  replace k := piece_app (segRun_of (p3 w os)) k
  replace k := piece_app (segRun_of (p2 w os)) k
  replace k := piece_app (segRun_of (p1 w os)) k
  rw [← bE_split] at k
  exact go_top (pre w os) (piece_block (blk w os) k)
theorem looks (w : World) : (fun os => ((staticsOk (importedModules PR.main.body) (boot_heap w.params) (H1 w.params) && namesBound PR (H1 w.params) && gensDone ⟨H1 w.params, gs0, {}, 2135, os⟩ && laidKept (boot_heap w.params) (H1 w.params)),
        openSeen q loose (importedModules PR.main.body) (fun s => xlAt q [] s && recOk [] s) true ⟨H1 w.params, gs0, {}, 2135, os⟩, Hook.obs HH ⟨H1 w.params, gs0, {}, 2135, os⟩)) = fun _ => (true, openGood q loose, Hook.val HH w) := by
  funext os
  have a := congrFun (l5 w) os
  have b := congrFun (l6 w) os
  rw [a, b, l1, l2, l4]
  rfl
theorem left : LeftO PR q loose (fun s => xlAt q [] s && recOk [] s) (Hook.obs HH) (Hook.val HH) 20000 :=
  LeftO.of_pieces (H₀ := boot_heap) (H₁ := H1) (gs₀ := Array.mk []) (gs₁ := gs0) (d₀ := boot_drawn) (d₁ := {}) (k₀ := boot_toks) (k₁ := 2135) (m₀ := 11) (ann := ann) (M := (12 + (1 + (279 + (214 + (374 + (334 + (333 + (395 + (392 + (389 + (377 + (385 + (160 + (383 + (391 + (393 + (399 + (393 + (398 + (135 + (399 + (439 + (10 + (504 + (113 + 2)))))))))))))))))))))))))) opn siz run (by decide +kernel) looks
end
section
set_option maxRecDepth 100000
set_option maxHeartbeats 0
abbrev LW : OpenLaw := PySem.Challenge.rw_pq0479_01
theorem sa : sreFenced PR.main = true := by
  rw [PySem.W.Fast.te11788848310118352699]
  kernel_rfl
theorem sb : ((moduleNames PR.main.body).isEmpty || lookedIntoSs (moduleNames PR.main.body) PR.main.body) = true := by
  kernel_rfl
theorem sc : namesResolve PR = true := by
  rw [PySem.W.Fast.te8377067652309620493]
  kernel_rfl
theorem sd : PR.boundNames.all (fun n => !worldNames.contains n) = true := by
  rw [PySem.W.Fast.te18344453789297297638, PySem.W.Fast.te14412699480532031325]
  kernel_rfl
theorem se : noRoadLSs { strict := !(importedModules PR.main.body).all cThrough.contains, foot := none, bare := (["vars", "dir", "locals"] : List Str).filter (readsOut PR PR.main.body) } PR.main.body = true := by
  rw [PySem.W.Fast.te8326940854005059898]
  kernel_rfl
theorem sf : (namesMeet PR PR.main.body fun _ n => attrL n) = true := by
  rw [PySem.W.Fast.te17119622794617984870]
  kernel_rfl
theorem opens : looksOpen PR = true := by
  unfold looksOpen
  rw [sa, sb, sc, sd, se, sf]
  rfl
theorem part : LW.row.partSaid = true := by
  unfold OpenRow.partSaid
  have h : looksOpen LW.row.prog = true := opens
  rw [h]
  kernel_rfl
theorem rowSaid : LW.row.wellSaid = true := by
  unfold OpenRow.wellSaid
  rw [part, PySem.W.Fast.te18344453789297297638, PySem.W.Fast.te12749700546528644094]
  kernel_rfl
theorem sg : (LW.footing.all footLine && noClassBlock LW.prog LW.footing) = true := by
  rw [PySem.W.Fast.te10501279942588096481, PySem.W.Fast.te8179353310426384613]
  kernel_rfl
theorem sh : noRoadLSs { strict := true, foot := some LW.bound', writes := LW.writes, may := LW.may } LW.footing = true := by
  rw [PySem.W.Fast.te8326940854005059898]
  kernel_rfl
theorem si : (defStands LW.about LW.above && LW.namesIt) = true := by
  rw [PySem.W.Fast.te9558739934217749035, PySem.W.Fast.te16286561074155671207]
  kernel_rfl
theorem sj : namesMeet LW.prog LW.above (fun _ n => !LW.own.contains n) = true := by
  rw [PySem.W.Fast.te17119622794617984870]
  kernel_rfl
theorem sk : (namesMeet LW.prog LW.footing fun sc n => sc.kind == .module || sc.names.lookup n != some .globalExplicit) = true := by
  rw [PySem.W.Fast.te17119622794617984870]
  kernel_rfl
theorem said : LW.wellSaid = true := by
  obtain ⟨g1, g2⟩ := Bool.and_eq_true_iff.mp sg
  obtain ⟨i1, i2⟩ := Bool.and_eq_true_iff.mp si
  unfold OpenLaw.wellSaid
  rw [rowSaid, g1, g2, sh, i1, i2, sj, sk]
  simp only [Bool.true_and, Bool.and_true]
  kernel_rfl
end
section
set_option maxRecDepth 100000
set_option maxHeartbeats 4000000
noncomputable def dL : DefRec := ⟨"law", fA (st 163), fB (st 163), fS (st 163), ⟨1363, 0, 1387, 101⟩⟩
theorem isDef : defOf q LW.row.name = some (dL, []) := by
  kernel_rfl
theorem isThe : LW.row.prog.theDef LW.row.name = some (dL.params, dL.body, dL.scope) := by
  kernel_rfl
theorem kwW : kwWritten? dL.params.kwonlyargs dL.params.kw_defaults = some [] := by
  kernel_rfl
theorem okq : (chainsOk q && opensWell PR && (frees LW.row.toRowW && LW.row.toRowW.within.isEmpty)) = true := by kernel_rfl
theorem head (said : LW.wellSaid = true) (d : DefRec) (hd : defOf q LW.row.name = some (d, [])) (hp : LW.row.prog.theDef LW.row.name = some (d.params, d.body, d.scope)) (hk : kwWritten? d.params.kwonlyargs d.params.kw_defaults = some [])
   (hc : WalkO q loose (XL q []) (Hook.says HH) LW.row.toRowW d [] (fun f vs => PySem.call f vs)) : LW.Holds := by
  refine holds_law said fun sd => ?_
  refine holds_open (r := LW.row) (q := q) (loose := loose) (Xt := fun s => xlAt q [] s && recOk (RowW.records LW.row.toRowW) s) (XP := XL q []) (Yf := Hook.obs HH) (Ya := Hook.val HH) (YP := Hook.says HH) (N := 20000) left (Hook.of HH) (Hook.keeps HH) (fun s e => xl_of s (Bool.and_eq_true_iff.mp e).1) XL.keeps hd hp hk (fun s e => recFacts_of (Bool.and_eq_true_iff.mp e).2) (by rfl) sd ?_ ⟨rfl, rfl, rfl, rfl, rfl, by decide +kernel⟩ ?_ hc
  · exact okq
  · w_witness2
end
section
section
variable {prog : Program} {w : World} {A A₀ : Around} {E : Value → Shared → Prop} {s : Shared} {K : Frag} {C L : Addr} {h₀ base : Heap} {m mg mb : Str → Option Value} {news : List (Addr × Obj)} {p : Program} {loose : List Str} {mean : ExcName → Option Value}
theorem code_defCX {env : Env} {outer : List Env} {R : Result → Shared → Prop} {name qual : Str} {params params' : Arguments} {body body' : List Stmt} {scope scope' : Scope} {dV kV doc pm cdv ct oc : Value} {an od : Option Addr} {osl : Array (Option Value)} {f : Addr} {args : Args} {binds : List (Str × Value)}
    (ho : K.lookup f = some ⟨oc, od, .func (fnOf name qual params' body' scope' dV kV doc pm an cdv ct), osl⟩) (e1 : params' = params) (e2 : body' = body) (e3 : scope' = scope)
    (B : Below A₀ base outer h₀) (F : Fr h₀ L s.heap m) (X₀ : K.In h₀) (N : News h₀ L s.heap news) (T : Top p loose mean mg mb h₀) (hA : A.frames = some (env :: outer)) (hf : env.frame = some L) (hke : env.scope.kind = .function)
    (hcd : codeIn K cdv qual = true) (hroom : A.depth < recursionLimit)
    (hbind : BindsTo s (fnOf name qual params body scope dV kV doc pm an cdv ct) args binds) (hkind : (binds.all fun y => scope.names.lookup y.1 == some .local || scope.names.lookup y.1 == some .cell) = true)
    (hnd : ((cellsFrom 0 scope.names []).map (·.1)).Nodup)
    (h : ∀ g L' h₁ tk cells, Fr h₀ L g m → Fr g L' h₁ (bindL (envOfC qual scope L' f cdv).kindOf binds fun _ => none) → News g L' h₁ (cells ++ news) →
      CellsAre (bindC (envOfC qual scope L' f cdv).kindOf binds fun _ => none) (cellsFrom (L' + 1) scope.names []) cells → Below A base (env :: outer) g → K.In g → Top p loose mean mg mb g → (∀ p ∈ news, p.1 < L') →
      wpAny (model prog w) (A.deeper (envOfC qual scope L' f cdv)) (execs body (envOfC qual scope L' f cdv))
        (fun fl s' => LeaveK h₀ L m g R (match fl with | .ret v => v | _ => .none) s')
        (fun e s' => wpAny (model prog w) (A.deeper (envOfC qual scope L' f cdv)) (leaving (envOfC qual scope L' f cdv) e) (fun _ s'' => R (.error e) s'') (fun e' s'' => R (.error e') s'') s')
        { s with heap := h₁, toks := tk })
    (hco : scope.isCoroutine = false) (hgen : scope.isGenerator = false) (hk : scope.kind = .function) : codeAny (model prog w) A (.call (.ref f) args) R s := by
  subst e1 e2 e3
  exact code_defC B F X₀ N T hA hf hke ho hcd hroom hbind hkind hnd h hco hgen hk
theorem code_defX {env : Env} {outer : List Env} {R : Result → Shared → Prop} {name qual : Str} {params params' : Arguments} {body body' : List Stmt} {scope scope' : Scope} {dV kV doc pm cdv ct oc : Value} {an od : Option Addr} {osl : Array (Option Value)} {f : Addr} {args : Args} {binds : List (Str × Value)}
    (ho : K.lookup f = some ⟨oc, od, .func (fnOf name qual params' body' scope' dV kV doc pm an cdv ct), osl⟩) (e1 : params' = params) (e2 : body' = body) (e3 : scope' = scope)
    (B : Below A₀ base outer h₀) (F : Fr h₀ L s.heap m) (X₀ : K.In h₀) (N : News h₀ L s.heap news) (T : Top p loose mean mg mb h₀) (hA : A.frames = some (env :: outer)) (hf : env.frame = some L) (hke : env.scope.kind = .function)
    (hcd : codeIn K cdv qual = true) (hroom : A.depth < recursionLimit)
    (hbind : BindsTo s (fnOf name qual params body scope dV kV doc pm an cdv ct) args binds) (hloc : ∀ y ∈ binds, scope.names.lookup y.1 = some .local)
    (h : ∀ g L' h₁, Fr h₀ L g m → Fr g L' h₁ (fun y => binds.reverse.lookup y) → News g L' h₁ news → Below A base (env :: outer) g → K.In g → Top p loose mean mg mb g →
      wpAny (model prog w) (A.deeper (envOf qual scope L' f cdv)) (execs body (envOf qual scope L' f cdv))
        (fun fl s' => LeaveK h₀ L m g R (match fl with | .ret v => v | _ => .none) s')
        (fun e s' => wpAny (model prog w) (A.deeper (envOf qual scope L' f cdv)) (leaving (envOf qual scope L' f cdv) e) (fun _ s'' => R (.error e) s'') (fun e' s'' => R (.error e') s'') s')
        { s with heap := h₁, toks := s.toks + binds.length })
    (hco : scope.isCoroutine = false) (hgen : scope.isGenerator = false) (hk : scope.kind = .function)
    (hcell : ∀ x ∈ scope.names, x.2 ≠ .cell) : codeAny (model prog w) A (.call (.ref f) args) R s := by
  subst e1 e2 e3
  exact code_def B F X₀ N T hA hf hke ho hcd hroom hbind hloc h hco hgen hk hcell
theorem code_defT {env : Env} {outer : List Env} {R : Result → Shared → Prop} {name qual : Str} {params params' : Arguments} {body body' : List Stmt} {scope scope' : Scope} {dV kV doc pm cdv ct oc : Value} {an od : Option Addr} {osl : Array (Option Value)} {f : Addr} {args : Args} {binds : List (Str × Value)}
    (ho : K.lookup f = some ⟨oc, od, .func (fnOf name qual params' body' scope' dV kV doc pm an cdv ct), osl⟩) (e1 : params' = params) (e2 : body' = body) (e3 : scope' = scope)
    (B : Below A₀ base outer h₀) (F : Fr h₀ L s.heap m) (X₀ : K.In h₀) (N : News h₀ L s.heap news) (T : Top p loose mean mg mb h₀) (hA : A.frames = some (env :: outer)) (hf : env.frame = some L) (hke : env.scope.kind = .function)
    (hcd : codeIn K cdv qual = true) (hroom : A.depth < recursionLimit)
    (hbind : BindsTo s (fnOf name qual params body scope dV kV doc pm an cdv ct) args binds) (hloc : ∀ y ∈ binds, scope.names.lookup y.1 = some .local)
    (h : ∀ g L' h₁ tk, Fr h₀ L g m → Fr g L' h₁ (fun y => binds.reverse.lookup y) → News g L' h₁ news → Below A base (env :: outer) g → K.In g → Top p loose mean mg mb g →
      wpAny (model prog w) (A.deeper (envOf qual scope L' f cdv)) (execs body (envOf qual scope L' f cdv))
        (fun fl s' => LeaveK h₀ L m g R (match fl with | .ret v => v | _ => .none) s')
        (fun e s' => wpAny (model prog w) (A.deeper (envOf qual scope L' f cdv)) (leaving (envOf qual scope L' f cdv) e) (fun _ s'' => R (.error e) s'') (fun e' s'' => R (.error e') s'') s')
        { s with heap := h₁, toks := tk })
    (hco : scope.isCoroutine = false) (hgen : scope.isGenerator = false) (hk : scope.kind = .function)
    (hcell : ∀ x ∈ scope.names, x.2 ≠ .cell) : codeAny (model prog w) A (.call (.ref f) args) R s := by
  subst e1 e2 e3
  exact code_def B F X₀ N T hA hf hke ho hcd hroom hbind hloc (fun g L' h₁ => h g L' h₁ _) hco hgen hk hcell
theorem code_defY {env : Env} {outer : List Env} {R : Result → Shared → Prop} {name qual : Str} {params params' : Arguments} {body body' : List Stmt} {scope scope' : Scope} {dV kV doc pm cdv ct oc : Value} {an od : Option Addr} {osl : Array (Option Value)} {f : Addr} {args : Args} {binds : List (Str × Value)}
    (ho : K.lookup f = some ⟨oc, od, .func (fnOf name qual params' body' scope' dV kV doc pm an cdv ct), osl⟩) (e1 : params' = params) (e2 : body' = body) (e3 : scope' = scope)
    (B : Below A₀ base outer h₀) (F : Fr h₀ L s.heap m) (X₀ : K.In h₀) (N : News h₀ L s.heap news) (T : Top p loose mean mg mb h₀) (hA : A.frames = some (env :: outer)) (hf : env.frame = some L) (hke : env.scope.kind = .function)
    (hcd : codeIn K cdv qual = true) (hroom : A.depth < recursionLimit)
    (hbind : BindsTo s (fnOf name qual params body scope dV kV doc pm an cdv ct) args binds) (hz : List.zip (params.args.map Arg.arg) args.pos = binds) (hloc : ∀ y ∈ binds, scope.names.lookup y.1 = some .local)
    (h : ∀ g L' h₁ tk, Fr h₀ L g m → Fr g L' h₁ (fun y => (List.zip (params.args.map Arg.arg) args.pos).reverse.lookup y) → News g L' h₁ news → Below A base (env :: outer) g → K.In g → Top p loose mean mg mb g →
      wpAny (model prog w) (A.deeper (envOf qual scope L' f cdv)) (execs body (envOf qual scope L' f cdv))
        (fun fl s' => LeaveK h₀ L m g R (match fl with | .ret v => v | _ => .none) s')
        (fun e s' => wpAny (model prog w) (A.deeper (envOf qual scope L' f cdv)) (leaving (envOf qual scope L' f cdv) e) (fun _ s'' => R (.error e) s'') (fun e' s'' => R (.error e') s'') s')
        { s with heap := h₁, toks := tk })
    (hco : scope.isCoroutine = false) (hgen : scope.isGenerator = false) (hk : scope.kind = .function)
    (hcell : ∀ x ∈ scope.names, x.2 ≠ .cell) : codeAny (model prog w) A (.call (.ref f) args) R s := by
  subst e1 e2 e3 hz
  exact code_def B F X₀ N T hA hf hke ho hcd hroom hbind hloc (fun g L' h₁ => h g L' h₁ _) hco hgen hk hcell
end
noncomputable abbrev tupO (vs : List Value) (n : Nat) : Obj := { cls := .type "tuple", data := .seq vs.toArray n }
theorem band {x : Int} {k : Nat} (h0 : 0 ≤ x) (h1 : x < 2 ^ k) : Builtin.bitAnd x (2 ^ k - 1) = x := by
  have hp : (0 : Int) ≤ 2 ^ k - 1 := by have : (0 : Int) < 2 ^ k := Int.pow_pos (by decide); omega
  unfold Builtin.bitAnd
  rw [decide_eq_true h0, decide_eq_true hp]
  show ((x.toNat &&& (2 ^ k - 1 : Int).toNat : Nat) : Int) = x
  have e : (2 ^ k - 1 : Int).toNat = 2 ^ k - 1 := by
    have : (2 ^ k : Int) = ((2 ^ k : Nat) : Int) := by norm_cast
    rw [this]; omega
  rw [e, Nat.and_two_pow_sub_one_eq_mod, Nat.mod_eq_of_lt, Int.toNat_of_nonneg h0]
  have : (2 ^ k : Int) = ((2 ^ k : Nat) : Int) := by norm_cast
  rw [this] at h1; omega
theorem ltAll {d : Addr} : ∀ {l : List (Addr × Obj)}, AllLt d l → ∀ p ∈ l, p.1 < d
  | [], _, _, h => nomatch h
  | _ :: _, h, _, .head _ => h.1
  | _ :: _, h, _, .tail _ m => ltAll h.2 _ m
theorem newsSub {h₀ h : Heap} {L : Addr} {l l' : List (Addr × Obj)} (N : News h₀ L h l) (x : ∀ p ∈ l', p ∈ l) : News h₀ L h l' := fun p hp => N p (x p hp)
theorem consSub {x : Addr × Obj} {r l : List (Addr × Obj)} (a : x ∈ l) (b : ∀ p ∈ r, p ∈ l) : ∀ p ∈ x :: r, p ∈ l := fun p hp => by
  rcases List.mem_cons.mp hp with rfl | hp
  · exact a
  · exact b p hp
theorem tailSub {x : Addr × Obj} {r l : List (Addr × Obj)} (b : ∀ p ∈ r, p ∈ l) : ∀ p ∈ r, p ∈ x :: l := fun p hp => List.mem_cons_of_mem _ (b p hp)
theorem selfSub {r : List (Addr × Obj)} : ∀ p ∈ r, p ∈ r := fun _ hp => hp
theorem nilSub {r : List (Addr × Obj)} : ∀ p ∈ ([] : List (Addr × Obj)), p ∈ r := fun _ hp => nomatch hp
section
variable {prog : Program} {w : World} {A : Around} {E : Value → Shared → Prop} {h₀ : Heap} {L : Addr} {m : Str → Option Value} {news : List (Addr × Obj)}
theorem slice1 {h : Heap} {gs : Array GenState} {dr : Drawn} {tk : Nat} {os : OsState} {value slice : Expr} {t : Addr} {x : Value} {xs : List Value} {n : Nat} {u : Tok} {Q : Value → Shared → Prop}
    (F : Fr h₀ L h m) (N : News h₀ L h news) (ht : (t, tupO (x :: xs) n) ∈ news) (hsz : (x :: xs).length ≤ sizeLine)
    (k : ∀ r h', Fr h₀ L h' m → News h₀ L h' ((r, tupO xs 0) :: news) → (∀ p ∈ news, p.1 < r) → Q (.ref r) ⟨h', gs, dr, tk, os⟩)
    (hs : subscripted slice false (.ref t) (.ref h.objs.size) = operate [.ref h.objs.size, .ref t] (getItem (.ref t) (.ref h.objs.size)))
    (hg : ∀ r, letTemporaryGo value (.ref t) r = pure ()) :
    wpAny (model prog w) A (subscriptTail value slice (.ref t) (.ref h.objs.size)) Q E ⟨h.push { cls := .type "slice", data := .fields #[.int 1 u, .none, .none] }, gs, dr, tk, os⟩ :=
  slice_tuple_from (s := ⟨h, gs, dr, tk, os⟩) (a := 1) F N (News.isTup N ht) (Nat.le_refl 1) (by simp) (fun h' F' N' => k _ h' F' N' fun p hp => Nat.lt_succ_of_lt (Heap.lt_size (N p hp).1)) hs hg (by simpa using hsz)
end
structure DV where
  k1 : Tok
  k2 : Tok
  k3 : Tok
  k4 : Tok
  k5 : Tok
  k6 : Tok
  k7 : Tok
  k8 : Tok
  k9 : Tok
  k10 : Tok
  k11 : Tok
  k12 : Tok
  v1 : Value
  v2 : Value
  v3 : Value
  v4 : Value
  v5 : Value
  v6 : Value
  v7 : Value
  v8 : Value
  v9 : Value
  v10 : Value
  v12 : Value
structure SV where
  k1 : Tok
  k2 : Tok
  k3 : Tok
  k4 : Tok
  k5 : Tok
  k6 : Tok
  k7 : Tok
  k8 : Tok
  k9 : Tok
  v2 : Value
  v3 : Value
  v4 : Value
  v5 : Value
  v6 : Value
  v7 : Value
  v8 : Value
  v9 : Value
noncomputable abbrev ent (P : Params) (k : String) (t : Tok) (v : Value) : DictEntry := ⟨PyData.keyHash P (Str.ofString k), .str (Str.ofString k) t, v⟩
noncomputable abbrev dst (P : Params) (d : DV) (n : Int) (tn : Tok) : Obj := dictOf [ent P "signals" d.k1 d.v1, ent P "assigns" d.k2 d.v2, ent P "gates" d.k3 d.v3, ent P "udps" d.k4 d.v4, ent P "processes" d.k5 d.v5, ent P "routines" d.k6 d.v6, ent P "scopes" d.k7 d.v7, ent P "tops" d.k8 d.v8, ent P "ports" d.k9 d.v9, ent P "maker" d.k10 d.v10, ent P "nesting" d.k11 (.int n tn), ent P "by_path" d.k12 d.v12] 12
noncomputable abbrev sst (P : Params) (c : SV) (D : Addr) : Obj := dictOf [ent P "design" c.k1 (.ref D), ent P "name" c.k2 c.v2, ent P "parent" c.k3 c.v3, ent P "kind" c.k4 c.v4, ent P "path" c.k5 c.v5, ent P "nettype" c.k6 c.v6, ent P "module_name" c.k7 c.v7, ent P "entries" c.k8 c.v8, ent P "number" c.k9 c.v9] 9
/-- what a call's surroundings are -/
structure Sur (w : World) (mean : ExcName → Option Value) (mg mb : Str → Option Value) (dp un kd ku : Nat) (cs : Scope) (outer : List Env) (A₀ : Around) (base h₀ : Heap) (L : Addr) (m : Str → Option Value) (h : Heap) : Prop where
  bl : Below A₀ base outer h₀
  f : Fr h₀ L h m
  x : (K w.params).In h₀
  t : Top q loose mean mg mb h₀
  k : cs.kind = .function
  d : dp + kd < recursionLimit
  u : un + ku < cLine
noncomputable def ConstOk (w : World) (mean : ExcName → Option Value) (mg mb : Str → Option Value) (d : DV) (dd : Addr) (n : Int) (rest : List (Addr × Obj)) (S e : Addr) (kd ku : Nat) (wd x y : Int) (sg : Bool) : Prop :=
  ∀ (dp un : Nat) (gd : Option (List Code)) (cn : Str) (cs : Scope) (a : Addr) (ccd : Value) (cl : List (Str × Addr)) (outer : List Env) (A₀ : Around) (base h₀ : Heap) (L : Addr) (m : Str → Option Value) (s : Shared) (Q E : Value → Shared → Prop) (tn : Tok),
   Below A₀ base outer h₀ → Fr h₀ L s.heap m → (K w.params).In h₀ → News h₀ L s.heap ((dd, dst w.params d n tn) :: rest) → Top q loose mean mg mb h₀ → cs.kind = .function → dp + kd < recursionLimit → un + ku < cLine →
   (∀ r c h' tk t1 t2 t3 n1 n2 tn', Fr h₀ L h' m → News h₀ L h' ((r, tupO [.ref c, .bool sg] n1) :: (c, tupO [.int wd t1, .int x t2, .int y t3] n2) :: (dd, dst w.params d n tn') :: rest) → (∀ p ∈ (dd, dst w.params d n tn') :: rest, p.1 < c) → c < r → Q (.ref r) { s with heap := h', toks := tk }) →
   wpAny (model PySem.Challenge.rw_pq0479_01.prog w) (ktrTop dp un gd cn cs L a ccd cl outer) (call (.ref 1102) [.ref S, .ref e]) Q E s
noncomputable def WholeOk (w : World) (mean : ExcName → Option Value) (mg mb : Str → Option Value) (d : DV) (dd : Addr) (n : Int) (rest : List (Addr × Obj)) (S e : Addr) (kd ku : Nat) (v : Int) : Prop :=
  ∀ (dp un : Nat) (gd : Option (List Code)) (cn : Str) (cs : Scope) (a : Addr) (ccd : Value) (cl : List (Str × Addr)) (outer : List Env) (A₀ : Around) (base h₀ : Heap) (L : Addr) (m : Str → Option Value) (s : Shared) (Q E : Value → Shared → Prop) (tn : Tok),
   Below A₀ base outer h₀ → Fr h₀ L s.heap m → (K w.params).In h₀ → News h₀ L s.heap ((dd, dst w.params d n tn) :: rest) → Top q loose mean mg mb h₀ → cs.kind = .function → dp + kd < recursionLimit → un + ku < cLine →
   (∀ h' tk tn' t', Fr h₀ L h' m → News h₀ L h' ((dd, dst w.params d n tn') :: rest) → Q (.int v t') { s with heap := h', toks := tk }) →
   wpAny (model PySem.Challenge.rw_pq0479_01.prog w) (ktrTop dp un gd cn cs L a ccd cl outer) (call (.ref 1109) [.ref S, .ref e]) Q E s
end
section
inductive Del (I : Addr) : List (Addr × Obj) → List (Addr × Obj) → Prop
  | head {o : Obj} {r : List (Addr × Obj)} : (∀ p ∈ r, p.1 ≠ I) → Del I ((I, o) :: r) r
  | tail {p : Addr × Obj} {r r' : List (Addr × Obj)} : p.1 ≠ I → Del I r r' → Del I (p :: r) (p :: r')
theorem Del.sub {I : Addr} : ∀ {l l' : List (Addr × Obj)}, Del I l l' → ∀ p ∈ l', p ∈ l ∧ p.1 ≠ I
  | _, _, .head h, p, hp => ⟨List.mem_cons_of_mem _ hp, h p hp⟩
  | _, _, .tail h r, p, hp => by
    rcases List.mem_cons.mp hp with rfl | hp
    · exact ⟨List.mem_cons_self, h⟩
    · exact ⟨List.mem_cons_of_mem _ (r.sub p hp).1, (r.sub p hp).2⟩
theorem allNe {d : Addr} {l : List (Addr × Obj)} (h : ∀ p ∈ l, p.1 < d) : ∀ p ∈ l, p.1 ≠ d := fun p hp => Nat.ne_of_lt (h p hp)
section
variable {prog : Program} {w : World} {A : Around} {E : Value → Shared → Prop} {s : Shared} {env : Env} {h₀ : Heap} {x : Str} {body : List Stmt} {Q : Flow → Shared → Prop}
noncomputable def OneEnd (h₀ : Heap) (env : Env) (I a : Addr) (it tup : Obj) (Q : Flow → Shared → Prop) (f : Flow) (s₂ : Shared) : Prop := match f with
  | .ret v => Q (.ret v) s₂
  | .brk => Q .next s₂
  | _ => ∃ m' news' news'', Fr h₀ env.locals s₂.heap m' ∧ News h₀ env.locals s₂.heap news' ∧ (I, it) ∈ news' ∧ (a, tup) ∈ news' ∧ Del I news' news'' ∧ ∀ h' tk, Fr h₀ env.locals h' m' → News h₀ env.locals h' news'' → Q .next { s₂ with heap := h', toks := tk }
noncomputable def OneAt (prog : Program) (w : World) (A : Around) (h₀ : Heap) (env : Env) (x : Str) (px : Pos) (body : List Stmt) (Q : Flow → Shared → Prop) (E : Value → Shared → Prop) (xv : Value) (s₁ : Shared) : Prop :=
  wpAny (model prog w) A (pyIter xv) (fun it s₂ => codeAny (model prog w) A (.forLoop (.Name x px) it body [] env) (fun r s' => match r with | .ok f => Q f s' | .error e => cameBackBy (model prog w) A env E e s') s₂) E s₁
theorem OneEnd.nx {I a : Addr} {it tup : Obj} {s₂ : Shared} {m' : Str → Option Value} {news' news'' : List (Addr × Obj)} (F : Fr h₀ env.locals s₂.heap m') (N : News h₀ env.locals s₂.heap news') (hi : (I, it) ∈ news') (ha : (a, tup) ∈ news') (d : Del I news' news'')
    (k : ∀ h' tk, Fr h₀ env.locals h' m' → News h₀ env.locals h' news'' → Q .next { s₂ with heap := h', toks := tk }) : OneEnd h₀ env I a it tup Q .next s₂ := ⟨_, _, _, F, N, hi, ha, d, k⟩
theorem OneEnd.rt {I a : Addr} {it tup : Obj} {s₂ : Shared} {v : Value} (h : Q (.ret v) s₂) : OneEnd h₀ env I a it tup Q (.ret v) s₂ := h
theorem forOne {m : Str → Option Value} {px pos : Pos} {iter : Expr} (_F : Fr h₀ env.locals s.heap m)
    (h : wpAny (model prog w) A (eval iter env) (fun xv s₁ => OneAt prog w A h₀ env x px body Q E xv s₁) E s)
    (hs : ∀ x, foldedSetIterable iter env x = pure x := by intro _; rfl) :
    wpAny (model prog w) A (exec (.For (.Name x px) iter body [] pos) env) Q E s := wpAny_For h hs
theorem one_loop {px : Pos} {R : Result → Shared → Prop} {m : Str → Option Value} {news : List (Addr × Obj)} {I a : Addr} {v : Value} {tup : Obj} {St : Nat → Heap → Prop} (hx : env.kindOf x = some .local)
    (hp : (env.scope.kind == .class || (env.scope.kind == .module && env.locals != env.globals)) = false)
    (hI : I ≠ a) (hIL : I ≠ env.locals) (hI0 : h₀.get? I = none) (hlt : ∀ p ∈ news, p.1 < I) (hst : St 0 s.heap) (hin : ∀ i h, St i h → ∃ it, h.get? I = some it)
    (hfr : ∀ i h h', St i h → (∀ b, b = I ∨ b = a → ∀ o, h.get? b = some o → h'.get? b = some o) → St i h')
    (item : ∀ (s' : Shared) (Q' : Option Value → Shared → Prop) (E' : Value → Shared → Prop), St 0 s'.heap → (∀ h', St 1 h' → Heap.SameBut I s'.heap h' → Q' (some v) { s' with heap := h' }) → wpAny (model prog w) A (pyNext (.ref I)) Q' E' s')
    (done : ∀ (s' : Shared) (Q' : Option Value → Shared → Prop) (E' : Value → Shared → Prop), St 1 s'.heap → (∀ h', Heap.ExtBut I s'.heap h' → Q' none { s' with heap := h' }) → wpAny (model prog w) A (pyNext (.ref I)) Q' E' s')
    (F : Fr h₀ env.locals s.heap m) (N : News h₀ env.locals s.heap news) (hm : (a, tup) ∈ news)
    (turn : ∀ it h' tk, Fr h₀ env.locals h' (fun y => if y = x then some v else m y) → News h₀ env.locals h' ((I, it) :: news) →
      wpAny (model prog w) A (execs body env) (OneEnd h₀ env I a it tup fun f s' => R (.ok f) s') (notedBy (model prog w) A env fun e s' => R (.error e) s') { s with heap := h', toks := tk }) :
    codeAny (model prog w) A (.forLoop (.Name x px) (.ref I) body [] env) R s := by
  refine codeAny_forLoop (I := fun k s' => (k = 1 ∧ s' = s) ∨ (k = 0 ∧ St 1 s'.heap ∧ ∃ m' news'', Fr h₀ env.locals s'.heap m' ∧ News h₀ env.locals s'.heap news'' ∧ (∀ p ∈ news'', p.1 ≠ I) ∧ ∀ h' tk, Fr h₀ env.locals h' m' → News h₀ env.locals h' news'' → R (.ok .next) { s' with heap := h', toks := tk })) ?_ 1 (.inl ⟨rfl, rfl⟩)
  rintro k s' (⟨rfl, rfl⟩ | ⟨rfl, hs1, m', news'', F', N', hne, hR⟩)
  · refine item _ _ _ hst fun h₁ hst₁ hs₁ => ?_
    have F₁ : Fr h₀ env.locals h₁ m := ⟨F.ns.at' fun o e => (hs₁.2 _ (Ne.symm hIL)).trans e, fun b o e => (hs₁.2 b (fun z => by rw [z, hI0] at e; cases e)).trans (F.keep b o e), F.above⟩
    have N₁ : News h₀ env.locals h₁ news := fun p hp' => ⟨(hs₁.2 _ (Nat.ne_of_lt (hlt p hp'))).trans (N p hp').1, (N p hp').2⟩
    refine wpAny_assign_Name (wpAny_storeName_local hx F₁.ns (fun h₂ hn₂ hs₂ => ?_) hp)
    have F₂ := F₁.set hn₂ hs₂
    have N₂ := N₁.set hs₂
    have aL : a ≠ env.locals := (N _ hm).2.1
    have hst₂ : St 1 h₂ := hfr _ _ _ hst₁ fun b hb o e => by
      rcases hb with rfl | rfl
      · exact (hs₂.2 _ hIL).trans e
      · exact (hs₂.2 _ aL).trans e
    obtain ⟨it, hit⟩ := hin _ _ hst₂
    have NI : News h₀ env.locals h₂ ((I, it) :: news) := fun p hp' => by
      rcases List.mem_cons.mp hp' with rfl | hp'
      · exact ⟨hit, hIL, hI0⟩
      · exact N₂ p hp'
    refine wpAny_mono (turn it _ _ F₂ NI) (fun f s₃ h₃ => ?_) fun _ _ e => e
    have ends : (∃ m' news' news'', Fr h₀ env.locals s₃.heap m' ∧ News h₀ env.locals s₃.heap news' ∧ (I, it) ∈ news' ∧ (a, tup) ∈ news' ∧ Del I news' news'' ∧ ∀ h' tk, Fr h₀ env.locals h' m' → News h₀ env.locals h' news'' → R (.ok .next) { s₃ with heap := h', toks := tk }) →
        ∃ m, m < 1 ∧ ((m = 1 ∧ s₃ = s') ∨ (m = 0 ∧ St 1 s₃.heap ∧ ∃ m' news'', Fr h₀ env.locals s₃.heap m' ∧ News h₀ env.locals s₃.heap news'' ∧ (∀ p ∈ news'', p.1 ≠ I) ∧ ∀ h' tk, Fr h₀ env.locals h' m' → News h₀ env.locals h' news'' → R (.ok .next) { s₃ with heap := h', toks := tk })) := by
      rintro ⟨m', news', news'', F₃, N₃, hi, ha, D, hR⟩
      refine ⟨0, Nat.zero_lt_one, .inr ⟨rfl, hfr _ _ _ hst₂ fun b hb o e => ?_, m', news'', F₃, fun p hp' => N₃ p (D.sub p hp').1, fun p hp' => (D.sub p hp').2, hR⟩⟩
      rcases hb with rfl | rfl
      · rw [hit] at e; cases e; exact (N₃ _ hi).1
      · rw [(N₂ _ hm).1] at e; cases e; exact (N₃ _ ha).1
    cases f with
    | ret v => exact h₃
    | brk => exact h₃
    | cont => exact ends h₃
    | next => exact ends h₃
  · refine done _ _ _ hs1 fun h₁ he => ?_
    show wpAny _ _ (execs [] env) _ _ _
    exact wpAny_pure (hR _ _ ⟨F'.ns.at' fun o e => he _ o (Ne.symm hIL) e, fun b o e => he b o (fun z => by rw [z, hI0] at e; cases e) (F'.keep b o e), F'.above⟩ fun p hp' => ⟨he _ _ (hne p hp') (N' p hp').1, (N' p hp').2⟩)
theorem OneAt.tup {px : Pos} {m : Str → Option Value} {news : List (Addr × Obj)} {a : Addr} {v : Value} {n : Nat} (hh : A.handled = none) (hx : env.kindOf x = some .local)
    (hp : (env.scope.kind == .class || (env.scope.kind == .module && env.locals != env.globals)) = false) (hE : PassesOwn (model prog w) A env E)
    (F : Fr h₀ env.locals s.heap m) (N : News h₀ env.locals s.heap news) (hm : (a, tupO [v] n) ∈ news)
    (turn : ∀ I it h' tk, (∀ p ∈ news, p.1 < I) → Fr h₀ env.locals h' (fun y => if y = x then some v else m y) → News h₀ env.locals h' ((I, it) :: news) →
      wpAny (model prog w) A (execs body env) (OneEnd h₀ env I a it (tupO [v] n) Q) E { s with heap := h', toks := tk }) : OneAt prog w A h₀ env x px body Q E (.ref a) s := by
  have ht : s.heap.IsTuple a #[v] := ⟨_, (N _ hm).1, rfl, n, rfl⟩
  have hlt : a < s.heap.objs.size := Heap.lt_size (N _ hm).1
  refine wpAny_pyIter_tuple ht ?_
  refine one_loop (h₀ := h₀) (St := fun i h => h.IsTupleIter s.heap.objs.size a i ∧ h.IsTuple a #[v]) hx hp (Nat.ne_of_gt hlt) (Nat.ne_of_gt F.ns.lt) (next_is_new F) (fun p hp' => Heap.lt_size (N p hp').1) ⟨⟨_, Heap.get?_push_size _ rfl, rfl, rfl⟩, ht.push _⟩ (fun i h st => let ⟨⟨o, ho, _⟩, _⟩ := st; ⟨o, ho⟩)
    (fun i h h' st k => by
      obtain ⟨⟨o, ho, r⟩, ⟨o', ho', r'⟩⟩ := st
      exact ⟨⟨o, k _ (.inl rfl) _ ho, r⟩, ⟨o', k _ (.inr rfl) _ ho', r'⟩⟩)
    (fun s' Q' E' st k => wpAny_pyNext_tuple_item st.1 st.2 (x := v) (by simp) fun h' hit hs => k h' ⟨hit, st.2.extBut hs.extBut (Nat.ne_of_lt hlt)⟩ hs)
    (fun s' Q' E' st k => wpAny_pyNext_tuple_end hh st.1 st.2 (by simp) k)
    (F.push _) (fun p hp' => ⟨Heap.get?_push_of_some _ (N p hp').1, (N p hp').2⟩) hm fun it h' tk F' N' => wpAny_passesOwn hE (turn _ it h' tk (fun p hp' => Heap.lt_size (N p hp').1) F' N')
theorem OneAt.lst {px : Pos} {m : Str → Option Value} {news : List (Addr × Obj)} {a : Addr} {v : Value} {n : Nat} (hh : A.handled = none) (hx : env.kindOf x = some .local)
    (hp : (env.scope.kind == .class || (env.scope.kind == .module && env.locals != env.globals)) = false) (hE : PassesOwn (model prog w) A env E)
    (F : Fr h₀ env.locals s.heap m) (N : News h₀ env.locals s.heap news) (hm : (a, listOf #[v] n) ∈ news)
    (turn : ∀ I it h' tk, (∀ p ∈ news, p.1 < I) → Fr h₀ env.locals h' (fun y => if y = x then some v else m y) → News h₀ env.locals h' ((I, it) :: news) →
      wpAny (model prog w) A (execs body env) (OneEnd h₀ env I a it (listOf #[v] n) Q) E { s with heap := h', toks := tk }) : OneAt prog w A h₀ env x px body Q E (.ref a) s := by
  have ht : s.heap.IsList a #[v] := ⟨_, (N _ hm).1, rfl, n, rfl⟩
  have hlt : a < s.heap.objs.size := Heap.lt_size (N _ hm).1
  refine wpAny_pyIter_list ht ?_
  refine one_loop (h₀ := h₀) (St := fun i h => h.IsListIter s.heap.objs.size a i ∧ h.IsList a #[v]) hx hp (Nat.ne_of_gt hlt) (Nat.ne_of_gt F.ns.lt) (next_is_new F) (fun p hp' => Heap.lt_size (N p hp').1) ⟨⟨_, Heap.get?_push_size _ rfl, rfl, rfl⟩, ht.push _⟩ (fun i h st => let ⟨⟨o, ho, _⟩, _⟩ := st; ⟨o, ho⟩)
    (fun i h h' st k => by
      obtain ⟨⟨o, ho, r⟩, ⟨o', ho', r'⟩⟩ := st
      exact ⟨⟨o, k _ (.inl rfl) _ ho, r⟩, ⟨o', k _ (.inr rfl) _ ho', r'⟩⟩)
    (fun s' Q' E' st k => wpAny_pyNext_list_item st.1 st.2 (x := v) (by simp) fun h' hit hs => k h' ⟨hit, st.2.extBut hs.extBut (Nat.ne_of_lt hlt)⟩ hs)
    (fun s' Q' E' st k => wpAny_pyNext_list_end hh st.1 st.2 (by simp) k)
    (F.push _) (fun p hp' => ⟨Heap.get?_push_of_some _ (N p hp').1, (N p hp').2⟩) hm fun it h' tk F' N' => wpAny_passesOwn hE (turn _ it h' tk (fun p hp' => Heap.lt_size (N p hp').1) F' N')
end
end
section
noncomputable def DCall (w : World) (mean : ExcName → Option Value) (mg mb : Str → Option Value) (d : DV) (dd : Addr) (n : Int) (rest : List (Addr × Obj)) (f : Addr) (args : List Value) (kd ku : Nat) (R : List (Addr × Obj) → Value → Prop) : Prop :=
  ∀ rest', (∀ p ∈ rest, p ∈ rest') → (∀ p ∈ rest', p.1 ≠ dd) → ∀ (dp un : Nat) (gd : Option (List Code)) (cn : Str) (cs : Scope) (a : Addr) (ccd : Value) (cl : List (Str × Addr)) (outer : List Env) (A₀ : Around) (base h₀ : Heap) (L : Addr) (m : Str → Option Value) (s : Shared) (Q E : Value → Shared → Prop) (tn : Tok),
   Below A₀ base outer h₀ → Fr h₀ L s.heap m → (K w.params).In h₀ → News h₀ L s.heap ((dd, dst w.params d n tn) :: rest') → Top q loose mean mg mb h₀ → cs.kind = .function → dp + kd < recursionLimit → un + ku < cLine →
   (∀ r h' tk tn' ext, Fr h₀ L h' m → News h₀ L h' (ext ++ (dd, dst w.params d n tn') :: rest') → (∀ p ∈ ext, dd < p.1 ∧ ∀ z ∈ rest', z.1 < p.1) → R ext r → Q r { s with heap := h', toks := tk }) →
   wpAny (model PySem.Challenge.rw_pq0479_01.prog w) (ktrTop dp un gd cn cs L a ccd cl outer) (call (.ref f) args) Q E s
noncomputable def intR (v : Int) (ext : List (Addr × Obj)) (r : Value) : Prop := ext = [] ∧ ∃ t, r = .int v t
noncomputable def etR (v : Int) (b : Bool) (ext : List (Addr × Obj)) (r : Value) : Prop := ∃ a t n, ext = [(a, tupO [.int v t, .bool b] n)] ∧ r = .ref a
noncomputable def cR (x y z : Int) (ext : List (Addr × Obj)) (r : Value) : Prop := ∃ a t0 t1 t2 t3 n, ext = [(a, tupO [.str "const" t0, .int x t1, .int y t2, .int z t3] n)] ∧ r = .ref a
noncomputable def selfR (x y z : Int) (b : Bool) (ext : List (Addr × Obj)) (r : Value) : Prop := ∃ a c t0 t1 t2 t3 n n2, ext = [(a, tupO [.ref c, .bool b] n), (c, tupO [.str "const" t0, .int x t1, .int y t2, .int z t3] n2)] ∧ r = .ref a ∧ c < a
noncomputable def constR (x y z : Int) (b : Bool) (ext : List (Addr × Obj)) (r : Value) : Prop := ∃ a c t1 t2 t3 n n2, ext = [(a, tupO [.ref c, .bool b] n), (c, tupO [.int x t1, .int y t2, .int z t3] n2)] ∧ r = .ref a ∧ c < a
section
variable {w : World} {mean : ExcName → Option Value} {mg mb : Str → Option Value} {d : DV} {dd : Addr} {n : Int} {rest rest' all : List (Addr × Obj)} {f : Addr} {args : List Value} {kd ku : Nat} {R : List (Addr × Obj) → Value → Prop}
  {dp un : Nat} {gd : Option (List Code)} {cn : Str} {cs : Scope} {a : Addr} {ccd : Value} {cl : List (Str × Addr)} {outer : List Env} {A₀ : Around} {base h₀ : Heap} {L : Addr} {m : Str → Option Value} {s : Shared} {Q E : Value → Shared → Prop} {tn : Tok}
theorem useD (C : DCall w mean mg mb d dd n rest f args kd ku R) (Bl : Below A₀ base outer h₀) (F : Fr h₀ L s.heap m) (X : (K w.params).In h₀) (N : News h₀ L s.heap all) (D : Del dd all rest') (hm : (dd, dst w.params d n tn) ∈ all) (sub : ∀ p ∈ rest, p ∈ rest')
   (T : Top q loose mean mg mb h₀) (hk : cs.kind = .function) (hd : dp + kd < recursionLimit) (hu : un + ku < cLine)
   (ret : ∀ r h' tk tn' ext, Fr h₀ L h' m → News h₀ L h' (ext ++ (dd, dst w.params d n tn') :: rest') → (∀ p ∈ ext, dd < p.1 ∧ ∀ z ∈ rest', z.1 < p.1) → R ext r → Q r { s with heap := h', toks := tk }) :
   wpAny (model PySem.Challenge.rw_pq0479_01.prog w) (ktrTop dp un gd cn cs L a ccd cl outer) (call (.ref f) args) Q E s :=
  C rest' sub (fun p hp => (D.sub p hp).2) dp un gd cn cs a ccd cl outer A₀ base h₀ L m s Q E tn Bl F X (newsSub N (consSub hm fun p hp => (D.sub p hp).1)) T hk hd hu ret
theorem DCall.mono {rest2 : List (Addr × Obj)} (C : DCall w mean mg mb d dd n rest f args kd ku R) (h : ∀ p ∈ rest, p ∈ rest2) : DCall w mean mg mb d dd n rest2 f args kd ku R :=
  fun rest' s1 s2 => C rest' (fun p hp => s1 p (h p hp)) s2
theorem DCall.more {kd2 ku2 : Nat} (C : DCall w mean mg mb d dd n rest f args kd ku R) (h1 : kd ≤ kd2) (h2 : ku ≤ ku2) : DCall w mean mg mb d dd n rest f args kd2 ku2 R :=
  fun rest' s1 s2 dp un gd cn cs a ccd cl outer A₀ base h₀ L m s Q E tn Bl F X N T hk hd hu ret => C rest' s1 s2 dp un gd cn cs a ccd cl outer A₀ base h₀ L m s Q E tn Bl F X N T hk (by omega) (by omega) ret
theorem ConstOk.of {S e : Addr} {x y z : Int} {b : Bool} (C : DCall w mean mg mb d dd n rest 1102 [.ref S, .ref e] kd ku (constR x y z b)) (sub : ∀ p ∈ rest, p ∈ rest') (ne : ∀ p ∈ rest', p.1 ≠ dd) : ConstOk w mean mg mb d dd n rest' S e kd ku x y z b := by
  intro dp un gd cn cs a ccd cl outer A₀ base h₀ L m s Q E tn Bl F X N T hk hdp hun ret
  refine C rest' sub ne dp un gd cn cs a ccd cl outer A₀ base h₀ L m s Q E tn Bl F X N T hk hdp hun ?_
  rintro r h' tk tn' ext F' N' l ⟨a, c, t1, t2, t3, n1, n2, rfl, rfl, hc⟩
  have lc := l _ (List.mem_cons_of_mem _ List.mem_cons_self)
  exact ret _ _ _ _ _ _ _ _ _ _ F' N' (fun p hp => by
    rcases List.mem_cons.mp hp with rfl | hp
    · exact lc.1
    · exact lc.2 p hp) hc
end
theorem ext1 {dd a : Addr} {o : Obj} {rest : List (Addr × Obj)} (h1 : dd < a) (h2 : ∀ z ∈ rest, z.1 < a) : ∀ p ∈ [(a, o)], dd < p.1 ∧ ∀ z ∈ rest, z.1 < p.1 := fun p hp => by
  rw [List.mem_singleton.mp hp]; exact ⟨h1, h2⟩
theorem ext2 {dd a b : Addr} {o o2 : Obj} {rest : List (Addr × Obj)} (h1 : dd < b) (h2 : ∀ z ∈ rest, z.1 < b) (h3 : b < a) : ∀ p ∈ [(a, o), (b, o2)], dd < p.1 ∧ ∀ z ∈ rest, z.1 < p.1 := fun p hp => by
  rcases List.mem_cons.mp hp with rfl | hp
  · exact ⟨Nat.lt_trans h1 h3, fun z hz => Nat.lt_trans (h2 z hz) h3⟩
  · rw [List.mem_singleton.mp hp]; exact ⟨h1, h2⟩
end
section
section
variable {prog : Program} {w : World} {A : Around} {E : Value → Shared → Prop} {s : Shared} {env : Env} {h₀ h h' : Heap} {L b : Addr} {m : Str → Option Value} {news : List (Addr × Obj)} {x : Str} {Q : Value → Shared → Prop} {scope : Scope} {cl : List (Str × Addr)}
theorem eqN {a b : Nat} (h : a = b) : a = b := h
theorem frBut (F : Fr h₀ L h m) (hs : Heap.ExtBut b h h') (hL : b ≠ L) (h0 : h₀.get? b = none) : Fr h₀ L h' m :=
  ⟨F.ns.at' fun o e => hs _ o (Ne.symm hL) e, fun c o e => hs c o (fun z => by rw [z, h0] at e; cases e) (F.keep c o e), F.above⟩
theorem newsBut (N : News h₀ L h news) (hs : Heap.ExtBut b h h') (ne : ∀ p ∈ news, p.1 ≠ b) : News h₀ L h' news := fun p hp => ⟨hs _ _ (ne p hp) (N p hp).1, (N p hp).2⟩
theorem newAt (F : Fr h₀ L h m) {c : Addr} (hc : h.objs.size ≤ c) : h₀.get? c = none := by
  cases e : h₀.get? c with
  | none => rfl
  | some o => exact absurd (Heap.lt_size (F.keep _ _ e)) (Nat.not_lt.mpr hc)
noncomputable def CompAt (prog : Program) (w : World) (A : Around) (env : Env) (scope : Scope) (cl : List (Str × Addr)) (elt : Expr) (x : Str) (px : Pos) (iter : Expr) (pos : Pos) (Q : Value → Shared → Prop) (E : Value → Shared → Prop) (xv : Value) (s₁ : Shared) : Prop :=
  wpAny (model prog w) A (pyIter xv) (fun it s₂ => wpAny (model prog w) A (newList []) (fun acc s₃ =>
    wpAny (model prog w) A (newFunctionEnv scope env.globals cl [] env.qual none .none (some env)) (fun cenv s₄ =>
      codeAny (model prog w) A (.compStart (.ListComp elt [⟨.Name x px, iter, [], 0⟩] scope pos) 0 it acc { cenv with scope := relabel scope env }) (compPost (model prog w) A E none Q acc cenv.locals) s₄) E s₃) E s₂) E s₁
theorem comp1 {elt iter : Expr} {px pos : Pos} (hclos : closureFor scope env = pure cl) (hkind : scope.kind = .function) (hnames : ∀ y ∈ scope.names, y.2 = .local → scope.names.lookup y.1 = some .local)
    (h : wpAny (model prog w) A (eval iter env) (fun xv s₁ => CompAt prog w A env scope cl elt x px iter pos Q E xv s₁) E s)
    (hs : ∀ x, foldedSetIterable iter env x = pure x := by intro _; rfl) :
    wpAny (model prog w) A (eval (.ListComp elt [⟨.Name x px, iter, [], 0⟩] scope pos) env) Q E s := by
  rw [eval_ListComp]
  exact wpAny_comprehension_free (use := none) rfl hs hclos hkind hnames h
theorem CompAt.tup {elt iter : Expr} {px pos : Pos} {a : Addr} {v : Value} {n : Nat} (hh : A.handled = none) (hcell : ∀ y ∈ scope.names, y.2 ≠ .cell) (hkind : scope.kind = .function) (hx : scope.names.lookup x = some .local)
    (F : Fr h₀ L s.heap m) (N : News h₀ L s.heap news) (hm : (a, tupO [v] n) ∈ news)
    (el : ∀ C D I it oC h' tk E', (∀ p ∈ news, p.1 < I) → I < D → D < C → h'.Ns C (fun y => if y = x then some v else none) → Fr h₀ L h' m → News h₀ L h' ((C, oC) :: (D, listOf #[] 0) :: (I, it) :: news) →
      wpAny (model prog w) A (eval elt (compEnvC scope cl C env)) (fun y s₄ => ∃ ext h₄ tk₄, s₄ = { s with heap := h₄, toks := tk₄ } ∧ Fr h₀ L h₄ m ∧ News h₀ L h₄ (ext ++ (C, oC) :: (D, listOf #[] 0) :: (I, it) :: news) ∧ (∀ p ∈ ext, C < p.1) ∧
        ∀ h5 tk5 n5, Fr h₀ L h5 m → News h₀ L h5 (ext ++ (D, listOf #[y] n5) :: news) → Q (.ref D) { s with heap := h5, toks := tk5 }) E' { s with heap := h', toks := tk }) :
    CompAt prog w A env scope cl elt x px iter pos Q E (.ref a) s := by
  have ht : s.heap.IsTuple a #[v] := ⟨_, (N _ hm).1, rfl, n, rfl⟩
  have hlt : a < s.heap.objs.size := Heap.lt_size (N _ hm).1
  have hLlt : L < s.heap.objs.size := F.ns.lt
  unfold CompAt
  refine wpAny_pyIter_tuple ht ?_
  refine wpAny_newObj_type ?_
  refine wpAny_newFunctionEnv hcell (by intro y hy; simp at hy) (fun h₁ hns₁ hsb₁ => ?_) hkind
  dsimp only at hns₁ hsb₁ ⊢
  have e1 : (s.heap.push { cls := .type "tuple_iterator", data := .fields #[.ref a, .int 0 0] }).objs.size = s.heap.objs.size + 1 := Heap.size_push ..
  have e2 : ((s.heap.push { cls := .type "tuple_iterator", data := .fields #[.ref a, .int 0 0] }).push { cls := .type "list", data := .seq ([] : List Value).toArray }).objs.size = s.heap.objs.size + 2 := by rw [Heap.size_push, Heap.size_push]
  rw [e2] at hns₁ hsb₁
  rw [e1, e2]
  obtain ⟨I, hI⟩ : ∃ I : Nat, I = s.heap.objs.size := ⟨_, rfl⟩
  rw [← hI] at hns₁ hsb₁ e1 e2 hlt hLlt ⊢
  have haI : @LT.lt Nat _ a I := hlt
  have hLI : @LT.lt Nat _ L I := hLlt
  clear hlt hLlt
  generalize hH1 : s.heap.push { cls := .type "tuple_iterator", data := .fields #[.ref a, .int 0 0] } = H1 at hns₁ hsb₁ e1 e2 ⊢
  generalize hH2 : H1.push { cls := .type "list", data := .seq ([] : List Value).toArray } = H2 at hns₁ hsb₁ e2 ⊢
  have g0 : ∀ b o, s.heap.get? b = some o → h₁.get? b = some o := fun b o e => hsb₁.extBut b o (fun z => by have := ltN (Heap.lt_size e); rw [← hI] at this; have z' := eqN z; omega) (Heap.get?_push_of_some _ (hH2 ▸ Heap.get?_push_of_some _ (hH1 ▸ Heap.get?_push_of_some _ e)))
  have gI1 : H1.get? I = some { cls := .type "tuple_iterator", data := .fields #[.ref a, .int 0 0] } := by rw [← hH1, hI]; exact Heap.get?_push_size _ rfl
  have gI : h₁.get? I = some { cls := .type "tuple_iterator", data := .fields #[.ref a, .int 0 0] } := hsb₁.extBut _ _ (neN (by omega)) (Heap.get?_push_of_some _ (hH2 ▸ Heap.get?_push_of_some _ gI1))
  have gD1 : H2.get? (I + 1) = some (listOf #[] 0) := by rw [← hH2, ← e1]; exact Heap.get?_push_size _ rfl
  have gD : h₁.get? (I + 1) = some (listOf #[] 0) := hsb₁.extBut _ _ (neN (by omega)) (Heap.get?_push_of_some _ gD1)
  have F₁ : Fr h₀ L h₁ m := ⟨F.ns.at' fun o e => g0 _ _ e, fun b o e => g0 _ _ (F.keep b o e), F.above⟩
  have nI : h₀.get? I = none := newAt F (Nat.le_of_eq hI.symm)
  have nD : h₀.get? (I + 1) = none := newAt F (by rw [← hI]; exact Nat.le_add_right _ _)
  have nC : h₀.get? (I + 2) = none := newAt F (by rw [← hI]; exact Nat.le_add_right _ _)
  have below : ∀ p ∈ news, @LT.lt Nat _ p.1 I := fun p hp => hI ▸ Heap.lt_size (N p hp).1
  have N₁ : News h₀ L h₁ ((I + 1, listOf #[] 0) :: news) := fun p hp => by
    rcases List.mem_cons.mp hp with rfl | hp
    · exact ⟨gD, neN (by omega), nD⟩
    · exact ⟨g0 _ _ (N p hp).1, (N p hp).2⟩
  have loop : ∀ s₃ : Shared, s₃ = { s with heap := h₁, toks := s.toks + ([] : List (Str × Value)).length } →
      codeAny (model prog w) A (.compLoop (.ListComp elt [⟨.Name x px, iter, [], 0⟩] scope pos) 0 (.ref I) (.ref (I + 1)) (compEnvC scope cl (I + 2) env)) (compPost (model prog w) A E none Q (.ref (I + 1)) (I + 2)) s₃ := by
    rintro s₃ rfl
    refine codeAny_compLoop_tests (env := compEnvC scope cl (I + 2) env)
      (fun k s' => (k = 1 ∧ s' = { s with heap := h₁, toks := s.toks + ([] : List (Str × Value)).length }) ∨ (k = 0 ∧ ∃ h' tk y n5 ext, s' = { s with heap := h', toks := tk } ∧ h'.IsTupleIter I a 1 ∧ h'.IsTuple a #[v] ∧ (∃ m', h'.Ns (I + 2) m') ∧ Fr h₀ L h' m ∧ News h₀ L h' (ext ++ (I + 1, listOf #[y] n5) :: news) ∧ (∀ p ∈ ext, I + 2 < p.1) ∧
        ∀ h5 tk5 n5, Fr h₀ L h5 m → News h₀ L h5 (ext ++ (I + 1, listOf #[y] n5) :: news) → Q (.ref (I + 1)) { s with heap := h5, toks := tk5 })) ?_ 1 (.inl ⟨rfl, rfl⟩)
    rintro k s' (⟨rfl, rfl⟩ | ⟨rfl, h', tk, y, n5, ext, rfl, hit, htu, ⟨m', hns⟩, F', N', hext, hQ⟩)
    · refine wpAny_pyNext_tuple_item (it := I) (t := a) (i := 0) (items := #[v]) (x := v) ⟨_, gI, rfl, rfl⟩ (ht.extBut (b := I + 2) (fun b o hb e => g0 b o e) (neN (by omega))) (by simp) fun h₂ hit₂ hs₂ => ?_
      have F₂ := frBut F₁ hs₂.extBut (neN (by omega)) nI
      have N₂ := newsBut N₁ hs₂.extBut (fun p hp => by
        rcases List.mem_cons.mp hp with rfl | hp
        · exact neN (by omega)
        · exact Nat.ne_of_lt (below p hp))
      have ns₂ : h₂.Ns (I + 2) (fun _ => none) := by
        have := hns₁.at' (h' := h₂) (a := I + 2) fun o e => hs₂.extBut _ o (neN (by omega)) e
        exact this
      have tu₂ : h₂.IsTuple a #[v] := (ht.extBut (b := I + 2) (fun b o hb e => g0 b o e) (neN (by omega))).extBut hs₂.extBut (neN (by omega))
      refine wpAny_assign_Name (wpAny_storeName_local (m := fun _ => none) (lookup_relabel_local hx) ns₂ (fun h₃ hn₃ hs₃ => ?_) (by simp [compEnvC, relabel, hkind]))
      have hs₃ : Heap.SameBut (I + 2) h₂ h₃ := hs₃
      have hn₃ : h₃.Ns (I + 2) (fun z => if z = x then some v else none) := hn₃
      have F₃ := frBut F₂ hs₃.extBut (neN (by omega)) nC
      have N₃ := newsBut N₂ hs₃.extBut (fun p hp => by
        rcases List.mem_cons.mp hp with rfl | hp
        · exact neN (by omega)
        · have := below p hp; exact neN (by omega))
      obtain ⟨itO, hitO, itc, itd⟩ := hit₂.extBut hs₃.extBut (neN (by omega))
      obtain ⟨oC, es, ep, hoC, hCr⟩ := id hn₃
      have N₄ : News h₀ L h₃ ((I + 2, oC) :: (I + 1, listOf #[] 0) :: (I, itO) :: news) := fun p hp => by
        rcases List.mem_cons.mp hp with rfl | hp
        · exact ⟨hoC, neN (by omega), nC⟩
        rcases List.mem_cons.mp hp with rfl | hp
        · exact N₃ _ List.mem_cons_self
        rcases List.mem_cons.mp hp with rfl | hp
        · exact ⟨hitO, neN (by omega), nI⟩
        · exact N₃ _ (List.mem_cons_of_mem _ hp)
      show wpAny _ _ (pure true : Sem Bool) _ _ _
      refine wpAny_pure ?_
      rw [if_pos rfl]
      refine wpAny_mono (el (I + 2) (I + 1) I itO oC h₃ _ _ below (ltN (by omega)) (ltN (by omega)) (by
        have e : (fun y => if y = x then some v else (none : Option Value)) = fun z => if z = x then some v else (fun _ => none) z := rfl
        exact hn₃) F₃ N₄) (fun y s₄ h₄ => ?_) fun _ _ e => e
      obtain ⟨ext, H4, tk₄, rfl, F₅, N₅, hext, hQ⟩ := h₄
      have U : Upd (I + 1) (listOf #[] 0) (listOf (#[].push y) (0 + 1)) (((I + 1, listOf #[] 0) : Addr × Obj) :: ((I, itO) : Addr × Obj) :: news) ((I + 1, listOf (#[].push y) (0 + 1)) :: (I, itO) :: news) := .head fun p hp => by
        rcases List.mem_cons.mp hp with rfl | hp
        · exact neN (by omega)
        · have := below p hp; exact neN (by omega)
      have U2 : ∀ ext : List (Addr × Obj), (∀ p ∈ ext, I + 2 < p.1) → Upd (I + 1) (listOf #[] 0) (listOf (#[].push y) (0 + 1)) (ext ++ (I + 2, oC) :: (I + 1, listOf #[] 0) :: (I, itO) :: news) (ext ++ (I + 2, oC) :: (I + 1, listOf (#[].push y) (0 + 1)) :: (I, itO) :: news) := by
        intro ext
        induction ext with
        | nil => intro _; exact .tail (neN (by omega)) U
        | cons p r ih => intro hp; exact .tail (by have := ltN (hp p List.mem_cons_self); exact neN (by omega)) (ih fun z hz => hp z (List.mem_cons_of_mem _ hz))
      refine append_K F₅ N₅ (U2 ext hext) (fun h₆ F₆ N₆ => ?_) (by show (0 : Nat) ≤ sizeLine; exact Nat.zero_le _)
      refine ⟨0, Nat.zero_lt_one, .inr ⟨rfl, h₆, _, y, 0 + 1, ext, rfl, ?_, ?_, ?_, F₆, ?_, hext, hQ⟩⟩
      · exact ⟨itO, (N₆ (I, itO) (by simp)).1, itc, itd⟩
      · exact ⟨_, (N₆ (a, tupO [v] n) (by simp [hm])).1, rfl, n, rfl⟩
      · exact ⟨_, ⟨oC, es, ep, (N₆ (I + 2, oC) (by simp)).1, hCr⟩⟩
      · exact newsSub N₆ fun p hp => by
          rcases List.mem_append.mp hp with hp | hp
          · exact List.mem_append_left _ hp
          rcases List.mem_cons.mp hp with rfl | hp
          · exact List.mem_append_right _ (List.mem_cons_of_mem _ List.mem_cons_self)
          · exact List.mem_append_right _ (List.mem_cons_of_mem _ (List.mem_cons_of_mem _ (List.mem_cons_of_mem _ hp)))
    · refine wpAny_pyNext_tuple_end hh hit htu (by simp) fun h₂ he => ?_
      have ne : ∀ p ∈ ext ++ (I + 1, listOf #[y] n5) :: news, p.1 ≠ I ∧ p.1 ≠ I + 2 := fun p hp => by
        rcases List.mem_append.mp hp with hp | hp
        · have := ltN (hext p hp); exact ⟨neN (by omega), neN (by omega)⟩
        rcases List.mem_cons.mp hp with rfl | hp
        · exact ⟨neN (by omega), neN (by omega)⟩
        · have := below p hp; exact ⟨neN (by omega), neN (by omega)⟩
      have F₂ := frBut F' he (neN (by omega)) nI
      have N₂ := newsBut N' he fun p hp => (ne p hp).1
      refine ⟨m', hns.at' fun o e => he _ o (neN (by omega)) e, fun h₃ hs₃ => ?_⟩
      exact hQ h₃ _ _ (frBut F₂ hs₃.extBut (neN (by omega)) nC) (newsBut N₂ hs₃.extBut fun p hp => (ne p hp).2)
  refine codeAny_compStart_list (loop _ rfl) ?_
  exact wpAny_pyIter_tupleiter (t := a) (i := 0) ⟨_, gI, rfl, rfl⟩ (loop _ rfl)
end
section
variable {w : World} {A : Around} {E : Value → Shared → Prop} {s : Shared} {env : Env} {h₀ : Heap} {L C ca f : Addr} {m mc mg mb : Str → Option Value} {mean : ExcName → Option Value} {fn x c : Str} {v cv : Value} {Q : Value → Shared → Prop} {scope : Scope} {cl : List (Str × Addr)} {p1 p2 p3 p4 : Pos}
theorem elt_ev (F : Fr h₀ L s.heap m) (X : (K w.params).In h₀) (T : Top q loose mean mg mb h₀) (hfn : nsIn (K w.params) mainGlobals fn = some (some (.ref f))) (hkeep : keepIn (K w.params) (.ref f) = true)
    (hg : (compEnvC scope cl C env).globals = mainGlobals) (hk : (compEnvC scope cl C env).scope.kind = .function) (k1 : (compEnvC scope cl C env).kindOf fn = some .globalImplicit) (k2 : (compEnvC scope cl C env).kindOf x = some .local) (k3 : (compEnvC scope cl C env).kindOf c = some .cell)
    (d1 : (fn == ("__debug__" : Str)) = false) (d2 : (x == ("__debug__" : Str)) = false) (d3 : (c == ("__debug__" : Str)) = false)
    (hn : s.heap.Ns C mc) (hv : mc x = some v) (hc : cl.lookup c = some ca) (hcell : s.heap.IsCell ca (some cv)) (h : wpAny (model PR w) A (call (.ref f) [v, cv]) Q E s) :
    wpAny (model PR w) A (eval (.Call (.Name fn p1) [.Name x p2, .Name c p3] [] p4) (compEnvC scope cl C env)) Q E s := by
  refine Call_ (nameG_K F X (topRead_of T) hfn ?_ hg hk k1 d1)
  refine callWith_K X hkeep (spliced_more (wpAny_Name (wpAny_loadName_local hk k2 hn hv ?_) d2))
  exact spliced_more (ldCellK hc hcell (spliced_none ⟨X.keeps F.keep, h⟩) hk k3 d3)
end
end
section
theorem ltSub {d : Addr} {l r : List (Addr × Obj)} (h : AllLt d l) (x : ∀ p ∈ r, p ∈ l) : ∀ p ∈ r, p.1 < d := fun p hp => ltAll h p (x p hp)
end
section
open Sem (wp)
set_option maxRecDepth 100000
theorem noFill_tuple_mul : fillsNumberSlot (.type "tuple") "mul" = pure false :=
  PySem.fillsNumberSlot_seq (id := "tuple.__mul__") (r := some (.builtin "tuple.__rmul__")) F.slot_tuple_mul.lookup (by decide +kernel) F.slot_tuple_rmul.lookup (by decide +kernel)
theorem repeat_tuple : seqRepeat? (.type "tuple") = pure (some (.builtin "tuple.__mul__")) := by
  unfold seqRepeat?
  rw [PySem.seqSlot_of (T := "tuple") (name := "__mul__") (id := "tuple.__mul__") F.slot_tuple_mul.lookup (by decide +kernel), PySem.seqSlot_of (T := "tuple") (name := "__rmul__") (id := "tuple.__rmul__") F.slot_tuple_rmul.lookup (by decide +kernel)]
  rfl
theorem int_rmul_tuple (a : Int) (t : Tok) (l : Addr) (items : Array Value) (n : Nat) :
    Meets (Builtin.«int.__rmul__» ⟨[.int a t, .ref l], []⟩) (fun _ R s => s.heap.get? l = some { cls := .type "tuple", dict := none, data := .seq items n, slots := #[] } ∧ R (.ok (.ret Value.notImplemented)) s) :=
  .of_wp fun prog w A R s h => by obtain ⟨hp, g, d, tk, os⟩ := s; obtain ⟨hl, h⟩ := h; wp_walk; exact ⟨_, rfl, h⟩
theorem tuple_mul_one (l : Addr) (items : Array Value) (n : Nat) (u : Tok) :
    Meets (Builtin.«tuple.__mul__» ⟨[.ref l, .int 1 u], []⟩) (fun _ R s => s.heap.get? l = some { cls := .type "tuple", dict := none, data := .seq items n, slots := #[] } ∧ R (.ok (.ret (.ref l))) s) :=
  .of_wp fun prog w A R s h => by
    obtain ⟨hp, g, d, tk, os⟩ := s; obtain ⟨hl, h⟩ := h
    wp_walk
    exact ⟨_, rfl, h⟩
section
variable {prog : Program} {w : World} {A : Around} {E : Value → Shared → Prop} {s : Shared}
theorem mul_tup1 {l : Addr} {items : Array Value} {k : Nat} {u : Tok} {Q : Value → Shared → Prop}
    (hl : s.heap.get? l = some { cls := .type "tuple", dict := none, data := .seq items k, slots := #[] }) (h : Q (.ref l) s) :
    wpAny (model prog w) A (binaryOp .Mult (.ref l) (.int 1 u)) Q E s :=
  wpAny_binaryOp_repeat_ref (T := "tuple") (U := "int") (by decide) ⟨_, hl, rfl⟩ (fun s' => typeIs_int s' 1 u) noFill_tuple_mul F.fills_int_mul F.slot_int_rmul repeat_tuple F.slot_int_index.lookup
    (call_meets F.slot_int_rmul (typeIs_int s 1 u) F.entry_int_rmul (F.args_int_rmul_2 _ _) (int_rmul_tuple 1 u l items k)
      ⟨hl, rfl, ⟨_, hl, rfl⟩, call_meets F.slot_tuple_mul ⟨_, hl, rfl⟩ F.entry_tuple_mul (F.args_tuple_mul_2 _ _)
        (tuple_mul_one l items k u) ⟨hl, h⟩⟩)
end
end
section
theorem fmP {x k : Int} (hk : 0 < k) : 0 ≤ x.fmod k ∧ x.fmod k < k :=
  ⟨Int.fmod_nonneg_of_pos _ hk, Int.fmod_lt_of_pos _ hk⟩
theorem fdP {x k : Int} (hx : 0 ≤ x) (hk : 0 < k) : 0 ≤ x.fdiv k := by
  rw [Int.fdiv_eq_ediv_of_nonneg _ (Int.le_of_lt hk)]; exact Int.ediv_nonneg hx (Int.le_of_lt hk)
theorem pop0 {prog : Program} {w : World} {A : Around} {E : Value → Shared → Prop} {s : Shared} {h₀ : Heap} {L D : Addr} {m : Str → Option Value} {news news' : List (Addr × Obj)} {n : Nat} {x : Value} {r : List Value} {u : Tok} {Q : Value → Shared → Prop}
    (F : Fr h₀ L s.heap m) (N : News h₀ L s.heap news) (U : Upd D (listOf (x :: r).toArray n) (listOf r.toArray (n + 1)) news news')
    (hz : (x :: r).length ≤ 40) (h : ∀ h', Fr h₀ L h' m → News h₀ L h' news' → Q x { s with heap := h' }) : wpAny (model prog w) A (call (.builtin "list.pop") [.ref D, .int 0 u]) Q E s := by
  refine kl_popAt (k := 0) (p := []) (q := r) (y := x) (its := (x :: r).toArray) F N rfl ?_ ?_ U ?_ h
  · rw [List.size_toArray]
    unfold seqIndex?
    simp
  · rfl
  · show (x :: r).length ≤ sizeLine
    exact Nat.le_trans hz (by decide)
end
section
noncomputable abbrev rgO (k : Nat) (t u v : Tok) : Obj := { cls := .type "range", data := .fields #[.int 0 t, .int (k : Int) u, .int 1 v] }
section
variable {prog : Program} {w : World} {A : Around} {E : Value → Shared → Prop} {s : Shared} {env : Env} {h₀ : Heap} {x : Str} {body : List Stmt} {Q : Flow → Shared → Prop} {L : Addr} {m : Str → Option Value} {news : List (Addr × Obj)}
theorem call_rangeN {k : Nat} {n : Int} {t : Tok} {Q : Value → Shared → Prop} (F : Fr h₀ L s.heap m) (N : News h₀ L s.heap news) (e : n = (k : Int))
    (h : ∀ r h' tk t u v, Fr h₀ L h' m → News h₀ L h' ((r, rgO k t u v) :: news) → (∀ p ∈ news, p.1 < r) → Q (.ref r) { s with heap := h', toks := tk }) : wpAny (model prog w) A (call (.type "range") [.int n t]) Q E s := by
  subst e
  exact call_range_1 (h _ _ _ _ _ _ (F.push _) (News.push F N _) fun p hp => Heap.lt_size (N p hp).1)
noncomputable def TurnEnd (h₀ : Heap) (env : Env) (I : Addr) (it : Obj) (J : (Str → Option Value) → List (Addr × Obj) → Prop) (s : Shared) (f : Flow) (s₂ : Shared) : Prop :=
  f = .next ∧ ∃ m' news' h tk, s₂ = { s with heap := h, toks := tk } ∧ Fr h₀ env.locals h m' ∧ News h₀ env.locals h ((I, it) :: news') ∧ (∀ p ∈ news', p.1 ≠ I) ∧ J m' news'
theorem TurnEnd.nx {I : Addr} {it : Obj} {J : (Str → Option Value) → List (Addr × Obj) → Prop} {m' : Str → Option Value} {news' all : List (Addr × Obj)} {h : Heap} {tk : Nat} (F : Fr h₀ env.locals h m') (N : News h₀ env.locals h all) (hi : (I, it) ∈ all) (d : Del I all news') (hJ : J m' news') :
    TurnEnd h₀ env I it J s .next { s with heap := h, toks := tk } :=
  ⟨rfl, m', news', h, tk, rfl, F, newsSub N (consSub hi fun p hp => (d.sub p hp).1), fun p hp => (d.sub p hp).2, hJ⟩
theorem OneAt.rng {px : Pos} {k : Nat} {r : Addr} {t u v : Tok} (J : Nat → (Str → Option Value) → List (Addr × Obj) → Prop) (hh : A.handled = none) (hx : env.kindOf x = some .local)
    (hp : (env.scope.kind == .class || (env.scope.kind == .module && env.locals != env.globals)) = false) (hE : PassesOwn (model prog w) A env E) (hk : k ≤ 100)
    (F : Fr h₀ env.locals s.heap m) (N : News h₀ env.locals s.heap news) (hm : (r, rgO k t u v) ∈ news) (hJ : J 0 m news)
    (turn : ∀ i I it m₁ news₁ h' tk tt, i < k → J i m₁ news₁ → (∀ p ∈ news₁, p.1 ≠ I) → Fr h₀ env.locals h' (fun y => if y = x then some (.int (i : Int) tt) else m₁ y) → News h₀ env.locals h' ((I, it) :: news₁) →
      wpAny (model prog w) A (execs body env) (TurnEnd h₀ env I it (J (i + 1)) s) E { s with heap := h', toks := tk })
    (done : ∀ m₁ news₁ h' tk, J k m₁ news₁ → Fr h₀ env.locals h' m₁ → News h₀ env.locals h' news₁ → Q .next { s with heap := h', toks := tk }) :
    OneAt prog w A h₀ env x px body Q E (.ref r) s := by
  have hr : IsRange s.heap r 0 k 1 t u v := (N _ hm).1
  have hsz : Builtin.Range.rangeSize 0 (k : Int) 1 = (k : Int) := by rw [rangeSize_one]; split <;> omega
  refine wpAny_pyIter_range hr (small_one (by decide) (by decide) (by omega) (by omega)) ?_
  rw [hsz]
  obtain ⟨I, hI⟩ : ∃ I : Nat, I = s.heap.objs.size := ⟨_, rfl⟩
  have hIL : I ≠ env.locals := by rw [hI]; exact Nat.ne_of_gt F.ns.lt
  have hI0 : h₀.get? I = none := by rw [hI]; exact next_is_new F
  have hlt : ∀ p ∈ news, p.1 ≠ I := fun p hp => by rw [hI]; exact Nat.ne_of_lt (Heap.lt_size (N p hp).1)
  rw [← hI]
  refine codeAny_forLoop (I := fun j s' => ∃ i m' news' h' tk, i + j = k ∧ s' = { s with heap := h', toks := tk } ∧ IsRangeIter h' I (i : Int) ((k : Int) - (i : Int)) 1 ∧ Fr h₀ env.locals h' m' ∧ News h₀ env.locals h' news' ∧ (∀ p ∈ news', p.1 ≠ I) ∧ J i m' news') ?_ k
    ⟨0, m, news, _, s.toks, Nat.zero_add _, rfl, ?_, F.push _, (fun p hp' => ⟨Heap.get?_push_of_some _ (N p hp').1, (N p hp').2⟩), hlt, hJ⟩
  · rintro j s' ⟨i, m', news', h', tk, hij, rfl, hit, F', N', hne, hj⟩
    by_cases hik : i < k
    · refine wpAny_pyNext_range_item hit (by omega) fun h₁ hit₁ hs₁ => ?_
      have F₁ : Fr h₀ env.locals h₁ m' := ⟨F'.ns.at' fun o e => (hs₁.2 _ (Ne.symm hIL)).trans e, fun b o e => (hs₁.2 b (fun z => by rw [z, hI0] at e; cases e)).trans (F'.keep b o e), F'.above⟩
      have N₁ : News h₀ env.locals h₁ news' := fun p hp' => ⟨(hs₁.2 _ (hne p hp')).trans (N' p hp').1, (N' p hp').2⟩
      refine wpAny_assign_Name (wpAny_storeName_local hx F₁.ns (fun h₂ hn₂ hs₂ => ?_) hp)
      have F₂ := F₁.set hn₂ hs₂
      have N₂ := N₁.set hs₂
      have hit₂ : IsRangeIter h₂ I ((i : Int) + 1) ((k : Int) - (i : Int) - 1) 1 := (hs₂.2 _ hIL).trans hit₁
      have NI : News h₀ env.locals h₂ ((I, _) :: news') := fun p hp' => by
        rcases List.mem_cons.mp hp' with rfl | hp'
        · exact ⟨hit₂, hIL, hI0⟩
        · exact N₂ p hp'
      refine wpAny_mono (wpAny_passesOwn hE (turn i I _ m' news' _ _ _ hik hj hne F₂ NI)) (fun f s₃ h₃ => ?_) fun _ _ e => e
      obtain ⟨rfl, m₃, news₃, h₃, tk₃, rfl, F₃, N₃, ne₃, hj₃⟩ := h₃
      refine ⟨j - 1, by omega, i + 1, m₃, news₃, h₃, tk₃, by omega, rfl, ?_, F₃, fun p hp' => N₃ p (List.mem_cons_of_mem _ hp'), ne₃, hj₃⟩
      have e := (N₃ _ List.mem_cons_self).1
      have e1 : ((i + 1 : Nat) : Int) = (i : Int) + 1 := by omega
      have e2 : (k : Int) - ((i : Int) + 1) = (k : Int) - (i : Int) - 1 := by omega
      rw [e1, e2]
      exact e
    · obtain rfl : i = k := by omega
      refine wpAny_pyNext_range_end hh hit (by omega) fun h₁ he => ?_
      show wpAny _ _ (execs [] env) _ _ _
      exact wpAny_pure (done _ _ _ _ hj ⟨F'.ns.at' fun o e => he _ o (Ne.symm hIL) e, fun b o e => he b o (fun z => by rw [z, hI0] at e; cases e) (F'.keep b o e), F'.above⟩ fun p hp' => ⟨he _ _ (hne p hp') (N' p hp').1, (N' p hp').2⟩)
  · rw [hI]
    have e : ((k : Int) - ((0 : Nat) : Int)) = (k : Int) := by omega
    rw [e]
    exact Heap.get?_push_size _ rfl
end
end
section
section
variable {prog : Program} {w : World} {A : Around} {E : Value → Shared → Prop} {s : Shared} {Q : Value → Shared → Prop}
theorem rng_contains (r : Addr) (a b c i : Int) (t u v ti : Tok) :
    Meets (Builtin.«range.__contains__» ⟨[.ref r, .int i ti], []⟩) (fun _ R s => s.heap.get? r = some { cls := .type "range", dict := none, data := .fields #[.int a t, .int b u, .int c v], slots := #[] } ∧ R (.ok (.ret (.bool (Builtin.Range.rangePlace? a b c i).isSome))) s) :=
  .of_wp fun prog w A R s h => by obtain ⟨hp, g, d, tk, os⟩ := s; obtain ⟨hl, h⟩ := h; wp_walk; exact ⟨_, rfl, h⟩
theorem in_rng {r : Addr} {a b n : Int} {t u v tn : Tok} (R : IsRange s.heap r a b 1 t u v) (h : Q (.bool (Builtin.Range.rangePlace? a b 1 n).isSome) s) : wpAny (model prog w) A (compareOp .In (.int n tn) (.ref r)) Q E s := by
  have hT : s.TypeIs (.ref r) "range" := ⟨_, R, rfl⟩
  exact In_slot hT F.slot_range_contains (call_meets F.slot_range_contains hT F.entry_range_contains (F.args_range_contains_2 _ _) (rng_contains r a b 1 n t u v tn) ⟨R, wpAny_pure h⟩)
theorem in_rng_t {r : Addr} {a b n : Int} {t u v tn : Tok} (R : IsRange s.heap r a b 1 t u v) (hn : a ≤ n ∧ n < b) (h : Q (.bool true) s) : wpAny (model prog w) A (compareOp .In (.int n tn) (.ref r)) Q E s := by
  have e : (Builtin.Range.rangePlace? a b 1 n).isSome = true := by
    unfold Builtin.Range.rangePlace?
    simp [hn.1, hn.2, Int.emod_one]
  exact in_rng R (e ▸ h)
theorem in_rng_f {r : Addr} {a b n : Int} {t u v tn : Tok} (R : IsRange s.heap r a b 1 t u v) (hn : n < a ∨ b ≤ n) (h : Q (.bool false) s) : wpAny (model prog w) A (compareOp .In (.int n tn) (.ref r)) Q E s := by
  have e : (Builtin.Range.rangePlace? a b 1 n).isSome = false := by
    unfold Builtin.Range.rangePlace?
    rcases hn with hn | hn
    · simp [Int.not_le.mpr hn]
    · simp [Int.not_lt.mpr hn]
  exact in_rng R (e ▸ h)
end
end
theorem look1 {prog : Program} {w : World} {A : Around} {E Q : Value → Shared → Prop} {s : Shared} {t u : Tok} (h : wpAny (model prog w) A (binaryOp .Add (.int 1 t) (.int 2 u)) Q E s) : wpAny (model prog w) A (binaryOp .Add (.int 1 t) (.int 2 u)) Q E s := by first | (walk1; fail) | exact h
section
local macro_rules | `(tactic| k_room) => `(tactic| k_extra "r1")
local macro_rules | `(tactic| k_units) => `(tactic| k_extra "r2")
local macro_rules | `(tactic| tb_start) => `(tactic| k_extra "r3")
local macro_rules | `(tactic| k_mem) => `(tactic| k_extra "r4")
local macro_rules | `(tactic| k_allIn) => `(tactic| k_extra "r5")
local macro_rules | `(tactic| ktr_rel) => `(tactic| k_extra "r6")
local macro_rules | `(tactic| tb_rel) => `(tactic| k_extra "r7")
local macro_rules | `(tactic| walk_at "subscriptTail") => `(tactic| k_extra "r8")
set_option maxRecDepth 100000 in
set_option maxHeartbeats 8000000 in
theorem mask_c {w : World} {mean : ExcName → Option Value} {mg mb : Str → Option Value} {wd : Int} {tw : Tok}
   {dp un : Nat} {gd : Option (List Code)} {cn : Str} {cs : Scope} {a : Addr} {ccd : Value} {cl : List (Str × Addr)} {outer : List Env} {A₀ : Around} {base h₀ : Heap} {L : Addr} {m : Str → Option Value} {s : Shared} {news : List (Addr × Obj)} {Q E : Value → Shared → Prop}
   (Bl : Below A₀ base outer h₀) (F : Fr h₀ L s.heap m) (X : (K w.params).In h₀) (N : News h₀ L s.heap news) (T : Top q loose mean mg mb h₀) (hk : cs.kind = .function) (hdp : dp + 1 < recursionLimit) (hun : un + 100 < cLine)
   (hw : wd = 1 ∨ wd = 3 ∨ wd = 4 ∨ wd = 32 ∨ wd = 40)
   (ret : ∀ h' tk t', Fr h₀ L h' m → News h₀ L h' news → Q (.int (2 ^ wd.toNat - 1) t') { s with heap := h', toks := tk }) :
   wpAny (model PySem.Challenge.rw_pq0479_01.prog w) (ktrTop dp un gd cn cs L a ccd cl outer) (call (.ref 73) [.int wd tw]) Q E s := by
  revert X N F; k_fill; intro F X N
  rcases hw with rfl | rfl | rfl | rfl | rfl
  all_goals (tb_start; k_steps; exact ret _ _ _ (by k_asm) (by k_asm))
local macro_rules | `(tactic| walk_at "call ref") => `(tactic| k_extra "r9")
set_option maxRecDepth 100000 in
set_option maxHeartbeats 8000000 in
theorem vec_c {w : World} {mean : ExcName → Option Value} {mg mb : Str → Option Value} {wd x y : Int} {tw tx ty : Tok}
   {dp un : Nat} {gd : Option (List Code)} {cn : Str} {cs : Scope} {a : Addr} {ccd : Value} {cl : List (Str × Addr)} {outer : List Env} {A₀ : Around} {base h₀ : Heap} {L : Addr} {m : Str → Option Value} {s : Shared} {news : List (Addr × Obj)} {Q E : Value → Shared → Prop}
   (Bl : Below A₀ base outer h₀) (F : Fr h₀ L s.heap m) (X : (K w.params).In h₀) (N : News h₀ L s.heap news) (T : Top q loose mean mg mb h₀) (hk : cs.kind = .function) (hdp : dp + 2 < recursionLimit) (hun : un + 200 < cLine)
   (hw : wd = 1 ∨ wd = 3 ∨ wd = 4 ∨ wd = 32 ∨ wd = 40) (hx : 0 ≤ x ∧ x < 2 ^ wd.toNat) (hy : 0 ≤ y ∧ y < 2 ^ wd.toNat)
   (ret : ∀ r h' tk t1 t2 t3 n, Fr h₀ L h' m → News h₀ L h' ((r, tupO [.int wd t1, .int x t2, .int y t3] n) :: news) → (∀ p ∈ news, p.1 < r) → Q (.ref r) { s with heap := h', toks := tk }) :
   wpAny (model PySem.Challenge.rw_pq0479_01.prog w) (ktrTop dp un gd cn cs L a ccd cl outer) (call (.ref 81) [.int wd tw, .int x tx, .int y ty]) Q E s := by
  revert X N F; k_fill; intro F X N
  tb_start; k_steps; all_goals (try simp only [band hx.1 hx.2, band hy.1 hy.2] at *); all_goals exact ret _ _ _ _ _ _ _ (by k_asm) (by k_asm) (by assumption)
local macro_rules | `(tactic| walk_at "call ref") => `(tactic| k_extra "r10")
set_option maxRecDepth 100000 in
set_option maxHeartbeats 8000000 in
theorem extend_c {w : World} {mean : ExcName → Option Value} {mg mb : Str → Option Value} {wd x y : Int} {v : Addr} {t3 t4 t5 : Tok} {nv : Nat} {tw : Tok} {sg : Bool}
   {dp un : Nat} {gd : Option (List Code)} {cn : Str} {cs : Scope} {a : Addr} {ccd : Value} {cl : List (Str × Addr)} {outer : List Env} {A₀ : Around} {base h₀ : Heap} {L : Addr} {m : Str → Option Value} {s : Shared} {news : List (Addr × Obj)} {Q E : Value → Shared → Prop}
   (Bl : Below A₀ base outer h₀) (F : Fr h₀ L s.heap m) (X : (K w.params).In h₀) (N : News h₀ L s.heap news) (T : Top q loose mean mg mb h₀) (hk : cs.kind = .function) (hdp : dp + 3 < recursionLimit) (hun : un + 300 < cLine)
   (hw : wd = 1 ∨ wd = 3 ∨ wd = 4 ∨ wd = 32 ∨ wd = 40) (hx : 0 ≤ x ∧ x < 2 ^ wd.toNat) (hy : 0 ≤ y ∧ y < 2 ^ wd.toNat) (mv : (v, tupO [.int wd t3, .int x t4, .int y t5] nv) ∈ news)
   (ret : ∀ r h' tk t1 t2 t3 n, Fr h₀ L h' m → News h₀ L h' ((r, tupO [.int wd t1, .int x t2, .int y t3] n) :: news) → (∀ p ∈ news, p.1 < r) → Q (.ref r) { s with heap := h', toks := tk }) :
   wpAny (model PySem.Challenge.rw_pq0479_01.prog w) (ktrTop dp un gd cn cs L a ccd cl outer) (call (.ref 158) [.ref v, .int wd tw, .bool sg]) Q E s := by
  revert X N F; k_fill; intro F X N
  tb_start; k_steps; all_goals (try simp only [band hx.1 hx.2, band hy.1 hy.2] at *); all_goals exact ret _ _ _ _ _ _ _ (by k_asm) (by k_asm) (by assumption)
local macro_rules | `(tactic| walk_at "call ref") => `(tactic| k_extra "r11")
end
theorem look2 {prog : Program} {w : World} {A : Around} {E Q : Value → Shared → Prop} {s : Shared} {t u : Tok} (h : wpAny (model prog w) A (binaryOp .Add (.int 1 t) (.int 2 u)) Q E s) : wpAny (model prog w) A (binaryOp .Add (.int 1 t) (.int 2 u)) Q E s := by first | (walk1; fail) | exact h
section
local macro_rules | `(tactic| k_room) => `(tactic| k_extra "r1")
local macro_rules | `(tactic| k_units) => `(tactic| k_extra "r2")
local macro_rules | `(tactic| tb_start) => `(tactic| k_extra "r3")
local macro_rules | `(tactic| k_mem) => `(tactic| k_extra "r4")
local macro_rules | `(tactic| k_allIn) => `(tactic| k_extra "r5")
local macro_rules | `(tactic| ktr_rel) => `(tactic| k_extra "r6")
local macro_rules | `(tactic| tb_rel) => `(tactic| k_extra "r7")
local macro_rules | `(tactic| walk_at "subscriptTail") => `(tactic| k_extra "r8")
local macro_rules | `(tactic| walk_at "call ref") => `(tactic| k_extra "r9")
local macro_rules | `(tactic| walk_at "call ref") => `(tactic| k_extra "r10")
local macro_rules | `(tactic| walk_at "call ref") => `(tactic| k_extra "r11")
set_option maxRecDepth 100000 in
set_option maxHeartbeats 8000000 in
theorem number_c {w : World} {mean : ExcName → Option Value} {mg mb : Str → Option Value} {wd x y : Int} {v : Addr} {t3 t4 t5 : Tok} {nv : Nat} {e : Addr} {t1 t2 : Tok} {at_ : Int} {sg sz : Bool} {ne : Nat} {tw : Tok}
   {dp un : Nat} {gd : Option (List Code)} {cn : Str} {cs : Scope} {a : Addr} {ccd : Value} {cl : List (Str × Addr)} {outer : List Env} {A₀ : Around} {base h₀ : Heap} {L : Addr} {m : Str → Option Value} {s : Shared} {news : List (Addr × Obj)} {Q E : Value → Shared → Prop}
   (Bl : Below A₀ base outer h₀) (F : Fr h₀ L s.heap m) (X : (K w.params).In h₀) (N : News h₀ L s.heap news) (T : Top q loose mean mg mb h₀) (hk : cs.kind = .function) (hdp : dp + 4 < recursionLimit) (hun : un + 400 < cLine)
   (hw : wd = 1 ∨ wd = 3 ∨ wd = 4 ∨ wd = 32 ∨ wd = 40) (hx : 0 ≤ x ∧ x < 2 ^ wd.toNat) (hy : 0 ≤ y ∧ y < 2 ^ wd.toNat) (me : (e, tupO [.str "num" t1, .int at_ t2, .ref v, .bool sg, .bool sz] ne) ∈ news) (mv : (v, tupO [.int wd t3, .int x t4, .int y t5] nv) ∈ news) (hs : sg = true ∨ sz = true)
   (ret : ∀ r h' tk t0 t1 t2 t3 n, Fr h₀ L h' m → News h₀ L h' ((r, tupO [.str "const" t0, .int wd t1, .int x t2, .int y t3] n) :: news) → (∀ p ∈ news, p.1 < r) → Q (.ref r) { s with heap := h', toks := tk }) :
   wpAny (model PySem.Challenge.rw_pq0479_01.prog w) (ktrTop dp un gd cn cs L a ccd cl outer) (call (.ref 913) [.ref e, .int wd tw, .bool sg]) Q E s := by
  revert X N F; k_fill; intro F X N
  rcases hs with rfl | rfl
  · tb_start; k_steps; all_goals exact ret _ _ _ _ _ _ _ _ (by tb_rel) (by tb_rel) (by tb_rel)
  · cases sg
    all_goals (tb_start; k_steps)
    all_goals exact ret _ _ _ _ _ _ _ _ (by tb_rel) (by tb_rel) (by tb_rel)
end
theorem look3 {prog : Program} {w : World} {A : Around} {E Q : Value → Shared → Prop} {s : Shared} {t u : Tok} (h : wpAny (model prog w) A (binaryOp .Add (.int 1 t) (.int 2 u)) Q E s) : wpAny (model prog w) A (binaryOp .Add (.int 1 t) (.int 2 u)) Q E s := by first | (walk1; fail) | exact h
section
local macro_rules | `(tactic| k_room) => `(tactic| k_extra "r1")
local macro_rules | `(tactic| k_units) => `(tactic| k_extra "r2")
local macro_rules | `(tactic| tb_start) => `(tactic| k_extra "r3")
local macro_rules | `(tactic| k_mem) => `(tactic| k_extra "r4")
local macro_rules | `(tactic| k_allIn) => `(tactic| k_extra "r5")
local macro_rules | `(tactic| ktr_rel) => `(tactic| k_extra "r6")
local macro_rules | `(tactic| tb_rel) => `(tactic| k_extra "r7")
local macro_rules | `(tactic| walk_at "subscriptTail") => `(tactic| k_extra "r8")
local macro_rules | `(tactic| walk_at "call ref") => `(tactic| k_extra "r12")
local macro_rules | `(tactic| walk_at "call ref") => `(tactic| k_extra "r11")
set_option maxRecDepth 100000 in
set_option maxHeartbeats 8000000 in
theorem etype_num {w : World} {mean : ExcName → Option Value} {mg mb : Str → Option Value} {wd x y : Int} {v : Addr} {t3 t4 t5 : Tok} {nv : Nat} {e : Addr} {t1 t2 : Tok} {at_ : Int} {sg sz : Bool} {ne : Nat} {sv : Value}
   {dp un : Nat} {gd : Option (List Code)} {cn : Str} {cs : Scope} {a : Addr} {ccd : Value} {cl : List (Str × Addr)} {outer : List Env} {A₀ : Around} {base h₀ : Heap} {L : Addr} {m : Str → Option Value} {s : Shared} {news : List (Addr × Obj)} {Q E : Value → Shared → Prop}
   (Bl : Below A₀ base outer h₀) (F : Fr h₀ L s.heap m) (X : (K w.params).In h₀) (N : News h₀ L s.heap news) (T : Top q loose mean mg mb h₀) (hk : cs.kind = .function) (hdp : dp + 1 < recursionLimit) (hun : un + 300 < cLine)
   (me : (e, tupO [.str "num" t1, .int at_ t2, .ref v, .bool sg, .bool sz] ne) ∈ news) (mv : (v, tupO [.int wd t3, .int x t4, .int y t5] nv) ∈ news)
   (ret : ∀ r h' tk t1 n, Fr h₀ L h' m → News h₀ L h' ((r, tupO [.int wd t1, .bool sg] n) :: news) → (∀ p ∈ news, p.1 < r) → Q (.ref r) { s with heap := h', toks := tk }) :
   wpAny (model PySem.Challenge.rw_pq0479_01.prog w) (ktrTop dp un gd cn cs L a ccd cl outer) (call (.ref 1053) [sv, .ref e]) Q E s := by
  revert X N F; k_fill; intro F X N
  tb_start; k_steps; all_goals exact ret _ _ _ _ _ (by tb_rel) (by tb_rel) (by tb_rel) 
local macro_rules | `(tactic| walk_at "call ref") => `(tactic| k_extra "r13")
set_option maxRecDepth 100000 in
set_option maxHeartbeats 8000000 in
theorem build_num {w : World} {mean : ExcName → Option Value} {mg mb : Str → Option Value} {wd x y : Int} {v : Addr} {t3 t4 t5 : Tok} {nv : Nat} {e : Addr} {t1 t2 : Tok} {at_ : Int} {sg sz : Bool} {ne : Nat} {sv : Value} {tw : Tok}
   {dp un : Nat} {gd : Option (List Code)} {cn : Str} {cs : Scope} {a : Addr} {ccd : Value} {cl : List (Str × Addr)} {outer : List Env} {A₀ : Around} {base h₀ : Heap} {L : Addr} {m : Str → Option Value} {s : Shared} {news : List (Addr × Obj)} {Q E : Value → Shared → Prop}
   (Bl : Below A₀ base outer h₀) (F : Fr h₀ L s.heap m) (X : (K w.params).In h₀) (N : News h₀ L s.heap news) (T : Top q loose mean mg mb h₀) (hk : cs.kind = .function) (hdp : dp + 5 < recursionLimit) (hun : un + 500 < cLine)
   (hw : wd = 1 ∨ wd = 3 ∨ wd = 4 ∨ wd = 32 ∨ wd = 40) (hx : 0 ≤ x ∧ x < 2 ^ wd.toNat) (hy : 0 ≤ y ∧ y < 2 ^ wd.toNat) (me : (e, tupO [.str "num" t1, .int at_ t2, .ref v, .bool sg, .bool sz] ne) ∈ news) (mv : (v, tupO [.int wd t3, .int x t4, .int y t5] nv) ∈ news) (hs : sg = true ∨ sz = true)
   (ret : ∀ r h' tk t0 t1 t2 t3 n, Fr h₀ L h' m → News h₀ L h' ((r, tupO [.str "const" t0, .int wd t1, .int x t2, .int y t3] n) :: news) → (∀ p ∈ news, p.1 < r) → Q (.ref r) { s with heap := h', toks := tk }) :
   wpAny (model PySem.Challenge.rw_pq0479_01.prog w) (ktrTop dp un gd cn cs L a ccd cl outer) (call (.ref 1074) [sv, .ref e, .int wd tw, .bool sg]) Q E s := by
  revert X N F; k_fill; intro F X N
  tb_start; k_steps; all_goals exact ret _ _ _ _ _ _ _ _ (by tb_rel) (by tb_rel) (by tb_rel) 
local macro_rules | `(tactic| walk_at "call ref") => `(tactic| k_extra "r14")
set_option maxRecDepth 100000 in
set_option maxHeartbeats 8000000 in
theorem self_num {w : World} {mean : ExcName → Option Value} {mg mb : Str → Option Value} {wd x y : Int} {v : Addr} {t3 t4 t5 : Tok} {nv : Nat} {e : Addr} {t1 t2 : Tok} {at_ : Int} {sg sz : Bool} {ne : Nat} {sv : Value}
   {dp un : Nat} {gd : Option (List Code)} {cn : Str} {cs : Scope} {a : Addr} {ccd : Value} {cl : List (Str × Addr)} {outer : List Env} {A₀ : Around} {base h₀ : Heap} {L : Addr} {m : Str → Option Value} {s : Shared} {news : List (Addr × Obj)} {Q E : Value → Shared → Prop}
   (Bl : Below A₀ base outer h₀) (F : Fr h₀ L s.heap m) (X : (K w.params).In h₀) (N : News h₀ L s.heap news) (T : Top q loose mean mg mb h₀) (hk : cs.kind = .function) (hdp : dp + 6 < recursionLimit) (hun : un + 600 < cLine)
   (hw : wd = 1 ∨ wd = 3 ∨ wd = 4 ∨ wd = 32 ∨ wd = 40) (hx : 0 ≤ x ∧ x < 2 ^ wd.toNat) (hy : 0 ≤ y ∧ y < 2 ^ wd.toNat) (me : (e, tupO [.str "num" t1, .int at_ t2, .ref v, .bool sg, .bool sz] ne) ∈ news) (mv : (v, tupO [.int wd t3, .int x t4, .int y t5] nv) ∈ news) (hs : sg = true ∨ sz = true)
   (ret : ∀ r c h' tk t0 t1 t2 t3 n n2, Fr h₀ L h' m → News h₀ L h' ((r, tupO [.ref c, .bool sg] n) :: (c, tupO [.str "const" t0, .int wd t1, .int x t2, .int y t3] n2) :: news) → (∀ p ∈ news, p.1 < c) → c < r → Q (.ref r) { s with heap := h', toks := tk }) :
   wpAny (model PySem.Challenge.rw_pq0479_01.prog w) (ktrTop dp un gd cn cs L a ccd cl outer) (call (.ref 1081) [sv, .ref e]) Q E s := by
  revert X N F; k_fill; intro F X N
  tb_start; k_steps; all_goals exact ret _ _ _ _ _ _ _ _ _ _ (by tb_rel) (by tb_rel) (by tb_rel) (by tb_rel) 
end
theorem look4 {prog : Program} {w : World} {A : Around} {E Q : Value → Shared → Prop} {s : Shared} {t u : Tok} (h : wpAny (model prog w) A (binaryOp .Add (.int 1 t) (.int 2 u)) Q E s) : wpAny (model prog w) A (binaryOp .Add (.int 1 t) (.int 2 u)) Q E s := by first | (walk1; fail) | exact h
section
local macro_rules | `(tactic| k_room) => `(tactic| k_extra "r1")
local macro_rules | `(tactic| k_units) => `(tactic| k_extra "r2")
local macro_rules | `(tactic| tb_start) => `(tactic| k_extra "r3")
local macro_rules | `(tactic| k_mem) => `(tactic| k_extra "r4")
local macro_rules | `(tactic| k_allIn) => `(tactic| k_extra "r5")
local macro_rules | `(tactic| ktr_rel) => `(tactic| k_extra "r6")
local macro_rules | `(tactic| tb_rel) => `(tactic| k_extra "r7")
local macro_rules | `(tactic| walk_at "subscriptTail") => `(tactic| k_extra "r8")
local macro_rules | `(tactic| walk_at "call ref") => `(tactic| k_extra "r15")
set_option maxRecDepth 100000 in
set_option maxHeartbeats 8000000 in
theorem cvec_c {w : World} {mean : ExcName → Option Value} {mg mb : Str → Option Value} {wd x y : Int} {c : Addr} {t0 t1 t2 t3 tt : Tok} {n : Nat} {at_ : Int} {sv : Value}
   {dp un : Nat} {gd : Option (List Code)} {cn : Str} {cs : Scope} {a : Addr} {ccd : Value} {cl : List (Str × Addr)} {outer : List Env} {A₀ : Around} {base h₀ : Heap} {L : Addr} {m : Str → Option Value} {s : Shared} {news : List (Addr × Obj)} {Q E : Value → Shared → Prop}
   (Bl : Below A₀ base outer h₀) (F : Fr h₀ L s.heap m) (X : (K w.params).In h₀) (N : News h₀ L s.heap news) (T : Top q loose mean mg mb h₀) (hk : cs.kind = .function) (hdp : dp + 2 < recursionLimit) (hun : un + 300 < cLine)
   (mc : (c, tupO [.str "const" t0, .int wd t1, .int x t2, .int y t3] n) ∈ news)
   (ret : ∀ r h' tk t1 t2 t3 n, Fr h₀ L h' m → News h₀ L h' ((r, tupO [.int wd t1, .int x t2, .int y t3] n) :: news) → (∀ p ∈ news, p.1 < r) → Q (.ref r) { s with heap := h', toks := tk }) :
   wpAny (model PySem.Challenge.rw_pq0479_01.prog w) (ktrTop dp un gd cn cs L a ccd cl outer) (call (.ref 1095) [sv, .ref c, .int at_ tt]) Q E s := by
  revert X N F; k_fill; intro F X N
  tb_start; k_steps; all_goals exact ret _ _ _ _ _ _ _ (by tb_rel) (by tb_rel) (by tb_rel) 
local macro_rules | `(tactic| walk_at "call ref") => `(tactic| k_extra "r16")
set_option maxRecDepth 100000 in
set_option maxHeartbeats 8000000 in
theorem const_num {w : World} {mean : ExcName → Option Value} {mg mb : Str → Option Value} {wd x y : Int} {v : Addr} {t3 t4 t5 : Tok} {nv : Nat} {e : Addr} {t1 t2 : Tok} {at_ : Int} {sg sz : Bool} {ne : Nat} {sv : Value}
   {dp un : Nat} {gd : Option (List Code)} {cn : Str} {cs : Scope} {a : Addr} {ccd : Value} {cl : List (Str × Addr)} {outer : List Env} {A₀ : Around} {base h₀ : Heap} {L : Addr} {m : Str → Option Value} {s : Shared} {news : List (Addr × Obj)} {Q E : Value → Shared → Prop}
   (Bl : Below A₀ base outer h₀) (F : Fr h₀ L s.heap m) (X : (K w.params).In h₀) (N : News h₀ L s.heap news) (T : Top q loose mean mg mb h₀) (hk : cs.kind = .function) (hdp : dp + 7 < recursionLimit) (hun : un + 700 < cLine)
   (hw : wd = 1 ∨ wd = 3 ∨ wd = 4 ∨ wd = 32 ∨ wd = 40) (hx : 0 ≤ x ∧ x < 2 ^ wd.toNat) (hy : 0 ≤ y ∧ y < 2 ^ wd.toNat) (me : (e, tupO [.str "num" t1, .int at_ t2, .ref v, .bool sg, .bool sz] ne) ∈ news) (mv : (v, tupO [.int wd t3, .int x t4, .int y t5] nv) ∈ news) (hs : sg = true ∨ sz = true)
   (ret : ∀ r c h' tk t1 t2 t3 n n2, Fr h₀ L h' m → News h₀ L h' ((r, tupO [.ref c, .bool sg] n) :: (c, tupO [.int wd t1, .int x t2, .int y t3] n2) :: news) → (∀ p ∈ news, p.1 < c) → c < r → Q (.ref r) { s with heap := h', toks := tk }) :
   wpAny (model PySem.Challenge.rw_pq0479_01.prog w) (ktrTop dp un gd cn cs L a ccd cl outer) (call (.ref 1102) [sv, .ref e]) Q E s := by
  revert X N F; k_fill; intro F X N
  tb_start; k_steps; all_goals exact ret _ _ _ _ _ _ _ _ _ (by tb_rel) (by tb_rel) (by tb_rel) (by tb_rel) 
theorem fd31 (x : Int) : x.fdiv (2 ^ (32 - 1 : Int).toNat) = x / 2147483648 := by
  rw [Int.fdiv_eq_ediv_of_nonneg _ (by decide)]; rfl
theorem fd39 (x : Int) : x.fdiv (2 ^ (40 - 1 : Int).toNat) = x / 549755813888 := by
  rw [Int.fdiv_eq_ediv_of_nonneg _ (by decide)]; rfl
set_option maxRecDepth 100000 in
set_option maxHeartbeats 8000000 in
theorem toint_none {w : World} {mean : ExcName → Option Value} {mg mb : Str → Option Value} {wd x y : Int} {v : Addr} {t3 t4 t5 : Tok} {nv : Nat} {sg : Bool}
   {dp un : Nat} {gd : Option (List Code)} {cn : Str} {cs : Scope} {a : Addr} {ccd : Value} {cl : List (Str × Addr)} {outer : List Env} {A₀ : Around} {base h₀ : Heap} {L : Addr} {m : Str → Option Value} {s : Shared} {news : List (Addr × Obj)} {Q E : Value → Shared → Prop}
   (Bl : Below A₀ base outer h₀) (F : Fr h₀ L s.heap m) (X : (K w.params).In h₀) (N : News h₀ L s.heap news) (T : Top q loose mean mg mb h₀) (hk : cs.kind = .function) (hdp : dp + 1 < recursionLimit) (hun : un + 300 < cLine)
   (hy : y ≠ 0) (mv : (v, tupO [.int wd t3, .int x t4, .int y t5] nv) ∈ news)
   (ret : ∀ h' tk, Fr h₀ L h' m → News h₀ L h' news → Q .none { s with heap := h', toks := tk }) :
   wpAny (model PySem.Challenge.rw_pq0479_01.prog w) (ktrTop dp un gd cn cs L a ccd cl outer) (call (.ref 123) [.ref v, .bool sg]) Q E s := by
  revert X N F; k_fill; intro F X N
  tb_start; k_steps; all_goals (first | exact ret _ _ (by tb_rel) (by tb_rel) | exact ret _ _ _ (by tb_rel) (by tb_rel) | (exfalso; omega) | (exfalso; simp only [fd31, fd39] at *; omega))
set_option maxRecDepth 100000 in
set_option maxHeartbeats 8000000 in
theorem toint_un {w : World} {mean : ExcName → Option Value} {mg mb : Str → Option Value} {wd x y : Int} {v : Addr} {t3 t4 t5 : Tok} {nv : Nat}
   {dp un : Nat} {gd : Option (List Code)} {cn : Str} {cs : Scope} {a : Addr} {ccd : Value} {cl : List (Str × Addr)} {outer : List Env} {A₀ : Around} {base h₀ : Heap} {L : Addr} {m : Str → Option Value} {s : Shared} {news : List (Addr × Obj)} {Q E : Value → Shared → Prop}
   (Bl : Below A₀ base outer h₀) (F : Fr h₀ L s.heap m) (X : (K w.params).In h₀) (N : News h₀ L s.heap news) (T : Top q loose mean mg mb h₀) (hk : cs.kind = .function) (hdp : dp + 1 < recursionLimit) (hun : un + 300 < cLine)
   (hy : y = 0) (mv : (v, tupO [.int wd t3, .int x t4, .int y t5] nv) ∈ news)
   (ret : ∀ h' tk t', Fr h₀ L h' m → News h₀ L h' news → Q (.int x t') { s with heap := h', toks := tk }) :
   wpAny (model PySem.Challenge.rw_pq0479_01.prog w) (ktrTop dp un gd cn cs L a ccd cl outer) (call (.ref 123) [.ref v, .bool false]) Q E s := by
  revert X N F; k_fill; intro F X N
  subst hy; tb_start; k_steps; all_goals (first | exact ret _ _ (by tb_rel) (by tb_rel) | exact ret _ _ _ (by tb_rel) (by tb_rel) | (exfalso; omega) | (exfalso; simp only [fd31, fd39] at *; omega))
set_option maxRecDepth 100000 in
set_option maxHeartbeats 8000000 in
theorem toint_32 {w : World} {mean : ExcName → Option Value} {mg mb : Str → Option Value} {wd x y : Int} {v : Addr} {t3 t4 t5 : Tok} {nv : Nat}
   {dp un : Nat} {gd : Option (List Code)} {cn : Str} {cs : Scope} {a : Addr} {ccd : Value} {cl : List (Str × Addr)} {outer : List Env} {A₀ : Around} {base h₀ : Heap} {L : Addr} {m : Str → Option Value} {s : Shared} {news : List (Addr × Obj)} {Q E : Value → Shared → Prop}
   (Bl : Below A₀ base outer h₀) (F : Fr h₀ L s.heap m) (X : (K w.params).In h₀) (N : News h₀ L s.heap news) (T : Top q loose mean mg mb h₀) (hk : cs.kind = .function) (hdp : dp + 1 < recursionLimit) (hun : un + 300 < cLine)
   (hy : y = 0) (hwd : wd = 32) (hx : 0 ≤ x ∧ x < 2 ^ 31) (mv : (v, tupO [.int wd t3, .int x t4, .int y t5] nv) ∈ news)
   (ret : ∀ h' tk t', Fr h₀ L h' m → News h₀ L h' news → Q (.int x t') { s with heap := h', toks := tk }) :
   wpAny (model PySem.Challenge.rw_pq0479_01.prog w) (ktrTop dp un gd cn cs L a ccd cl outer) (call (.ref 123) [.ref v, .bool true]) Q E s := by
  revert X N F; k_fill; intro F X N
  subst hy hwd; tb_start; k_steps; all_goals (first | exact ret _ _ (by tb_rel) (by tb_rel) | exact ret _ _ _ (by tb_rel) (by tb_rel) | (exfalso; omega) | (exfalso; simp only [fd31, fd39] at *; omega))
set_option maxRecDepth 100000 in
set_option maxHeartbeats 8000000 in
theorem toint_40 {w : World} {mean : ExcName → Option Value} {mg mb : Str → Option Value} {wd x y : Int} {v : Addr} {t3 t4 t5 : Tok} {nv : Nat}
   {dp un : Nat} {gd : Option (List Code)} {cn : Str} {cs : Scope} {a : Addr} {ccd : Value} {cl : List (Str × Addr)} {outer : List Env} {A₀ : Around} {base h₀ : Heap} {L : Addr} {m : Str → Option Value} {s : Shared} {news : List (Addr × Obj)} {Q E : Value → Shared → Prop}
   (Bl : Below A₀ base outer h₀) (F : Fr h₀ L s.heap m) (X : (K w.params).In h₀) (N : News h₀ L s.heap news) (T : Top q loose mean mg mb h₀) (hk : cs.kind = .function) (hdp : dp + 1 < recursionLimit) (hun : un + 300 < cLine)
   (hy : y = 0) (hwd : wd = 40) (hx : 0 ≤ x ∧ x < 2 ^ 40) (mv : (v, tupO [.int wd t3, .int x t4, .int y t5] nv) ∈ news)
   (ret : ∀ h' tk t', Fr h₀ L h' m → News h₀ L h' news → Q (.int (if x < 2 ^ 39 then x else x - 2 ^ 40) t') { s with heap := h', toks := tk }) :
   wpAny (model PySem.Challenge.rw_pq0479_01.prog w) (ktrTop dp un gd cn cs L a ccd cl outer) (call (.ref 123) [.ref v, .bool true]) Q E s := by
  revert X N F; k_fill; intro F X N
  subst hy hwd; tb_start; k_steps; all_goals first
    | (have e : (if x < 2 ^ 39 then x else x - 2 ^ 40) = x := if_pos (by simp only [fd39] at *; omega)
       rw [e] at ret; exact ret _ _ _ (by tb_rel) (by tb_rel))
    | (have e : (if x < 2 ^ 39 then x else x - 2 ^ 40) = x - 1 * 2 ^ (40 : Int).toNat := (if_neg (by simp only [fd39] at *; omega)).trans (by rw [Int.one_mul]; rfl)
       rw [e] at ret; exact ret _ _ _ (by tb_rel) (by tb_rel))
end
section
local macro_rules | `(tactic| k_room) => `(tactic| k_extra "r1")
local macro_rules | `(tactic| k_units) => `(tactic| k_extra "r2")
local macro_rules | `(tactic| tb_start) => `(tactic| k_extra "r3")
local macro_rules | `(tactic| k_enter) => `(tactic| k_extra "r17")
local macro_rules | `(tactic| k_mem) => `(tactic| k_extra "r4")
local macro_rules | `(tactic| k_allIn) => `(tactic| k_extra "r18")
local macro_rules | `(tactic| ktr_rel) => `(tactic| k_extra "r6")
local macro_rules | `(tactic| tb_rel) => `(tactic| k_extra "r7")
local macro_rules | `(tactic| walk_at "subscriptTail") => `(tactic| k_extra "r8")
local macro_rules | `(tactic| walk_at "call ref") => `(tactic| k_extra "r19")
local macro_rules | `(tactic| walk_at "subscriptTail") => `(tactic| k_extra "r20")
local macro_rules | `(tactic| walk_at "subscriptTail Name") => `(tactic| k_extra "r20")
local macro_rules | `(tactic| walk_at "subscriptTail Name Constant ref int") => `(tactic| k_extra "r20")
theorem look5 {prog : Program} {w : World} {A : Around} {E Q : Value → Shared → Prop} {s : Shared} {t u : Tok} (h : wpAny (model prog w) A (binaryOp .Add (.int 1 t) (.int 2 u)) Q E s) : wpAny (model prog w) A (binaryOp .Add (.int 1 t) (.int 2 u)) Q E s := by first | (walk1; fail) | exact h
section
theorem const_ok_num {w : World} {mean : ExcName → Option Value} {mg mb : Str → Option Value} {d : DV} {dd : Addr} {n : Int} {rest : List (Addr × Obj)} {S : Addr} {wd x y : Int}  {v : Addr} {t3 t4 t5 : Tok} {nv : Nat} {e : Addr} {t1 t2 : Tok} {at_ : Int} {sg sz : Bool} {ne : Nat}
   (hw : wd = 1 ∨ wd = 3 ∨ wd = 4 ∨ wd = 32 ∨ wd = 40) (hx : 0 ≤ x ∧ x < 2 ^ wd.toNat) (hy : 0 ≤ y ∧ y < 2 ^ wd.toNat) (me : (e, tupO [.str "num" t1, .int at_ t2, .ref v, .bool sg, .bool sz] ne) ∈ rest) (mv : (v, tupO [.int wd t3, .int x t4, .int y t5] nv) ∈ rest) (hs : sg = true ∨ sz = true) : ConstOk w mean mg mb d dd n rest S e 7 700 wd x y sg := by
  intro dp un gd cn cs a ccd cl outer A₀ base h₀ L m s Q E tn Bl F X N T hk hdp hun ret
  exact const_num Bl F X N T hk hdp hun hw hx hy (List.mem_cons_of_mem _ me) (List.mem_cons_of_mem _ mv) hs fun r c h' tk t1 t2 t3 n n2 F' N' l1 l2 => ret _ _ _ _ _ _ _ _ _ _ F' N' l1 l2
set_option maxRecDepth 100000 in
set_option maxHeartbeats 8000000 in
theorem toint_c {w : World} {mean : ExcName → Option Value} {mg mb : Str → Option Value} {wd x y : Int} {v : Addr} {t3 t4 t5 : Tok} {nv : Nat} {sg : Bool} {r : Int}
   {dp un : Nat} {gd : Option (List Code)} {cn : Str} {cs : Scope} {a : Addr} {ccd : Value} {cl : List (Str × Addr)} {outer : List Env} {A₀ : Around} {base h₀ : Heap} {L : Addr} {m : Str → Option Value} {s : Shared} {news : List (Addr × Obj)} {Q E : Value → Shared → Prop}
   (Bl : Below A₀ base outer h₀) (F : Fr h₀ L s.heap m) (X : (K w.params).In h₀) (N : News h₀ L s.heap news) (T : Top q loose mean mg mb h₀) (hk : cs.kind = .function) (hdp : dp + 1 < recursionLimit) (hun : un + 300 < cLine)
   (mv : (v, tupO [.int wd t3, .int x t4, .int y t5] nv) ∈ news) (hv : (y = 0 ∧ 0 ≤ x ∧ ((sg = false ∧ r = x) ∨ (sg = true ∧ wd = 32 ∧ x < 2 ^ 31 ∧ r = x) ∨ (sg = true ∧ wd = 40 ∧ x < 2 ^ 40 ∧ r = if x < 2 ^ 39 then x else x - 2 ^ 40))))
   (ret : ∀ h' tk t', Fr h₀ L h' m → News h₀ L h' news → Q (.int r t') { s with heap := h', toks := tk }) :
   wpAny (model PySem.Challenge.rw_pq0479_01.prog w) (ktrTop dp un gd cn cs L a ccd cl outer) (call (.ref 123) [.ref v, .bool sg]) Q E s := by
  revert X N F; k_fill; intro F X N
  obtain ⟨hy, hx, ⟨rfl, rfl⟩ | ⟨rfl, hwd, hx1, rfl⟩ | ⟨rfl, hwd, hx1, rfl⟩⟩ := hv
  · exact toint_un Bl F X N T hk hdp hun hy mv ret
  · exact toint_32 Bl F X N T hk hdp hun hy hwd ⟨hx, hx1⟩ mv ret
  · exact toint_40 Bl F X N T hk hdp hun hy hwd ⟨hx, hx1⟩ mv ret
local macro_rules | `(tactic| walk_at "call ref") => `(tactic| k_extra "r21")
local macro_rules | `(tactic| k_all) => `(tactic| k_extra "r22")
local macro_rules | `(tactic| walk_at "call ref") => `(tactic| k_extra "r23")
set_option maxRecDepth 100000 in
set_option maxHeartbeats 8000000 in
theorem whole_c {w : World} {mean : ExcName → Option Value} {mg mb : Str → Option Value} {d : DV} {c : SV} {D dd ds S e : Addr} {n : Int} {rest : List (Addr × Obj)} {wd x y : Int} {sg : Bool} {r : Int} {kd ku : Nat}
   (hn : 0 ≤ n ∧ n < 8) (m1 : (S, instObj 1315 ds) ∈ rest) (m2 : (ds, sst w.params c D) ∈ rest) (m3 : (D, instObj 1238 dd) ∈ rest) (hdd : ∀ p ∈ rest, p.1 ≠ dd)
   (C : ConstOk w mean mg mb d dd (n + 1) rest S e kd ku wd x y sg) (hv : (y = 0 ∧ 0 ≤ x ∧ ((sg = false ∧ r = x) ∨ (sg = true ∧ wd = 32 ∧ x < 2 ^ 31 ∧ r = x) ∨ (sg = true ∧ wd = 40 ∧ x < 2 ^ 40 ∧ r = if x < 2 ^ 39 then x else x - 2 ^ 40)))) (hku : 2000 ≤ ku) : WholeOk w mean mg mb d dd n rest S e (kd + 10) (ku + 60) r := by
  intro dp un gd cn cs a ccd cl outer A₀ base h₀ L m s Q E tn Bl F X N T hk hdp hun ret
  revert X N F; k_fill; intro F X N
  tb_start; k_steps
  all_goals (have e9 : n + 1 - 1 = n := by omega); simp only [e9] at *; exact ret _ _ _ _ (by tb_rel) (by tb_rel)
end
end
theorem look6 {prog : Program} {w : World} {A : Around} {E Q : Value → Shared → Prop} {s : Shared} {t u : Tok} (h : wpAny (model prog w) A (binaryOp .Add (.int 1 t) (.int 2 u)) Q E s) : wpAny (model prog w) A (binaryOp .Add (.int 1 t) (.int 2 u)) Q E s := by first | (walk1; fail) | exact h
section
local macro_rules | `(tactic| k_room) => `(tactic| k_extra "r1")
local macro_rules | `(tactic| k_units) => `(tactic| k_extra "r2")
local macro_rules | `(tactic| tb_start) => `(tactic| k_extra "r3")
local macro_rules | `(tactic| k_mem) => `(tactic| k_extra "r4")
local macro_rules | `(tactic| k_allIn) => `(tactic| k_extra "r5")
local macro_rules | `(tactic| ktr_rel) => `(tactic| k_extra "r6")
local macro_rules | `(tactic| tb_rel) => `(tactic| k_extra "r7")
local macro_rules | `(tactic| walk_at "subscriptTail") => `(tactic| k_extra "r8")
local macro_rules | `(tactic| walk_at "call ref") => `(tactic| k_extra "r13")
local macro_rules | `(tactic| k_updF) => `(tactic| k_extra "r24")
local macro_rules | `(tactic| k_all) => `(tactic| k_extra "r25")
local macro_rules | `(tactic| walk_at "exec For") => `(tactic| k_extra "r26")
local macro_rules | `(tactic| walk_at "OneAt") => `(tactic| k_extra "r27")
local macro_rules | `(tactic| walk_at "OneEnd") => `(tactic| k_extra "r28")
set_option maxRecDepth 100000 in
set_option maxHeartbeats 8000000 in
theorem cw_c {w : World} {mean : ExcName → Option Value} {mg mb : Str → Option Value} {wd : Int} {tw : Tok} {av : Value}
   {dp un : Nat} {gd : Option (List Code)} {cn : Str} {cs : Scope} {a : Addr} {ccd : Value} {cl : List (Str × Addr)} {outer : List Env} {A₀ : Around} {base h₀ : Heap} {L : Addr} {m : Str → Option Value} {s : Shared} {news : List (Addr × Obj)} {Q E : Value → Shared → Prop}
   (Bl : Below A₀ base outer h₀) (F : Fr h₀ L s.heap m) (X : (K w.params).In h₀) (N : News h₀ L s.heap news) (T : Top q loose mean mg mb h₀) (hk : cs.kind = .function) (hdp : dp + 1 < recursionLimit) (hun : un + 100 < cLine)
   (hw : 1 ≤ wd ∧ wd ≤ 65536)
   (ret : ∀ h' tk t', Fr h₀ L h' m → News h₀ L h' news → Q (.int wd t') { s with heap := h', toks := tk }) :
   wpAny (model PySem.Challenge.rw_pq0479_01.prog w) (ktrTop dp un gd cn cs L a ccd cl outer) (call (.ref 864) [.int wd tw, av]) Q E s := by
  revert X N F; k_fill; intro F X N
  tb_start; k_steps; all_goals first | exact ret _ _ _ (by tb_rel) (by tb_rel)  | (exfalso; omega)
set_option maxRecDepth 100000 in
set_option maxHeartbeats 8000000 in
theorem ij_c {w : World} {mean : ExcName → Option Value} {mg mb : Str → Option Value}  {p nm nv ct : Addr} {u1 u2 u3 u4 u5 : Tok} {np nn nz : Nat} {c1 c2 : Tok} {at_ : Int} {nc : Nat} {e : Addr} {v0 v2 : Value} {ne : Nat}
   {dp un : Nat} {gd : Option (List Code)} {cn : Str} {cs : Scope} {a : Addr} {ccd : Value} {cl : List (Str × Addr)} {outer : List Env} {A₀ : Around} {base h₀ : Heap} {L : Addr} {m : Str → Option Value} {s : Shared} {news : List (Addr × Obj)} {Q E : Value → Shared → Prop}
   (Bl : Below A₀ base outer h₀) (F : Fr h₀ L s.heap m) (X : (K w.params).In h₀) (N : News h₀ L s.heap news) (T : Top q loose mean mg mb h₀) (hk : cs.kind = .function) (hdp : dp + 1 < recursionLimit) (hun : un + 100 < cLine)
   (me : (e, tupO [v0, .int at_ c2, v2, .ref p] ne) ∈ news)
   (ret : ∀ r h' tk t1 t2 n, Fr h₀ L h' m → News h₀ L h' ((r, tupO [.str "cat" t1, .int at_ t2, .ref p] n) :: news) → (∀ p ∈ news, p.1 < r) → Q (.ref r) { s with heap := h', toks := tk }) :
   wpAny (model PySem.Challenge.rw_pq0479_01.prog w) (ktrTop dp un gd cn cs L a ccd cl outer) (call (.ref 885) [.ref e]) Q E s := by
  revert X N F; k_fill; intro F X N
  tb_start; k_steps; all_goals exact ret _ _ _ _ _ _ (by tb_rel) (by tb_rel) (by tb_rel) 
set_option maxRecDepth 100000 in
set_option maxHeartbeats 8000000 in
theorem jp_c {w : World} {mean : ExcName → Option Value} {mg mb : Str → Option Value}  {p nm nv ct : Addr} {u1 u2 u3 u4 u5 : Tok} {np nn nz : Nat} {c1 c2 : Tok} {at_ : Int} {nc : Nat} {sv : Value}
   {dp un : Nat} {gd : Option (List Code)} {cn : Str} {cs : Scope} {a : Addr} {ccd : Value} {cl : List (Str × Addr)} {outer : List Env} {A₀ : Around} {base h₀ : Heap} {L : Addr} {m : Str → Option Value} {s : Shared} {news : List (Addr × Obj)} {Q E : Value → Shared → Prop}
   (Bl : Below A₀ base outer h₀) (F : Fr h₀ L s.heap m) (X : (K w.params).In h₀) (N : News h₀ L s.heap news) (T : Top q loose mean mg mb h₀) (hk : cs.kind = .function) (hdp : dp + 2 < recursionLimit) (hun : un + 300 < cLine)
   (mct : (ct, tupO [.str "cat" c1, .int at_ c2, .ref p] nc) ∈ news) (mp : (p, tupO [.ref nm] np) ∈ news) (mn : (nm, tupO [.str "num" u1, .int 50 u2, .ref nv, .bool false, .bool true] nn) ∈ news) (mz : (nv, tupO [.int 1 u3, .int 1 u4, .int 0 u5] nz) ∈ news)
   (ret : ∀ r h' tk n, Fr h₀ L h' m → News h₀ L h' ((r, listOf #[.ref nm] n) :: news) → (∀ p ∈ news, p.1 < r) → Q (.ref r) { s with heap := h', toks := tk }) :
   wpAny (model PySem.Challenge.rw_pq0479_01.prog w) (ktrTop dp un gd cn cs L a ccd cl outer) (call (.ref 1018) [sv, .ref ct]) Q E s := by
  revert X N F; k_fill; intro F X N
  tb_start; k_steps; all_goals exact ret _ _ _ _ (by tb_rel) (by tb_rel) (by tb_rel) 
end
theorem look7 {prog : Program} {w : World} {A : Around} {E Q : Value → Shared → Prop} {s : Shared} {t u : Tok} (h : wpAny (model prog w) A (binaryOp .Add (.int 1 t) (.int 2 u)) Q E s) : wpAny (model prog w) A (binaryOp .Add (.int 1 t) (.int 2 u)) Q E s := by first | (walk1; fail) | exact h
section
local macro_rules | `(tactic| k_room) => `(tactic| k_extra "r1")
local macro_rules | `(tactic| k_units) => `(tactic| k_extra "r2")
local macro_rules | `(tactic| tb_start) => `(tactic| k_extra "r3")
local macro_rules | `(tactic| k_mem) => `(tactic| k_extra "r4")
local macro_rules | `(tactic| k_allIn) => `(tactic| k_extra "r5")
local macro_rules | `(tactic| ktr_rel) => `(tactic| k_extra "r6")
local macro_rules | `(tactic| tb_rel) => `(tactic| k_extra "r7")
local macro_rules | `(tactic| walk_at "subscriptTail") => `(tactic| k_extra "r8")
local macro_rules | `(tactic| walk_at "call ref") => `(tactic| k_extra "r13")
local macro_rules | `(tactic| walk_at "call ref") => `(tactic| k_extra "r29")
local macro_rules | `(tactic| walk_at "call ref") => `(tactic| k_extra "r30")
local macro_rules | `(tactic| k_updF) => `(tactic| k_extra "r24")
local macro_rules | `(tactic| k_all) => `(tactic| k_extra "r25")
local macro_rules | `(tactic| walk_at "exec For") => `(tactic| k_extra "r31")
local macro_rules | `(tactic| walk_at "exec For Name Call cons nil") => `(tactic| k_extra "r31")
local macro_rules | `(tactic| walk_at "exec For Name Name cons nil") => `(tactic| k_extra "r31")
local macro_rules | `(tactic| walk_at "OneAt") => `(tactic| k_extra "r32")
local macro_rules | `(tactic| walk_at "OneEnd") => `(tactic| k_extra "r33")
local macro_rules | `(tactic| walk_at "call ref") => `(tactic| k_extra "r34")
set_option maxRecDepth 100000 in
set_option maxHeartbeats 8000000 in
theorem jwcat_c {w : World} {mean : ExcName → Option Value} {mg mb : Str → Option Value}  {p nm nv ct : Addr} {u1 u2 u3 u4 u5 : Tok} {np nn nz : Nat} {c1 c2 : Tok} {at_ : Int} {nc : Nat} {sv : Value}
   {dp un : Nat} {gd : Option (List Code)} {cn : Str} {cs : Scope} {a : Addr} {ccd : Value} {cl : List (Str × Addr)} {outer : List Env} {A₀ : Around} {base h₀ : Heap} {L : Addr} {m : Str → Option Value} {s : Shared} {news : List (Addr × Obj)} {Q E : Value → Shared → Prop}
   (Bl : Below A₀ base outer h₀) (F : Fr h₀ L s.heap m) (X : (K w.params).In h₀) (N : News h₀ L s.heap news) (T : Top q loose mean mg mb h₀) (hk : cs.kind = .function) (hdp : dp + 4 < recursionLimit) (hun : un + 600 < cLine)
   (mct : (ct, tupO [.str "cat" c1, .int at_ c2, .ref p] nc) ∈ news) (mp : (p, tupO [.ref nm] np) ∈ news) (mn : (nm, tupO [.str "num" u1, .int 50 u2, .ref nv, .bool false, .bool true] nn) ∈ news) (mz : (nv, tupO [.int 1 u3, .int 1 u4, .int 0 u5] nz) ∈ news)
   (ret : ∀ h' tk t', Fr h₀ L h' m → News h₀ L h' news → Q (.int 1 t') { s with heap := h', toks := tk }) :
   wpAny (model PySem.Challenge.rw_pq0479_01.prog w) (ktrTop dp un gd cn cs L a ccd cl outer) (call (.ref 1032) [sv, .ref ct]) Q E s := by
  revert X N F; k_fill; intro F X N
  tb_start; k_steps; all_goals first | exact ret _ _ _ (by tb_rel) (by tb_rel) 
end
section
local macro_rules | `(tactic| k_room) => `(tactic| k_extra "r1")
local macro_rules | `(tactic| k_units) => `(tactic| k_extra "r2")
local macro_rules | `(tactic| tb_start) => `(tactic| k_extra "r3")
local macro_rules | `(tactic| k_enter) => `(tactic| k_extra "r17")
local macro_rules | `(tactic| k_mem) => `(tactic| k_extra "r4")
local macro_rules | `(tactic| k_allIn) => `(tactic| k_extra "r18")
local macro_rules | `(tactic| ktr_rel) => `(tactic| k_extra "r6")
local macro_rules | `(tactic| tb_rel) => `(tactic| k_extra "r7")
local macro_rules | `(tactic| walk_at "subscriptTail") => `(tactic| k_extra "r8")
local macro_rules | `(tactic| walk_at "call ref") => `(tactic| k_extra "r19")
local macro_rules | `(tactic| walk_at "subscriptTail") => `(tactic| k_extra "r20")
local macro_rules | `(tactic| walk_at "subscriptTail Name") => `(tactic| k_extra "r20")
local macro_rules | `(tactic| walk_at "subscriptTail Name Constant ref int") => `(tactic| k_extra "r20")
section
local macro_rules | `(tactic| k_updF) => `(tactic| k_extra "r24")
local macro_rules | `(tactic| k_all) => `(tactic| k_extra "r25")
local macro_rules | `(tactic| walk_at "exec For") => `(tactic| k_extra "r31")
local macro_rules | `(tactic| walk_at "exec For Name Call cons nil") => `(tactic| k_extra "r31")
local macro_rules | `(tactic| walk_at "exec For Name Name cons nil") => `(tactic| k_extra "r31")
local macro_rules | `(tactic| walk_at "OneAt") => `(tactic| k_extra "r32")
local macro_rules | `(tactic| walk_at "OneEnd") => `(tactic| k_extra "r33")
theorem look8 {prog : Program} {w : World} {A : Around} {E Q : Value → Shared → Prop} {s : Shared} {t u : Tok} (h : wpAny (model prog w) A (binaryOp .Add (.int 1 t) (.int 2 u)) Q E s) : wpAny (model prog w) A (binaryOp .Add (.int 1 t) (.int 2 u)) Q E s := by first | (walk1; fail) | exact h
section
local macro_rules | `(tactic| walk_at "call ref") => `(tactic| k_extra "r13")
local macro_rules | `(tactic| walk_at "call ref") => `(tactic| k_extra "r29")
local macro_rules | `(tactic| walk_at "call ref") => `(tactic| k_extra "r30")
local macro_rules | `(tactic| walk_at "call ref") => `(tactic| k_extra "r34")
local macro_rules | `(tactic| walk_at "call ref") => `(tactic| k_extra "r35")
theorem whole_d {w : World} {mean : ExcName → Option Value} {mg mb : Str → Option Value} {d : DV} {c : SV} {D dd ds S e : Addr} {n : Int} {rest : List (Addr × Obj)} {wd x y : Int} {sg : Bool} {r : Int} {kd ku : Nat}
   (hn : 0 ≤ n ∧ n < 8) (m1 : (S, instObj 1315 ds) ∈ rest) (m2 : (ds, sst w.params c D) ∈ rest) (m3 : (D, instObj 1238 dd) ∈ rest)
   (C : DCall w mean mg mb d dd (n + 1) rest 1102 [.ref S, .ref e] kd ku (constR wd x y sg)) (hv : (y = 0 ∧ 0 ≤ x ∧ ((sg = false ∧ r = x) ∨ (sg = true ∧ wd = 32 ∧ x < 2 ^ 31 ∧ r = x) ∨ (sg = true ∧ wd = 40 ∧ x < 2 ^ 40 ∧ r = if x < 2 ^ 39 then x else x - 2 ^ 40)))) (hku : 2000 ≤ ku) : DCall w mean mg mb d dd n rest 1109 [.ref S, .ref e] (kd + 10) (ku + 60) (intR r) :=
  fun rest' sub ne dp un gd cn cs a ccd cl outer A₀ base h₀ L m s Q E tn Bl F X N T hk hdp hun ret =>
    whole_c hn (sub _ m1) (sub _ m2) (sub _ m3) ne (ConstOk.of C sub ne) hv hku dp un gd cn cs a ccd cl outer A₀ base h₀ L m s Q E tn Bl F X N T hk hdp hun
      fun h' tk tn' t' F' N' => ret _ _ _ _ [] F' N' (fun _ hp => nomatch hp) ⟨rfl, _, rfl⟩
local macro_rules | `(tactic| walk_at "call ref") => `(tactic| k_extra "r36")
set_option maxRecDepth 100000 in
set_option maxHeartbeats 8000000 in
theorem copies_d {w : World} {mean : ExcName → Option Value} {mg mb : Str → Option Value} {d : DV} {dd : Addr} {n : Int} {rest : List (Addr × Obj)} {kd ku : Nat}  {S e e2 : Addr} {q1 q2 : Tok} {at_ : Int} {ne_ : Nat} {p : Addr}
   (me : (e, tupO [.str "rep" q1, .int at_ q2, .ref e2, .ref p] ne_) ∈ rest) (W : DCall w mean mg mb d dd n rest 1109 [.ref S, .ref e2] kd ku (intR 1)) (hku : 2000 ≤ ku) : DCall w mean mg mb d dd n rest 1025 [.ref S, .ref e] (kd + 2) (ku + 40) (intR 1) := by
  intro rest' sub ne dp un gd cn cs a ccd cl outer A₀ base h₀ L m s Q E tn Bl F X N T hk hdp hun ret
  (replace me := sub _ me);
  revert X N F; k_fill; intro F X N
  tb_start; k_steps; all_goals first | exact ret _ _ _ _ [] (by tb_rel) (by tb_rel) (fun _ hp => nomatch hp) ⟨rfl, _, rfl⟩
local macro_rules | `(tactic| walk_at "call ref") => `(tactic| k_extra "r37")
set_option maxRecDepth 100000 in
set_option maxHeartbeats 8000000 in
theorem jwrep_d {w : World} {mean : ExcName → Option Value} {mg mb : Str → Option Value} {d : DV} {dd : Addr} {n : Int} {rest : List (Addr × Obj)} {kd ku : Nat}  {S e e2 : Addr} {q1 q2 : Tok} {at_ : Int} {ne_ : Nat} {p nm nv ct : Addr} {u1 u2 u3 u4 u5 : Tok} {np nn nz : Nat}
   (me : (e, tupO [.str "rep" q1, .int at_ q2, .ref e2, .ref p] ne_) ∈ rest) (mp : (p, tupO [.ref nm] np) ∈ rest) (mn : (nm, tupO [.str "num" u1, .int 50 u2, .ref nv, .bool false, .bool true] nn) ∈ rest) (mz : (nv, tupO [.int 1 u3, .int 1 u4, .int 0 u5] nz) ∈ rest) (C0 : DCall w mean mg mb d dd n rest 1025 [.ref S, .ref e] kd ku (intR 1)) (hku : 2000 ≤ ku) : DCall w mean mg mb d dd n rest 1032 [.ref S, .ref e] (kd + 6) (ku + 40) (intR 1) := by
  intro rest' sub ne dp un gd cn cs a ccd cl outer A₀ base h₀ L m s Q E tn Bl F X N T hk hdp hun ret
  (replace me := sub _ me); (replace mp := sub _ mp); (replace mn := sub _ mn); (replace mz := sub _ mz);
  revert X N F; k_fill; intro F X N
  tb_start; k_steps; all_goals first | exact ret _ _ _ _ [] (by tb_rel) (by tb_rel) (fun _ hp => nomatch hp) ⟨rfl, _, rfl⟩
end
section
set_option maxRecDepth 100000 in
set_option maxHeartbeats 8000000 in
theorem ev_const {w : World} {mean : ExcName → Option Value} {mg mb : Str → Option Value} {wd x y : Int} {c : Addr} {cv : Value} {t0 t3 t4 t5 : Tok} {n0 : Nat}
   {dp un : Nat} {gd : Option (List Code)} {cn : Str} {cs : Scope} {a : Addr} {ccd : Value} {cl : List (Str × Addr)} {outer : List Env} {A₀ : Around} {base h₀ : Heap} {L : Addr} {m : Str → Option Value} {s : Shared} {news : List (Addr × Obj)} {Q E : Value → Shared → Prop}
   (Bl : Below A₀ base outer h₀) (F : Fr h₀ L s.heap m) (X : (K w.params).In h₀) (N : News h₀ L s.heap news) (T : Top q loose mean mg mb h₀) (hk : cs.kind = .function) (hdp : dp + 1 < recursionLimit) (hun : un + 300 < cLine)
   (mc : (c, tupO [.str "const" t0, .int wd t3, .int x t4, .int y t5] n0) ∈ news)
   (ret : ∀ r h' tk t1 t2 t3 n, Fr h₀ L h' m → News h₀ L h' ((r, tupO [.int wd t1, .int x t2, .int y t3] n) :: news) → (∀ p ∈ news, p.1 < r) → Q (.ref r) { s with heap := h', toks := tk }) :
   wpAny (model PySem.Challenge.rw_pq0479_01.prog w) (ktrTop dp un gd cn cs L a ccd cl outer) (call (.ref 605) [.ref c, cv]) Q E s := by
  revert X N F; k_fill; intro F X N
  (refine wpAny_call ?_; (refine' code_defCX ?k6 ?e1 ?e2 ?e3 ?k1 ?k2 ?k3 ?k4 ?k5 ?kA ?kF ?kK ?k7 ?k8 ?k9 ?kB ?kD ?_ ?c2 ?c3 ?c4; (case kA => exact rfl); (case kF => exact rfl); (case kK => assumption); (case k1 => k_asm); (case k2 => k_asm); (case k3 => k_asm); (case k4 => k_asm); (case k5 => k_asm); (case k6 => k_dflt k_is); (case e1 => ((conv => lhs; whnf); try exact rfl)); (case e2 => ((conv => lhs; whnf); try exact rfl)); (case e3 => ((conv => lhs; whnf); try exact rfl)); (case k7 => k_dflt k_is); (case k8 => k_room); (case k9 => exact BindsTo.of_eq rfl); (case kB => exact rfl); (case kD => decide +kernel); (case c2 => exact rfl); (case c3 => exact rfl); (case c4 => exact rfl); k_whole; intro g' L' h' tk' cells' FG' F' N' Y' B' X' T' l1; (try k_lt l1); k_cells Y'; (try simp only [List.cons_append, List.nil_append] at N'); (try dsimp only); (try k_lift B'); (try k_fold))); k_steps; all_goals first | exact ret _ _ _ _ _ _ _ (by tb_rel) (by tb_rel) (by tb_rel) 
end
theorem look9 {prog : Program} {w : World} {A : Around} {E Q : Value → Shared → Prop} {s : Shared} {t u : Tok} (h : wpAny (model prog w) A (binaryOp .Add (.int 1 t) (.int 2 u)) Q E s) : wpAny (model prog w) A (binaryOp .Add (.int 1 t) (.int 2 u)) Q E s := by first | (walk1; fail) | exact h
section
set_option maxRecDepth 100000 in
set_option maxHeartbeats 8000000 in
theorem concat_c {w : World} {mean : ExcName → Option Value} {mg mb : Str → Option Value}  {l v : Addr} {t3 t4 t5 : Tok} {nl nv : Nat}
   {dp un : Nat} {gd : Option (List Code)} {cn : Str} {cs : Scope} {a : Addr} {ccd : Value} {cl : List (Str × Addr)} {outer : List Env} {A₀ : Around} {base h₀ : Heap} {L : Addr} {m : Str → Option Value} {s : Shared} {news : List (Addr × Obj)} {Q E : Value → Shared → Prop}
   (Bl : Below A₀ base outer h₀) (F : Fr h₀ L s.heap m) (X : (K w.params).In h₀) (N : News h₀ L s.heap news) (T : Top q loose mean mg mb h₀) (hk : cs.kind = .function) (hdp : dp + 1 < recursionLimit) (hun : un + 300 < cLine)
   (ml : (l, listOf #[.ref v] nl) ∈ news) (mv : (v, tupO [.int 1 t3, .int 1 t4, .int 0 t5] nv) ∈ news)
   (ret : ∀ r h' tk t1 t2 t3 n, Fr h₀ L h' m → News h₀ L h' ((r, tupO [.int 1 t1, .int 1 t2, .int 0 t3] n) :: news) → (∀ p ∈ news, p.1 < r) → Q (.ref r) { s with heap := h', toks := tk }) :
   wpAny (model PySem.Challenge.rw_pq0479_01.prog w) (ktrTop dp un gd cn cs L a ccd cl outer) (call (.ref 151) [.ref l]) Q E s := by
  revert X N F; k_fill; intro F X N
  tb_start; k_steps; all_goals first | exact ret _ _ _ _ _ _ _ (by tb_rel) (by tb_rel) (by tb_rel) 
local macro_rules | `(tactic| walk_at "call ref") => `(tactic| k_extra "r38")
local macro_rules | `(tactic| walk_at "call ref") => `(tactic| k_extra "r39")
local macro_rules | `(tactic| walk_at "eval ListComp") => `(tactic| k_extra "r40")
set_option maxRecDepth 100000 in
set_option maxHeartbeats 8000000 in
theorem ev_cat {w : World} {mean : ExcName → Option Value} {mg mb : Str → Option Value}  {ct p c : Addr} {c1 c2 t0 t1 t2 t3 : Tok} {np nc n0 : Nat} {cv : Value}
   {dp un : Nat} {gd : Option (List Code)} {cn : Str} {cs : Scope} {a : Addr} {ccd : Value} {cl : List (Str × Addr)} {outer : List Env} {A₀ : Around} {base h₀ : Heap} {L : Addr} {m : Str → Option Value} {s : Shared} {news : List (Addr × Obj)} {Q E : Value → Shared → Prop}
   (Bl : Below A₀ base outer h₀) (F : Fr h₀ L s.heap m) (X : (K w.params).In h₀) (N : News h₀ L s.heap news) (T : Top q loose mean mg mb h₀) (hk : cs.kind = .function) (hdp : dp + 4 < recursionLimit) (hun : un + 700 < cLine)
   (mct : (ct, tupO [.str "cat" c1, .int 1 c2, .ref p] nc) ∈ news) (mp : (p, tupO [.ref c] np) ∈ news) (mc : (c, tupO [.str "const" t0, .int 1 t1, .int 1 t2, .int 0 t3] n0) ∈ news)
   (ret : ∀ r h' tk t1 t2 t3 n, Fr h₀ L h' m → News h₀ L h' ((r, tupO [.int 1 t1, .int 1 t2, .int 0 t3] n) :: news) → (∀ p ∈ news, p.1 < r) → Q (.ref r) { s with heap := h', toks := tk }) :
   wpAny (model PySem.Challenge.rw_pq0479_01.prog w) (ktrTop dp un gd cn cs L a ccd cl outer) (call (.ref 605) [.ref ct, cv]) Q E s := by
  revert X N F; k_fill; intro F X N
  (refine wpAny_call ?_; (refine' code_defCX ?k6 ?e1 ?e2 ?e3 ?k1 ?k2 ?k3 ?k4 ?k5 ?kA ?kF ?kK ?k7 ?k8 ?k9 ?kB ?kD ?_ ?c2 ?c3 ?c4; (case kA => exact rfl); (case kF => exact rfl); (case kK => assumption); (case k1 => k_asm); (case k2 => k_asm); (case k3 => k_asm); (case k4 => k_asm); (case k5 => k_asm); (case k6 => k_dflt k_is); (case e1 => ((conv => lhs; whnf); try exact rfl)); (case e2 => ((conv => lhs; whnf); try exact rfl)); (case e3 => ((conv => lhs; whnf); try exact rfl)); (case k7 => k_dflt k_is); (case k8 => k_room); (case k9 => exact BindsTo.of_eq rfl); (case kB => exact rfl); (case kD => decide +kernel); (case c2 => exact rfl); (case c3 => exact rfl); (case c4 => exact rfl); k_whole; intro g' L' h' tk' cells' FG' F' N' Y' B' X' T' l1; (try k_lt l1); k_cells Y'; (try simp only [List.cons_append, List.nil_append] at N'); (try dsimp only); (try k_lift B'); (try k_fold))); k_steps
  (refine' CompAt.tup ?oh ?oc ?ok ?ox ?of ?on ?om ?_; (case on => k_asm); (case om => k_mem); (case oh => exact rfl); (case oc => decide); (case ok => exact rfl); (case ox => exact rfl); (case of => k_asm))
  intro C' D' I' it' oC' hX tkX E' l1 l2 l3 hC F' N'
  k_lt l1
  k_lt2 l2
  k_lt2 l3
  (refine' elt_ev ?af ?ax ?aT ?a1 ?a2 rfl rfl rfl rfl rfl (by decide) (by decide) (by decide) hC ?av ?ac ?ad ?_; (case af => k_asm); (case ax => k_asm); (case aT => k_asm); (case a1 => k_dflt k_is); (case a2 => k_dflt k_is); (case av => exact if_pos rfl); (case ac => exact rfl); (case ad => exact ⟨_, News.get (by k_asm) (by k_mem), by assumption⟩))
  (refine' ev_const ?ub ?uf ?ux ?un ?ut ?uk ?ud ?uu ?um ?_; (case ub => k_asm); (case uf => k_asm); (case ux => k_asm); (case un => k_asm); (case ut => k_asm); (case uk => first | exact rfl | assumption); (case ud => k_room); (case uu => k_units); (case um => k_mem))
  intro r' h' tk' t1' t2' t3' n' F' N' l1
  refine ⟨[(_, _)], _, _, rfl, F', N', ?_, ?_⟩
  · intro p hp; rw [List.mem_singleton.mp hp]; exact l1 _ List.mem_cons_self
  intro h5 tk5 n5 F' N'
  simp only [List.cons_append, List.nil_append] at N'
  k_steps
  all_goals exact ret _ _ _ _ _ _ _ (by tb_rel) (by tb_rel) (by tb_rel) 
end
section
local macro_rules | `(tactic| tb_rel) => `(tactic| k_extra "r41")
theorem look10 {prog : Program} {w : World} {A : Around} {E Q : Value → Shared → Prop} {s : Shared} {t u : Tok} (h : wpAny (model prog w) A (binaryOp .Add (.int 1 t) (.int 2 u)) Q E s) : wpAny (model prog w) A (binaryOp .Add (.int 1 t) (.int 2 u)) Q E s := by first | (walk1; fail) | exact h
section
local macro_rules | `(tactic| walk_at "call ref") => `(tactic| k_extra "r42")
local macro_rules | `(tactic| walk_at "call ref") => `(tactic| k_extra "r43")
set_option maxRecDepth 100000 in
set_option maxHeartbeats 8000000 in
theorem etrep_d {w : World} {mean : ExcName → Option Value} {mg mb : Str → Option Value} {d : DV} {dd : Addr} {n : Int} {rest : List (Addr × Obj)} {kd ku : Nat}  {S e e2 : Addr} {q1 q2 : Tok} {at_ : Int} {ne_ : Nat} {p : Addr}
   (me : (e, tupO [.str "rep" q1, .int at_ q2, .ref e2, .ref p] ne_) ∈ rest) (C0 : DCall w mean mg mb d dd n rest 1032 [.ref S, .ref e] kd ku (intR 1)) (hku : 2000 ≤ ku) : DCall w mean mg mb d dd n rest 1053 [.ref S, .ref e] (kd + 1) (ku + 40) (etR 1 false) := by
  intro rest' sub ne dp un gd cn cs a ccd cl outer A₀ base h₀ L m s Q E tn Bl F X N T hk hdp hun ret
  (replace me := sub _ me);
  revert X N F; k_fill; intro F X N
  tb_start; k_steps; all_goals exact ret _ _ _ _ [(_, _)] (by tb_rel) (by tb_rel) (ext1 (by tb_rel) (by tb_rel)) ⟨_, _, _, rfl, rfl⟩
set_option maxRecDepth 100000 in
set_option maxHeartbeats 8000000 in
theorem folded_c {w : World} {mean : ExcName → Option Value} {mg mb : Str → Option Value}  {ct p c : Addr} {c1 c2 t0 t1 t2 t3 : Tok} {np nc n0 : Nat}
   {dp un : Nat} {gd : Option (List Code)} {cn : Str} {cs : Scope} {a : Addr} {ccd : Value} {cl : List (Str × Addr)} {outer : List Env} {A₀ : Around} {base h₀ : Heap} {L : Addr} {m : Str → Option Value} {s : Shared} {news : List (Addr × Obj)} {Q E : Value → Shared → Prop}
   (Bl : Below A₀ base outer h₀) (F : Fr h₀ L s.heap m) (X : (K w.params).In h₀) (N : News h₀ L s.heap news) (T : Top q loose mean mg mb h₀) (hk : cs.kind = .function) (hdp : dp + 6 < recursionLimit) (hun : un + 900 < cLine)
   (mct : (ct, tupO [.str "cat" c1, .int 1 c2, .ref p] nc) ∈ news) (mp : (p, tupO [.ref c] np) ∈ news) (mc : (c, tupO [.str "const" t0, .int 1 t1, .int 1 t2, .int 0 t3] n0) ∈ news)
   (ret : ∀ r h' tk t0 t1 t2 t3 n, Fr h₀ L h' m → News h₀ L h' ((r, tupO [.str "const" t0, .int 1 t1, .int 1 t2, .int 0 t3] n) :: news) → (∀ p ∈ news, p.1 < r) → Q (.ref r) { s with heap := h', toks := tk }) :
   wpAny (model PySem.Challenge.rw_pq0479_01.prog w) (ktrTop dp un gd cn cs L a ccd cl outer) (call (.ref 857) [.ref ct]) Q E s := by
  revert X N F; k_fill; intro F X N
  tb_start; k_steps; all_goals first | exact ret _ _ _ _ _ _ _ _ (by tb_rel) (by tb_rel) (by tb_rel)
end
theorem look11 {prog : Program} {w : World} {A : Around} {E Q : Value → Shared → Prop} {s : Shared} {t u : Tok} (h : wpAny (model prog w) A (binaryOp .Add (.int 1 t) (.int 2 u)) Q E s) : wpAny (model prog w) A (binaryOp .Add (.int 1 t) (.int 2 u)) Q E s := by first | (walk1; fail) | exact h
section
local macro_rules | `(tactic| walk_at "call ref") => `(tactic| k_extra "r13")
local macro_rules | `(tactic| walk_at "call ref") => `(tactic| k_extra "r34")
local macro_rules | `(tactic| walk_at "call ref") => `(tactic| k_extra "r35")
local macro_rules | `(tactic| walk_at "call ref") => `(tactic| k_extra "r15")
local macro_rules | `(tactic| walk_at "call ref") => `(tactic| k_extra "r44")
local macro_rules | `(tactic| walk_at "call ref") => `(tactic| k_extra "r30")
set_option maxRecDepth 100000 in
set_option maxHeartbeats 8000000 in
theorem jvcat_c {w : World} {mean : ExcName → Option Value} {mg mb : Str → Option Value}  {p nm nv ct : Addr} {u1 u2 u3 u4 u5 : Tok} {np nn nz : Nat} {c1 c2 : Tok} {nc : Nat} {sv : Value} {at_ : Int}
   {dp un : Nat} {gd : Option (List Code)} {cn : Str} {cs : Scope} {a : Addr} {ccd : Value} {cl : List (Str × Addr)} {outer : List Env} {A₀ : Around} {base h₀ : Heap} {L : Addr} {m : Str → Option Value} {s : Shared} {news : List (Addr × Obj)} {Q E : Value → Shared → Prop}
   (Bl : Below A₀ base outer h₀) (F : Fr h₀ L s.heap m) (X : (K w.params).In h₀) (N : News h₀ L s.heap news) (T : Top q loose mean mg mb h₀) (hk : cs.kind = .function) (hdp : dp + 8 < recursionLimit) (hun : un + 1300 < cLine)
   (mct : (ct, tupO [.str "cat" c1, .int at_ c2, .ref p] nc) ∈ news) (mp : (p, tupO [.ref nm] np) ∈ news) (mn : (nm, tupO [.str "num" u1, .int 50 u2, .ref nv, .bool false, .bool true] nn) ∈ news) (mz : (nv, tupO [.int 1 u3, .int 1 u4, .int 0 u5] nz) ∈ news)
   (ret : ∀ r h' tk t0 t1 t2 t3 n, Fr h₀ L h' m → News h₀ L h' ((r, tupO [.str "const" t0, .int 1 t1, .int 1 t2, .int 0 t3] n) :: news) → (∀ p ∈ news, p.1 < r) → Q (.ref r) { s with heap := h', toks := tk }) :
   wpAny (model PySem.Challenge.rw_pq0479_01.prog w) (ktrTop dp un gd cn cs L a ccd cl outer) (call (.ref 1039) [sv, .ref ct]) Q E s := by
  revert X N F; k_fill; intro F X N
  tb_start; k_steps; all_goals first | exact ret _ _ _ _ _ _ _ _ (by tb_rel) (by tb_rel) (by tb_rel)
end
theorem look12 {prog : Program} {w : World} {A : Around} {E Q : Value → Shared → Prop} {s : Shared} {t u : Tok} (h : wpAny (model prog w) A (binaryOp .Add (.int 1 t) (.int 2 u)) Q E s) : wpAny (model prog w) A (binaryOp .Add (.int 1 t) (.int 2 u)) Q E s := by first | (walk1; fail) | exact h
section
local macro_rules | `(tactic| walk_at "binaryOp Mult ref int") => `(tactic| k_extra "r45")
local macro_rules | `(tactic| walk_at "call ref") => `(tactic| k_extra "r44")
local macro_rules | `(tactic| walk_at "call ref") => `(tactic| k_extra "r30")
local macro_rules | `(tactic| walk_at "call ref") => `(tactic| k_extra "r46")
local macro_rules | `(tactic| walk_at "call ref") => `(tactic| k_extra "r43")
local macro_rules | `(tactic| walk_at "call ref") => `(tactic| k_extra "r37")
set_option maxRecDepth 100000 in
set_option maxHeartbeats 8000000 in
theorem jvrep_d {w : World} {mean : ExcName → Option Value} {mg mb : Str → Option Value} {d : DV} {dd : Addr} {n : Int} {rest : List (Addr × Obj)} {kd ku : Nat}  {S e e2 : Addr} {q1 q2 : Tok} {at_ : Int} {ne_ : Nat} {p nm nv ct : Addr} {u1 u2 u3 u4 u5 : Tok} {np nn nz : Nat}
   (me : (e, tupO [.str "rep" q1, .int at_ q2, .ref e2, .ref p] ne_) ∈ rest) (mp : (p, tupO [.ref nm] np) ∈ rest) (mn : (nm, tupO [.str "num" u1, .int 50 u2, .ref nv, .bool false, .bool true] nn) ∈ rest) (mz : (nv, tupO [.int 1 u3, .int 1 u4, .int 0 u5] nz) ∈ rest) (C0 : DCall w mean mg mb d dd n rest 1032 [.ref S, .ref e] kd ku (intR 1)) (C1 : DCall w mean mg mb d dd n rest 1025 [.ref S, .ref e] kd ku (intR 1)) (hku : 2000 ≤ ku) : DCall w mean mg mb d dd n rest 1039 [.ref S, .ref e] (kd + 9) (ku + 40) (cR 1 1 0) := by
  intro rest' sub ne dp un gd cn cs a ccd cl outer A₀ base h₀ L m s Q E tn Bl F X N T hk hdp hun ret
  (replace me := sub _ me); (replace mp := sub _ mp); (replace mn := sub _ mn); (replace mz := sub _ mz);
  revert X N F; k_fill; intro F X N
  tb_start; k_steps; all_goals first | exact ret _ _ _ _ [(_, _)] (by tb_rel) (by tb_rel) (ext1 (by tb_rel) (by tb_rel)) ⟨_, _, _, _, _, _, rfl, rfl⟩
local macro_rules | `(tactic| walk_at "call ref") => `(tactic| k_extra "r47")
set_option maxRecDepth 100000 in
set_option maxHeartbeats 8000000 in
theorem buildrep_d {w : World} {mean : ExcName → Option Value} {mg mb : Str → Option Value} {d : DV} {dd : Addr} {n : Int} {rest : List (Addr × Obj)} {kd ku : Nat}  {S e e2 : Addr} {q1 q2 : Tok} {at_ : Int} {ne_ : Nat} {p : Addr} {tw : Tok}
   (me : (e, tupO [.str "rep" q1, .int at_ q2, .ref e2, .ref p] ne_) ∈ rest) (C0 : DCall w mean mg mb d dd n rest 1039 [.ref S, .ref e] kd ku (cR 1 1 0)) (hku : 2000 ≤ ku) : DCall w mean mg mb d dd n rest 1074 [.ref S, .ref e, .int 1 tw, .bool false] (kd + 2) (ku + 40) (cR 1 1 0) := by
  intro rest' sub ne dp un gd cn cs a ccd cl outer A₀ base h₀ L m s Q E tn Bl F X N T hk hdp hun ret
  (replace me := sub _ me);
  revert X N F; k_fill; intro F X N
  tb_start; k_steps; all_goals first | exact ret _ _ _ _ [(_, _)] (by tb_rel) (by tb_rel) (ext1 (by tb_rel) (by tb_rel)) ⟨_, _, _, _, _, _, rfl, rfl⟩
local macro_rules | `(tactic| walk_at "call ref") => `(tactic| k_extra "r48")
local macro_rules | `(tactic| walk_at "call ref") => `(tactic| k_extra "r49")
end
theorem look13 {prog : Program} {w : World} {A : Around} {E Q : Value → Shared → Prop} {s : Shared} {t u : Tok} (h : wpAny (model prog w) A (binaryOp .Add (.int 1 t) (.int 2 u)) Q E s) : wpAny (model prog w) A (binaryOp .Add (.int 1 t) (.int 2 u)) Q E s := by first | (walk1; fail) | exact h
section
noncomputable def BCall (w : World) (mean : ExcName → Option Value) (mg mb : Str → Option Value) (d : DV) (dd : Addr) (n : Int) (rest : List (Addr × Obj)) (S e : Addr) (kd ku : Nat) : Prop :=
  ∀ tw, DCall w mean mg mb d dd n rest 1074 [.ref S, .ref e, .int 1 tw, .bool false] kd ku (cR 1 1 0)
local macro_rules | `(tactic| walk_at "call ref") => `(tactic| k_extra "r48")
local macro_rules | `(tactic| walk_at "call ref") => `(tactic| k_extra "r50")
set_option maxRecDepth 100000 in
set_option maxHeartbeats 8000000 in
theorem selfrep_d {w : World} {mean : ExcName → Option Value} {mg mb : Str → Option Value} {d : DV} {dd : Addr} {n : Int} {rest : List (Addr × Obj)} {kd ku : Nat}  {S e e2 : Addr} {q1 q2 : Tok} {at_ : Int} {ne_ : Nat} {p : Addr}
   (me : (e, tupO [.str "rep" q1, .int at_ q2, .ref e2, .ref p] ne_) ∈ rest) (C0 : DCall w mean mg mb d dd n rest 1053 [.ref S, .ref e] kd ku (etR 1 false)) (C1 : BCall w mean mg mb d dd n rest S e kd ku) (hku : 2000 ≤ ku) : DCall w mean mg mb d dd n rest 1081 [.ref S, .ref e] (kd + 1) (ku + 40) (selfR 1 1 0 false) := by
  intro rest' sub ne dp un gd cn cs a ccd cl outer A₀ base h₀ L m s Q E tn Bl F X N T hk hdp hun ret
  (replace me := sub _ me);
  revert X N F; k_fill; intro F X N
  tb_start; k_steps; all_goals first | exact ret _ _ _ _ [(_, _), (_, _)] (by tb_rel) (by tb_rel) (ext2 (by tb_rel) (by tb_rel) (by tb_rel)) ⟨_, _, _, _, _, _, _, _, rfl, rfl, by tb_rel⟩
local macro_rules | `(tactic| walk_at "call ref") => `(tactic| k_extra "r51")
local macro_rules | `(tactic| walk_at "call ref") => `(tactic| k_extra "r16")
set_option maxRecDepth 100000 in
set_option maxHeartbeats 8000000 in
theorem constrep_d {w : World} {mean : ExcName → Option Value} {mg mb : Str → Option Value} {d : DV} {dd : Addr} {n : Int} {rest : List (Addr × Obj)} {kd ku : Nat}  {S e e2 : Addr} {q1 q2 : Tok} {at_ : Int} {ne_ : Nat} {p : Addr}
   (me : (e, tupO [.str "rep" q1, .int at_ q2, .ref e2, .ref p] ne_) ∈ rest) (C0 : DCall w mean mg mb d dd n rest 1081 [.ref S, .ref e] kd ku (selfR 1 1 0 false)) (hku : 2000 ≤ ku) : DCall w mean mg mb d dd n rest 1102 [.ref S, .ref e] (kd + 3) (ku + 40) (constR 1 1 0 false) := by
  intro rest' sub ne dp un gd cn cs a ccd cl outer A₀ base h₀ L m s Q E tn Bl F X N T hk hdp hun ret
  (replace me := sub _ me);
  revert X N F; k_fill; intro F X N
  tb_start; k_steps; all_goals first | exact ret _ _ _ _ [(_, _), (_, _)] (by tb_rel) (by tb_rel) (ext2 (by tb_rel) (by tb_rel) (by tb_rel)) ⟨_, _, _, _, _, _, _, rfl, rfl, by tb_rel⟩
end
section
/-- replications within one another around the number 1 -/
inductive RC (l : List (Addr × Obj)) : Nat → Addr → Prop
  | z {e v : Addr} {t1 t2 t3 t4 t5 : Tok} {ne nv : Nat} : (e, tupO [.str "num" t1, .int 100 t2, .ref v, .bool true, .bool false] ne) ∈ l → (v, tupO [.int 32 t3, .int 1 t4, .int 0 t5] nv) ∈ l → RC l 0 e
  | s {k : Nat} {e e2 p nm nv : Addr} {q1 q2 u1 u2 u3 u4 u5 : Tok} {n1 np nn nz : Nat} : (e, tupO [.str "rep" q1, .int (101 + k) q2, .ref e2, .ref p] n1) ∈ l → (p, tupO [.ref nm] np) ∈ l →
      (nm, tupO [.str "num" u1, .int 50 u2, .ref nv, .bool false, .bool true] nn) ∈ l → (nv, tupO [.int 1 u3, .int 1 u4, .int 0 u5] nz) ∈ l → RC l k e2 → RC l (k + 1) e
section
variable {w : World} {mean : ExcName → Option Value} {mg mb : Str → Option Value} {d : DV} {dd : Addr} {n : Int} {rest rest' : List (Addr × Obj)} {kd ku : Nat}
theorem ConstOk.more {S e : Addr} {kd ku kd2 ku2 : Nat} {x y z : Int} {b : Bool} (C : ConstOk w mean mg mb d dd n rest S e kd ku x y z b) (h1 : kd ≤ kd2) (h2 : ku ≤ ku2) : ConstOk w mean mg mb d dd n rest S e kd2 ku2 x y z b :=
  fun dp un gd cn cs a ccd cl outer A₀ base h₀ L m s Q E tn Bl F X N T hk hd hu ret => C dp un gd cn cs a ccd cl outer A₀ base h₀ L m s Q E tn Bl F X N T hk (by omega) (by omega) ret
theorem RC.sub {l l' : List (Addr × Obj)} (h : ∀ p ∈ l, p ∈ l') {k : Nat} {e : Addr} (r : RC l k e) : RC l' k e := by
  induction r with
  | z a b => exact .z (h _ a) (h _ b)
  | s a b c d _ ih => exact .s (h _ a) (h _ b) (h _ c) (h _ d) ih
/-- whole(scope, e) of a number that constant tells and to_int reads -/
theorem whole_num {c : SV} {D ds S e v : Addr} {t1 t2 t3 t4 t5 : Tok} {ne nv : Nat} {at_ wd x y r : Int} {sg sz : Bool}
    (hn : 0 ≤ n ∧ n < 8) (m1 : (S, instObj 1315 ds) ∈ rest) (m2 : (ds, sst w.params c D) ∈ rest) (m3 : (D, instObj 1238 dd) ∈ rest)
    (me : (e, tupO [.str "num" t1, .int at_ t2, .ref v, .bool sg, .bool sz] ne) ∈ rest) (mv : (v, tupO [.int wd t3, .int x t4, .int y t5] nv) ∈ rest)
    (hw : wd = 1 ∨ wd = 3 ∨ wd = 4 ∨ wd = 32 ∨ wd = 40) (hx : 0 ≤ x ∧ x < 2 ^ wd.toNat) (hy : 0 ≤ y ∧ y < 2 ^ wd.toNat) (hs : sg = true ∨ sz = true)
    (hv : (y = 0 ∧ 0 ≤ x ∧ ((sg = false ∧ r = x) ∨ (sg = true ∧ wd = 32 ∧ x < 2 ^ 31 ∧ r = x) ∨ (sg = true ∧ wd = 40 ∧ x < 2 ^ 40 ∧ r = if x < 2 ^ 39 then x else x - 2 ^ 40)))) :
    DCall w mean mg mb d dd n rest 1109 [.ref S, .ref e] 20 2060 (intR r) := by
  intro rest' sub ne' dp un gd cn cs a ccd cl outer A₀ base h₀ L m s Q E tn Bl F X N T hk hdp hun ret
  exact whole_c (kd := 10) (ku := 2000) hn (sub _ m1) (sub _ m2) (sub _ m3) ne' (ConstOk.more (const_ok_num hw hx hy (sub _ me) (sub _ mv) hs) (by decide) (by decide)) hv (Nat.le_refl _)
    dp un gd cn cs a ccd cl outer A₀ base h₀ L m s Q E tn Bl F X N T hk hdp hun fun h' tk tn' t' F' N' => ret _ _ _ _ [] F' N' (fun _ hp => nomatch hp) ⟨rfl, _, rfl⟩
theorem whole_rc {c : SV} {D ds S e : Addr} {k : Nat} (m1 : (S, instObj 1315 ds) ∈ rest) (m2 : (ds, sst w.params c D) ∈ rest) (m3 : (D, instObj 1238 dd) ∈ rest) (r : RC rest k e) :
    ∀ {n : Int}, 0 ≤ n → n + k < 8 → DCall w mean mg mb d dd n rest 1109 [.ref S, .ref e] (40 * k + 20) (400 * k + 2060) (intR 1) := by
  induction r with
  | z me mv =>
    intro n h0 h8
    exact whole_num ⟨h0, by omega⟩ m1 m2 m3 me mv (.inr (.inr (.inr (.inl rfl)))) (by decide) (by decide) (.inl rfl) ⟨rfl, by decide, .inr (.inl ⟨rfl, rfl, by decide, rfl⟩)⟩
  | @s k e e2 p nm nv _ _ _ _ _ _ _ _ _ _ _ me mp mn mz _ ih =>
    intro n h0 h8
    have W := ih (n := n + 1) (by omega) (by push_cast at h8; omega)
    have hk0 : 2000 ≤ 400 * k + 2060 := by omega
    have C1 := copies_d me W hk0
    have JW := jwrep_d (ct := e) me mp mn mz C1 (by omega)
    have ET := etrep_d me JW (by omega)
    have JV := jvrep_d (ct := e) me mp mn mz JW (C1.more (by omega) (by omega)) (by omega)
    have BC : BCall w mean mg mb d dd (n + 1) rest S e _ _ := fun tw => buildrep_d (tw := tw) me JV (by omega)
    have SE := selfrep_d me (ET.more (by omega) (by omega)) BC (by omega)
    have CO := constrep_d me SE (by omega)
    have WH := whole_d (n := n) (r := 1) ⟨h0, by push_cast at h8; omega⟩ m1 m2 m3 CO ⟨rfl, by decide, .inl ⟨rfl, rfl⟩⟩ (by omega)
    exact WH.more (by omega) (by omega)
end
end
section
open Sem (wp)
set_option maxRecDepth 100000
/-- a tree that leaves every object's dict place as it stands -/
noncomputable def DK {α : Type} : Sem α → Prop
  | .pure _ => True
  | .raise _ => True
  | .unsupported _ => True
  | .finish _ => True
  | .rule _ k => DK (k ())
  | .at _ k => DK (k ())
  | .load _ _ k => ∀ o, DK (k o)
  | .update _ _ f k => (∀ o, (f o).dict = o.dict) ∧ DK (k ())
  | .alloc _ k => ∀ a, DK (k a)
  | .loadIfAlive _ k => ∀ o, DK (k o)
  | .point _ k => DK (k ())
  | .register _ _ => True
  | .fresh k => ∀ t, DK (k t)
  | .ask k => ∀ t, DK (k t)
  | .choose _ _ k => ∀ t, DK (k t)
  | .os _ _ k => ∀ t, DK (k t)
  | .handled _ k => ∀ t, DK (k t)
  | .genState _ k => ∀ t, DK (k t)
  | .stack k => ∀ t, DK (k t)
  | .thread k => ∀ t, DK (k t)
  | _ => False
noncomputable def DictAt (x e : Addr) (h : Heap) : Prop := e < h.objs.size ∧ ∀ o, h.objs[e]? = some o → o.dict = some x
theorem DictAt.push {x e : Addr} {h : Heap} (d : DictAt x e h) (o : Obj) : DictAt x e (h.push o) := by
  obtain ⟨objs, l⟩ := h
  refine ⟨by show e < (objs.push o).size; rw [Array.size_push]; exact Nat.lt_succ_of_lt d.1, fun o' ho => d.2 o' ?_⟩
  have ho : (objs.push o)[e]? = some o' := ho
  have hd : e < objs.size := d.1
  show objs[e]? = some o'
  rw [Array.getElem?_push] at ho
  rw [if_neg (Nat.ne_of_lt hd)] at ho
  exact ho
theorem DictAt.update {x e : Addr} {h : Heap} (d : DictAt x e h) (a : Addr) (f : Obj → Obj) (hf : ∀ o, (f o).dict = o.dict) : DictAt x e (h.update a f) := by
  obtain ⟨objs, l⟩ := h
  refine ⟨by show e < (objs.modify a f).size; rw [Array.size_modify]; exact d.1, fun o' ho => ?_⟩
  have ho : (objs.modify a f)[e]? = some o' := ho
  rw [Array.getElem?_modify] at ho
  split at ho
  · cases q : objs[e]? with
    | none => rw [q] at ho; cases ho
    | some o =>
      rw [q] at ho
      cases ho
      rw [hf]; exact d.2 o q
  · exact d.2 o' ho
theorem DictAt.of {x e : Addr} {h : Heap} {o : Obj} (ho : h.get? e = some o) (hd : o.dict = some x) : DictAt x e h := by
  refine ⟨Heap.lt_size ho, fun o' q => ?_⟩
  unfold Heap.get? at ho
  rw [q] at ho
  split at ho
  · cases ho
  · cases ho
    exact hd
theorem DictAt.get {x e : Addr} {h : Heap} {o : Obj} (d : DictAt x e h) (ho : h.get? e = some o) : o.dict = some x := by
  refine d.2 o ?_
  unfold Heap.get? at ho
  split at ho
  · cases ho
  · exact ho
section
variable {M : Model} {Γ : PySem.Ctx} {x e : Addr} {α β : Type}
theorem dk_wp {t : Sem α} : DK t → ∀ {Q : α → Pos → Shared → Prop} {E : Value → Pos → Shared → Prop} {p : Pos} {s : Shared}, DictAt x e s.heap → wp M Γ t Q E p s →
    wp M Γ t (fun a p' s' => Q a p' s' ∧ DictAt x e s'.heap) (fun v p' s' => E v p' s' ∧ DictAt x e s'.heap) p s := by
  induction t with
  | pure a => intro _ Q E p s d h; exact ⟨h, d⟩
  | raise v => intro _ Q E p s d h; exact ⟨h, d⟩
  | unsupported w => intro _ Q E p s d h; exact h
  | finish w => intro _ Q E p s d h; exact h
  | rule t k ih => intro c Q E p s d h; exact ih () c d h
  | «at» t k ih => intro c Q E p s d h; exact ih () c d h
  | load a q k ih => intro c Q E p s d h; obtain ⟨o, ho, h⟩ := h; exact ⟨o, ho, ih o (c o) d h⟩
  | update a q f k ih => intro c Q E p s d h; exact ⟨h.1, ih () c.2 (d.update a f c.1) h.2⟩
  | alloc o k ih => intro c Q E p s d h; exact ih _ (c _) (d.push o) h
  | loadIfAlive a k ih => intro c Q E p s d h; exact ih _ (c _) d h
  | point l k ih => intro c Q E p s d h; exact ih () c d h
  | register a k ih => intro c Q E p s d h; exact h
  | fresh k ih => intro c Q E p s d h; exact ih _ (c _) d h
  | ask k ih => intro c Q E p s d h; exact ih _ (c _) d h
  | choose a n k ih => intro c Q E p s d h; exact ⟨h.1, ih _ (c _) d h.2⟩
  | os r l k ih => intro c Q E p s d h; exact ih _ (c _) d h
  | call => intro c; exact c.elim
  | handled o k ih => intro c Q E p s d h; exact ih _ (c _) d h
  | newGen => intro c; exact c.elim
  | genState g k ih => intro c Q E p s d h; obtain ⟨st, hs, h⟩ := h; exact ⟨st, hs, ih _ (c _) d h⟩
  | resume => intro c; exact c.elim
  | yield => intro c; exact c.elim
  | stack k ih => intro c Q E p s d h; exact ih _ (c _) d h
  | fork => intro c; exact c.elim
  | thread k ih => intro c Q E p s d h; exact ih _ (c _) d h
  | await => intro c; exact c.elim
theorem dk_bind {t : Sem α} {f : α → Sem β} (hf : ∀ a, DK (f a)) : DK t → DK (t.bind f) := by
  induction t with
  | pure a => intro _; exact hf a
  | raise v => intro _; trivial
  | unsupported w => intro _; trivial
  | finish w => intro _; trivial
  | rule t k ih => intro c; exact ih () c
  | «at» t k ih => intro c; exact ih () c
  | load a q k ih => intro c o; exact ih o (c o)
  | update a q f k ih => intro c; exact ⟨c.1, ih () c.2⟩
  | alloc o k ih => intro c a; exact ih a (c a)
  | loadIfAlive a k ih => intro c o; exact ih o (c o)
  | point l k ih => intro c; exact ih () c
  | register a k ih => intro c; trivial
  | fresh k ih => intro c o; exact ih o (c o)
  | ask k ih => intro c o; exact ih o (c o)
  | choose a n k ih => intro c o; exact ih o (c o)
  | os r l k ih => intro c o; exact ih o (c o)
  | call => intro c; exact c.elim
  | handled o k ih => intro c o; exact ih o (c o)
  | newGen => intro c; exact c.elim
  | genState g k ih => intro c o; exact ih o (c o)
  | resume => intro c; exact c.elim
  | yield => intro c; exact c.elim
  | stack k ih => intro c o; exact ih o (c o)
  | fork => intro c; exact c.elim
  | thread k ih => intro c o; exact ih o (c o)
  | await => intro c; exact c.elim
theorem dkb {t : Sem α} {f : α → Sem β} (h : DK t) (hf : ∀ a, DK (f a)) : DK (t >>= f) := dk_bind hf h
theorem dk_any {A : Around} {t : Sem α} {Q : α → Shared → Prop} {E : Value → Shared → Prop} {s : Shared} (c : DK t) (d : DictAt x e s.heap) (h : wpAny M A t Q E s) :
    wpAny M A t (fun a s' => Q a s' ∧ DictAt x e s'.heap) (fun v s' => E v s' ∧ DictAt x e s'.heap) s :=
  fun Γ p hΓ => dk_wp c d (h Γ p hΓ)
end
theorem dk_field (v : Value) (i : Nat) : DK (field v i) := by
  unfold field fieldsOf
  repeat (first | trivial | (intro _) | refine dkb ?_ ?_ | split)
theorem mapFields_dict (f : Array Value → Array Value) (o : Obj) : (Obj.mapFields f o).dict = o.dict := by
  obtain ⟨c, d, dat, sl⟩ := o
  cases dat <;> rfl
theorem dk_setField (v : Value) (i : Nat) (x : Value) : DK (setField v i x) := by
  unfold setField
  split
  · unfold updateField
    refine dkb (fun o => trivial) fun o => ?_
    split
    · split
      · exact ⟨fun o => mapFields_dict _ o, trivial⟩
      · trivial
    · trivial
  · trivial
theorem dk_setFlight (e : Value) (f : Option Addr) : DK (setFlight e f) := by
  unfold setFlight
  refine dkb (dk_field _ _) fun tb => ?_
  split
  · exact dk_setField _ _ _
  · trivial
theorem dk_ready : ∀ l : List Env, DK (readyFrames l)
  | [] => trivial
  | env :: outer => by
    unfold readyFrames
    split
    · refine dkb (fun o => trivial) fun o => ?_
      split
      · trivial
      · refine dkb ?_ fun i => dkb ?_ fun b => dkb ⟨fun o => rfl, trivial⟩ fun _ => dk_ready outer
        · unfold behindIsImport
          repeat (first | trivial | exact dk_field _ _ | (intro _) | refine dkb ?_ ?_ | split)
        · unfold keptBack underTheClaimsCaller
          repeat (first | trivial | (intro _) | refine dkb ?_ ?_ | split)
    · trivial
theorem dk_frameOf (env : Env) : DK (PySem.frameOf env) := by
  unfold PySem.frameOf frameEnvs
  refine dkb (dkb (fun _ => trivial) fun _ => trivial) fun l => dkb ?_ fun o => ?_
  · unfold frameObject
    split
    · trivial
    · exact dkb (dk_ready _) fun _ => trivial
  · split <;> trivial
theorem dk_place (f : Addr) (b : Bool) : DK (entryPlaceOf f b) := by
  unfold entryPlaceOf
  refine dkb (fun _ => trivial) fun _ => ?_
  split <;> trivial
theorem dk_newEntry (a b c d e : Value) (l : List Value) : DK (EntryCells.newEntry a b c d e l) := by
  unfold EntryCells.newEntry newFields newObj
  repeat (first | trivial | (intro _) | refine dkb ?_ ?_ | split)
theorem dk_note (e : Value) (env : Env) : DK (noteFrame e env) := by
  unfold noteFrame
  split
  · refine dkb (dk_field _ _) fun head => ?_
    have k : ∀ x, DK (do setField e 1 (← EntryCells.newEntry head (← PySem.frameOf env) .none (rawInt x) .none (← entryPlaceOf x (head != .none)))) := fun x =>
      dkb (dk_frameOf _) fun _ => dkb (dk_place _ _) fun _ => dkb (dk_newEntry _ _ _ _ _ _) fun _ => dk_setField _ _ _
    split
    · refine dkb (dk_field _ _) fun y => ?_
      split
      · trivial
      · exact dkb (dk_setField _ _ _) fun _ => k _
    · exact k _
  · trivial
theorem dk_leaving (env : Env) (e : Value) : DK (leaving env e) := by
  unfold leaving
  exact dkb (dk_note _ _) fun _ => dk_setFlight _ _
theorem dk_passOn {α : Type} (w : String) (e : Value) (env : Env) : DK (PySem.passOn w e env : Sem α) := by
  unfold PySem.passOn
  refine dkb (dk_field _ _) fun _ => ?_
  split
  · trivial
  · exact dkb (dk_setFlight _ _) fun _ => trivial
end
section
set_option maxRecDepth 100000
/-- an exception of the class DesignError in flight, its dict at x -/
noncomputable def RaisedD (base G : Heap) (l : List Env) (e x : Addr) (news : List (Addr × Obj)) (h : Heap) : Prop := RaisedSN base G l e (.ref 52) news h ∧ DictAt x e h
/-- the same, seen by the frame at L that passes it on -/
noncomputable def RaisedLD (base g : Heap) (env : Env) (outer : List Env) (L e x : Addr) (news : List (Addr × Obj)) (h : Heap) : Prop :=
  (∃ B a0, base.StaysIn B ∧ (∀ b o, g.get? b = some o → b ∉ outer.filterMap (·.frame) → B.get? b = some o) ∧ (∀ q ∈ news, B.get? q.1 = some q.2 ∧ g.get? q.1 = none ∧ base.get? q.1 = none) ∧ Heap.HeldW B (env :: outer) e (.ref 52) a0 L h) ∧ DictAt x e h
/-- what an exception in flight and its traceback's head are -/
structure FlyO (e x T : Addr) (oe oT : Obj) : Prop where
  cls : oe.cls = .ref 52
  dict : oe.dict = some x
  ne : T ≠ e
  flds : ∃ vs ts a0, oe.data = .fields vs ∧ vs[0]? = some a0 ∧ vs[1]? = some (.ref T) ∧ oT.data = .fields ts ∧ ts[3]? = some .none
section
variable {M : Model} {A : Around} {E : Value → Shared → Prop} {s' : Shared} {base g g₂ h : Heap} {outer : List Env} {L a e x : Addr} {m : Str → Option Value} {name : Str} {scope : Scope} {cd : Value} {Q : Unit → Shared → Prop} {news news' : List (Addr × Obj)}
theorem leave_onD (K : Below A base outer g) (F : Fr g L g₂ m) (R : RaisedD base g₂ (envOf name scope L a cd :: outer) e x news s'.heap) (hsm : g₂.UpToSlots s'.heap)
    (hQ : ∀ h', RaisedD base g outer e x news h' → g.UpToSlots h' → Q () { s' with heap := h' }) :
    wpAny M (A.deeper (envOf name scope L a cd)) (leaving (envOf name scope L a cd) (.ref e)) Q E s' := by
  have h1 := leave_onSN (M := M) (E := E) K F R.1 hsm (Q := fun _ s'' => ∃ h', s'' = { s' with heap := h' } ∧ RaisedSN base g outer e (.ref 52) news h' ∧ g.UpToSlots h') fun h' r _ u => ⟨h', rfl, r, u⟩
  refine wpAny_mono (dk_any (dk_leaving _ _) R.2 h1) (fun _ s'' hh => ?_) fun _ _ z => z.1
  obtain ⟨⟨h', rfl, r, u⟩, d⟩ := hh
  exact hQ h' ⟨r, d⟩ u
theorem leave_firstD {oe : Obj} {vs : Array Value} {a0 : Value} (K : Below A base outer g) (F : Fr g L s'.heap m) (N : News g L s'.heap news) (hm : (e, oe) ∈ news) (hc : oe.cls = .ref 52) (hx : oe.dict = some x)
    (hd : oe.data = .fields vs) (h0 : vs[0]? = some a0) (h1 : vs[1]? = some .none) (D : Del e news news')
    (hQ : ∀ h', RaisedD base g outer e x news' h' → g.UpToSlots h' → Q () { s' with heap := h' }) (hk : scope.kind = .function := by rfl) :
    wpAny M (A.deeper (envOf name scope L a cd)) (leaving (envOf name scope L a cd) (.ref e)) Q E s' := by
  have K' := K.push (name := name) (a := a) (cd := cd) F hk
  have he := (N _ hm).1
  have ge : g.get? e = none := (N _ hm).2.2
  have be : base.get? e = none := fresh_of_stays K.stays ge
  have hin : ∀ env ∈ (envOf name scope L a cd :: outer), ∀ b, env.frame = some b → b ∈ e :: (envOf name scope L a cd :: outer).filterMap (·.frame) := fun env he b hb => List.mem_cons_of_mem _ (List.mem_filterMap.mpr ⟨env, he, hb⟩)
  have st : base.StaysIn (hideAll s'.heap (e :: (envOf name scope L a cd :: outer).filterMap (·.frame))) := fun b o q => hideAll_get _ (K'.stays b o q) fun hm' => by
    rcases List.mem_cons.mp hm' with z | hm'
    · rw [z, be] at q; cases q
    · rw [(K'.frames.mem hm').1] at q; cases q
  have sg : ∀ b o, g.get? b = some o → b ∉ outer.filterMap (·.frame) → (hideAll s'.heap (e :: (envOf name scope L a cd :: outer).filterMap (·.frame))).get? b = some o := fun b o q nm => hideAll_get _ (F.keep b o q) fun hm' => by
    rcases List.mem_cons.mp hm' with z | hm'
    · rw [z, ge] at q; cases q
    rcases kts_mem hm' with z | z
    · rw [z, kts_self F] at q
      cases q
    · exact nm z
  have hl : ∀ q ∈ news', (hideAll s'.heap (e :: (envOf name scope L a cd :: outer).filterMap (·.frame))).get? q.1 = some q.2 ∧ g.get? q.1 = none ∧ base.get? q.1 = none := fun q hq' => by
    obtain ⟨hq, hne⟩ := D.sub q hq'
    refine ⟨hideAll_get _ (N q hq).1 fun hm' => ?_, (N q hq).2.2, fresh_of_stays K.stays (N q hq).2.2⟩
    rcases List.mem_cons.mp hm' with z | hm'
    · exact hne z
    obtain ⟨env, he, hf⟩ := List.mem_filterMap.mp hm'
    rcases List.mem_cons.mp he with rfl | he
    · exact (N q hq).2.1 (Option.some.inj hf).symm
    · obtain ⟨o, ho, _⟩ := (K.frames.mem (List.mem_filterMap.mpr ⟨env, he, hf⟩)).2
      rw [(N q hq).2.2] at ho; cases ho
  have hen : (hideAll s'.heap (e :: (envOf name scope L a cd :: outer).filterMap (·.frame))).get? e = none := hideAll_none _ List.mem_cons_self
  have hf1 := wpAny_leaving_firstW (M := M) (E := E) (env := envOf name scope L a cd) (Q := fun _ s'' => ∃ h', s'' = { s' with heap := h' } ∧ RaisedSN base g outer e (.ref 52) news' h' ∧ g.UpToSlots h') K'.stack (funFrames_hide K'.frames hin) rfl he (fun b o hb => of_hideAll _ hb) hen hd h1 h0 fun h' hL => by
    obtain ⟨k1, ⟨_, _, k2⟩, k3, k4⟩ := hL
    exact ⟨h', rfl, ⟨_, a0, st, sg, hl, k1, hen, k2, by rw [← hc]; exact k3⟩, (Heap.UpToSlots.of_keeps F.keep).trans k4⟩
  refine wpAny_mono (dk_any (dk_leaving _ _) (DictAt.of he hx) hf1) (fun _ s'' hh => ?_) fun _ _ z => z.1
  obtain ⟨⟨h', rfl, r, u⟩, d⟩ := hh
  exact hQ h' ⟨r, d⟩ u
theorem leave_heldD (R : RaisedLD base g (envOf name scope L a cd) outer L e x news s'.heap) (hsm : g.UpToSlots s'.heap)
    (hQ : ∀ h', RaisedD base g outer e x news h' → g.UpToSlots h' → Q () { s' with heap := h' }) :
    wpAny M (A.deeper (envOf name scope L a cd)) (leaving (envOf name scope L a cd) (.ref e)) Q E s' := by
  obtain ⟨⟨B, a0, hB, hBg, hl, hh⟩, hd⟩ := R
  have h1 : wpAny M (A.deeper (envOf name scope L a cd)) (leaving (envOf name scope L a cd) (.ref e)) (fun _ s'' => ∃ h', s'' = { s' with heap := h' } ∧ RaisedSN base g outer e (.ref 52) news h' ∧ g.UpToSlots h') E s' := by
    unfold leaving
    refine wpAny_bind (wpAny_noteFrame_againW rfl hh.2.2.2 ?_)
    refine wpAny_landsW hh fun h' hfl hs => ?_
    obtain ⟨k1, k2, ⟨_, _, k3⟩, k4⟩ := hfl
    exact ⟨h', rfl, ⟨B, a0, hB, hBg, hl, k1, k2, k3, k4⟩, hsm.trans hs⟩
  refine wpAny_mono (dk_any (dk_leaving _ _) hd h1) (fun _ s'' hh => ?_) fun _ _ z => z.1
  obtain ⟨⟨h', rfl, r, u⟩, d⟩ := hh
  exact hQ h' ⟨r, d⟩ u
end
section
variable {prog : Program} {w : World} {A₀ : Around} {E : Value → Shared → Prop} {s' : Shared} {base g G : Heap} {outer : List Env} {L a e x : Addr} {m : Str → Option Value} {name : Str} {scope : Scope} {cd : Value} {news : List (Addr × Obj)} {KF : Frag}
  {p : Program} {loose : List Str} {mean : ExcName → Option Value} {mg mb : Str → Option Value} {Q : Flow → Shared → Prop} {f₀ : Stmt} {fs : List Stmt}
noncomputable def FinEnd (base g g' : Heap) (env : Env) (outer : List Env) (L e x T : Addr) (oe oT : Obj) (news : List (Addr × Obj)) (E : Value → Shared → Prop) (fl : Flow) (s₂ : Shared) : Prop := match fl with
  | .next => ∃ m' news', Fr g' L s₂.heap m' ∧ News g' L s₂.heap ((e, oe) :: (T, oT) :: news') ∧ news'.map (·.1) = news.map (·.1) ∧
      ∀ h'', RaisedLD base g env outer L e x news' h'' → g.UpToSlots h'' → E (.ref e) { s₂ with heap := h'' }
  | _ => False
theorem FinEnd.nx {g' : Heap} {env : Env} {T : Addr} {oe oT : Obj} {news' : List (Addr × Obj)} {m' : Str → Option Value} {s₂ : Shared} (F : Fr g' L s₂.heap m') (N : News g' L s₂.heap ((e, oe) :: (T, oT) :: news')) (hm : news'.map (·.1) = news.map (·.1))
    (k : ∀ h'', RaisedLD base g env outer L e x news' h'' → g.UpToSlots h'' → E (.ref e) { s₂ with heap := h'' }) : FinEnd base g g' env outer L e x T oe oT news E .next s₂ := ⟨_, _, F, N, hm, k⟩
theorem mem_fst {l l' : List (Addr × Obj)} (h : l'.map (·.1) = l.map (·.1)) {q : Addr × Obj} (hq : q ∈ l') : ∃ p ∈ l, p.1 = q.1 := by
  have : q.1 ∈ l'.map (·.1) := List.mem_map_of_mem hq
  rw [h] at this
  obtain ⟨p, hp, e⟩ := List.mem_map.mp this
  exact ⟨p, hp, e⟩
theorem fin_D {E₂ : Value → Shared → Prop} (R : RaisedD base G (envOf name scope L a cd :: outer) e x news s'.heap) (F : Fr g L G m) (K : Below A₀ base outer g) (hsm : G.UpToSlots s'.heap) (XB : KF.In base) (TB : Top p loose mean mg mb base)
    (k : ∀ h' g' T oe oT, Fr g' L h' m → FlyO e x T oe oT → News g' L h' ((e, oe) :: (T, oT) :: news) → T ≠ e → (∀ q ∈ news, q.1 ≠ e) → (∀ q ∈ news, q.1 ≠ T) → Below A₀ base outer g' → KF.In g' → Top p loose mean mg mb g' →
      wpAny (model prog w) ((A₀.deeper (envOf name scope L a cd)).mark (some (.ref e))) (execs (f₀ :: fs) (envOf name scope L a cd)) (FinEnd base g g' (envOf name scope L a cd) outer L e x T oe oT news E) (fun _ _ => False) { s' with heap := h' })
    (hk : scope.kind = .function := by rfl) :
    wpAny (model prog w) (A₀.deeper (envOf name scope L a cd)) (noteFrame (.ref e) (envOf name scope L a cd)) (fun _ s₂ => FinallyRaised prog w (A₀.deeper (envOf name scope L a cd)) E (envOf name scope L a cd) (f₀ :: fs) Q (.ref e) s₂) E₂ s' := by
  obtain ⟨⟨B, a0, hB, hBG, hl, hfl⟩, hdx⟩ := R
  have hL : B.get? L = none := by
    obtain ⟨_, ⟨L', _, hf, hn', _⟩, _⟩ := hfl.2.2.1
    obtain rfl : L = L' := Option.some.inj hf
    exact hn'
  have n1 := wpAny_looks_onW (M := model prog w) (E := E₂) (Q := fun _ s'' => ∃ h', s'' = { s' with heap := h' } ∧ Heap.HeldW B (envOf name scope L a cd :: outer) e (.ref 52) a0 L h' ∧ s'.heap.UpToSlots h') (Around.frames_deeper K.stack) rfl hfl fun h₄ hheld₄ hsm₄ => ⟨h₄, rfl, hheld₄, hsm₄⟩
  refine wpAny_mono (dk_any (dk_note _ _) hdx n1) (fun _ s₁ hh => ?_) fun _ _ z => z.1
  obtain ⟨⟨h₄, rfl, hheld₄, hsm₄⟩, hdx₄⟩ := hh
  refine ⟨fun q => (by cases q), wpAny_noteFrame_againW rfl hheld₄.2.2.2 ?_⟩
  have n2 := wpAny_landsW (M := model prog w) (A := A₀.deeper (envOf name scope L a cd)) (E := E) (s := { s' with heap := h₄ }) (Q := fun _ s'' => ∃ h', s'' = { s' with heap := h' } ∧ Heap.FlyingW B (envOf name scope L a cd :: outer) e (.ref 52) a0 h' ∧ h₄.UpToSlots h') hheld₄ fun h₅ hh hs => ⟨h₅, rfl, hh, hs⟩
  refine wpAny_mono (dk_any (dk_setFlight _ _) hdx₄ n2) (fun _ s₁ hh => ?_) fun _ _ z => z.1
  obtain ⟨⟨h₅, rfl, hfl₅, hsm₅⟩, hdx₅⟩ := hh
  have hs₅ := (hsm.trans hsm₄).trans hsm₅
  obtain ⟨g₅, T₅, F₅, K₅⟩ := kts_ground K F hBG hfl₅.1 hs₅
  have X₅ : KF.In g₅ := XB.keeps K₅.stays
  have P₅ : Top p loose mean mg mb g₅ := TB.keeps K₅.stays
  obtain ⟨oe, vs, T, oT, ts, he, ⟨hcls, h0⟩, hd, h1, hnT, hTe, hT, hdT, h3⟩ := hfl₅.2.2.2
  have notframe : ∀ b o, h₅.get? b = some o → (∃ vs, o.data = .fields vs) → ∀ o', g.get? b = some o' → b ∈ outer.filterMap (·.frame) → False := fun b o hb hf o' ho hm' => by
    obtain ⟨_, o2, ho2, hdd⟩ := K.frames.mem hm'
    rw [ho] at ho2
    cases ho2
    obtain ⟨sl, hs⟩ := hs₅ _ _ (F.keep _ _ ho) hdd
    rw [hb] at hs
    cases hs
    obtain ⟨vs, hv⟩ := hf
    exact hdd _ hv
  have ge : g₅.get? e = none := T₅.none_ _ (kts_fresh F hBG hfl₅.2.1 fun o ho hm' => notframe _ _ he ⟨_, hd⟩ o ho hm')
  have gT : g₅.get? T = none := T₅.none_ _ (kts_fresh F hBG hnT fun o ho hm' => notframe _ _ hT ⟨_, hdT⟩ o ho hm')
  have eL : e ≠ L := fun z => by
    obtain ⟨oL, es, ep, hoL, hLd, _⟩ := F₅.ns
    rw [← z, he] at hoL; cases hoL; rw [hd] at hLd; cases hLd
  have TL : T ≠ L := fun z => by
    obtain ⟨oL, es, ep, hoL, hLd, _⟩ := F₅.ns
    rw [← z, hT] at hoL; cases hoL; rw [hdT] at hLd; cases hLd
  have nE : ∀ q ∈ news, q.1 ≠ e := fun q hq z => by have := (hl q hq).1; rw [z, hfl₅.2.1] at this; cases this
  have nT : ∀ q ∈ news, q.1 ≠ T := fun q hq z => by have := (hl q hq).1; rw [z, hnT] at this; cases this
  have N₅ : News g₅ L h₅ ((e, oe) :: (T, oT) :: news) := fun q hq => by
    rcases List.mem_cons.mp hq with rfl | hq
    · exact ⟨he, eL, ge⟩
    rcases List.mem_cons.mp hq with rfl | hq
    · exact ⟨hT, TL, gT⟩
    · exact ⟨hfl₅.1 _ _ (hl q hq).1, (fun z => by have := (hl q hq).1; rw [z, hL] at this; cases this), T₅.none_ _ (kts_none F.keep (hl q hq).2.1)⟩
  have fo : FlyO e x T oe oT := ⟨hcls, hdx₅.get he, hTe, vs, ts, a0, hd, h0, h1, hdT, h3⟩
  refine wpAny_mono (k h₅ g₅ T oe oT F₅ fo N₅ hTe nE nT K₅ X₅ P₅) (fun fl s₂ hf => ?_) fun _ _ z => z.elim
  cases fl with
  | brk => exact hf.elim
  | cont => exact hf.elim
  | ret v => exact hf.elim
  | next =>
    obtain ⟨m', news', F₆, N₆, hmap, hE⟩ := hf
    have he₆ := (N₆ (e, oe) List.mem_cons_self).1
    have hT₆ := (N₆ (T, oT) (List.mem_cons_of_mem _ List.mem_cons_self)).1
    have K' := K₅.push (name := name) (a := a) (cd := cd) F₆ hk
    have up : ∀ b o, g.get? b = some o → ∃ sl, g₅.get? b = some { o with slots := sl } := fun b o q => T₅.up q
    have ge0 : g.get? e = none := by
      cases q : g.get? e with
      | none => rfl
      | some o => obtain ⟨sl, z⟩ := up _ _ q; rw [ge] at z; cases z
    have gT0 : g.get? T = none := by
      cases q : g.get? T with
      | none => rfl
      | some o => obtain ⟨sl, z⟩ := up _ _ q; rw [gT] at z; cases z
    have hin : ∀ env ∈ (envOf name scope L a cd :: outer), ∀ b, env.frame = some b → b ∈ e :: T :: (envOf name scope L a cd :: outer).filterMap (·.frame) := fun env he b hb => List.mem_cons_of_mem _ (List.mem_cons_of_mem _ (List.mem_filterMap.mpr ⟨env, he, hb⟩))
    have st : base.StaysIn (hideAll s₂.heap (e :: T :: (envOf name scope L a cd :: outer).filterMap (·.frame))) := fun b o q => hideAll_get _ (K'.stays b o q) fun hm' => by
      rcases List.mem_cons.mp hm' with z | hm'
      · rw [z, fresh_of_stays K₅.stays ge] at q; cases q
      rcases List.mem_cons.mp hm' with z | hm'
      · rw [z, fresh_of_stays K₅.stays gT] at q; cases q
      · rw [(K'.frames.mem hm').1] at q; cases q
    have sg : ∀ b o, g.get? b = some o → b ∉ outer.filterMap (·.frame) → (hideAll s₂.heap (e :: T :: (envOf name scope L a cd :: outer).filterMap (·.frame))).get? b = some o := fun b o q nm => hideAll_get _ (F₆.keep b o (T₅.other b o q nm)) fun hm' => by
      rcases List.mem_cons.mp hm' with z | hm'
      · rw [z, ge0] at q; cases q
      rcases List.mem_cons.mp hm' with z | hm'
      · rw [z, gT0] at q; cases q
      rcases kts_mem hm' with z | z
      · rw [z, kts_self F] at q
        cases q
      · exact nm z
    have hl₆ : ∀ q ∈ news', (hideAll s₂.heap (e :: T :: (envOf name scope L a cd :: outer).filterMap (·.frame))).get? q.1 = some q.2 ∧ g.get? q.1 = none ∧ base.get? q.1 = none := fun q hq => by
      have Nq := N₆ q (List.mem_cons_of_mem _ (List.mem_cons_of_mem _ hq))
      obtain ⟨q0, hq0, eq0⟩ := mem_fst hmap hq
      refine ⟨hideAll_get _ Nq.1 fun hm' => ?_, ?_, fresh_of_stays K₅.stays Nq.2.2⟩
      · rcases List.mem_cons.mp hm' with z | hm'
        · exact nE q0 hq0 (eq0.trans z)
        rcases List.mem_cons.mp hm' with z | hm'
        · exact nT q0 hq0 (eq0.trans z)
        obtain ⟨env, he, hf⟩ := List.mem_filterMap.mp hm'
        rcases List.mem_cons.mp he with rfl | he
        · exact Nq.2.1 (Option.some.inj hf).symm
        · obtain ⟨o, ho, _⟩ := (K₅.frames.mem (List.mem_filterMap.mpr ⟨env, he, hf⟩)).2
          rw [Nq.2.2] at ho; cases ho
      · cases z : g.get? q.1 with
        | none => rfl
        | some o => obtain ⟨sl, z⟩ := up _ _ z; rw [Nq.2.2] at z; cases z
    have hen : (hideAll s₂.heap (e :: T :: (envOf name scope L a cd :: outer).filterMap (·.frame))).get? e = none := hideAll_none _ List.mem_cons_self
    have hTn : (hideAll s₂.heap (e :: T :: (envOf name scope L a cd :: outer).filterMap (·.frame))).get? T = none := hideAll_none _ (List.mem_cons_of_mem _ List.mem_cons_self)
    have W : Heap.FlyingW (hideAll s₂.heap (e :: T :: (envOf name scope L a cd :: outer).filterMap (·.frame))) (envOf name scope L a cd :: outer) e (.ref 52) a0 s₂.heap :=
      ⟨fun b o hb => of_hideAll _ hb, hen, funFrames_hide K'.frames hin, oe, vs, T, oT, ts, he₆, ⟨hcls, h0⟩, hd, h1, hTn, hTe, hT₆, hdT, h3⟩
    have us : g.UpToSlots s₂.heap := fun b o q _ => by
      obtain ⟨sl, z⟩ := up _ _ q
      exact ⟨sl, F₆.keep _ _ z⟩
    have p1 : wpAny (model prog w) (A₀.deeper (envOf name scope L a cd)) (PySem.passOn "try.finally" (.ref e) (envOf name scope L a cd) : Sem Flow) (fun _ _ => False) (fun v s₃ => v = .ref e ∧ ∃ h'', s₃ = { s₂ with heap := h'' } ∧ Heap.HeldW (hideAll s₂.heap (e :: T :: (envOf name scope L a cd :: outer).filterMap (·.frame))) (envOf name scope L a cd :: outer) e (.ref 52) a0 L h'' ∧ s₂.heap.UpToSlots h'') s₂ := by
      unfold PySem.passOn
      refine wpAny_bind (wpAny_field he₆ hd h1 ?_)
      rw [if_neg (show ¬ ((Value.ref T == Value.none) = true) from by simp)]
      first
        | exact wpAny_bind (wpAny_pure (wpAny_bind (setFlight_onW W fun h' hh hs => wpAny_throw ⟨rfl, h', rfl, hh, hs⟩)))
        | exact wpAny_bind (setFlight_onW W fun h' hh hs => wpAny_throw ⟨rfl, h', rfl, hh, hs⟩)
    refine wpAny_mono (dk_any (dk_passOn _ _ _) (DictAt.of he₆ (hdx₅.get he)) p1) (fun _ _ z => z.1.elim) fun v s₃ hz => ?_
    obtain ⟨⟨rfl, h'', rfl, hh, hs⟩, hdd⟩ := hz
    exact hE h'' ⟨⟨_, a0, st, sg, hl₆, hh⟩, hdd⟩ (us.trans hs)
end
end
section
open Sem (wp)
open Builtin Builtin.ObjectAttr
set_option maxRecDepth 100000
noncomputable abbrev bmX : List Value := [.type "Exception", .type "BaseException", .type "object"]
noncomputable abbrev deObj (P : Params) : Obj := o52 P
section
variable {prog : Program} {w : World} {A : Around} {E : Value → Shared → Prop} {h : Heap} {g : Array GenState} {d : Drawn} {t : Nat} {os : OsState}
  {nm q : Str} {N : Addr} {bs : List Value} {sn : List Str} {sub : List Value} {ab : Bool} {col : Option Bool} {dd : Option Addr} {k0 k1 k2 k3 k5 : Option Value}
theorem de_has {T : String} {b : Bool} (h : bmX.contains (.type T) = b) : (Value.ref 52 :: .ref 39 :: bmX).contains (.type T) = b := by
  rw [List.contains_cons, List.contains_cons, h]; rfl
theorem de_check_new {M : Model} {rest : List Value} {Q : Unit → Shared → Prop} (hC : h.get? 52 = some (excClassObj nm q 52 N bs (.ref 39 :: bmX) true sn sub ab col dd k0 k1 k2 k3 k5 "Exception.__new__"))
    (hq : Q () ⟨h, g, d, t, os⟩) : wpAny M A (checkBuiltinCall "Exception.__new__" ⟨.ref 52 :: rest, []⟩) Q E ⟨h, g, d, t, os⟩ := by
  have F := PySem.F.excBase_Exception
  have hcont := de_has F.hasB
  have hstar := F.noStar
  simp only [checkBuiltinCall, F.newKind, F.newSplit, F.newRow]
  repeat (first | refine wpAny_loadPart_at hC ?_ | (refine wpAny_isSubtype_exc hC ?_; rw [hcont]) | refine wpAny_staticBase_exc hC ?_ | refine wpAny_madeBy_exc hC ?_ | simp only [bne_self_eq_false, Bool.false_eq_true, if_false] | wp_step)
  exact hq
theorem de_new {R : Result → Shared → Prop} {rest : List Value} (hC : h.get? 52 = some (excClassObj nm q 52 N bs (.ref 39 :: bmX) true sn sub ab col dd k0 k1 k2 k3 k5 "Exception.__new__"))
    (hq : R (.ok (.ret (.ref (h.objs.size + 1)))) ⟨(h.push { cls := .type "tuple", data := .seq rest.toArray }).push
      { cls := .ref 52, data := .fields #[.ref h.objs.size, .none, .none, .none, .bool false, .none] }, g, d, t, os⟩) (hrest : rest.length ≤ sizeLine) :
    codeAny (model prog w) A (.builtin "Exception.__new__" ⟨.ref 52 :: rest, []⟩) R ⟨h, g, d, t, os⟩ := by
  have F := PySem.F.excBase_Exception
  have hends := F.ends
  have hcB := de_has F.hasB
  have hcA := de_has F.noAttr
  have hcN := de_has F.noName
  refine codeAny_builtinAt F.entry ?_
  unfold Builtin.«BaseException.__new__»
  refine PySem.wpAt_bind ?_
  show PySem.wpAt _ _ _ (stack >>= _) _ _ _
  refine PySem.wpAt_bind (PySem.wpAt_stack fun p below => PySem.wpAt_of_wpAny ?_)
  wp_walk
  refine PySem.wpAt_of_wpAny ?_
  rw [F.owner]
  repeat (first | with_reducible refine wpAny_madeHere_exc F.canon hC ?_ | with_reducible refine wpAny_loadPart_at hC ?_ | (with_reducible refine wpAny_isSubtype_exc hC ?_; first | rw [hcB] | rw [hcA] | rw [hcN]) | wp_step)
  show R _ _
  rw [Heap.size_push]
  exact hq
theorem de_init {P : Params} : findIn (K P) (.ref 52) "__init__" = some (some (.ref 36)) := by
  have hq : PySem.Challenge.rw_pq0479_01 = PySem.Challenge.rw_pq0479_01 := rfl
  revert hq; k_fill; intro hq; show findIn _ _ _ = _; k_is
theorem de_setattr {P : Params} : findIn (K P) (.ref 52) "__setattr__" = some (some (.builtin "object.__setattr__")) := by
  have hq : PySem.Challenge.rw_pq0479_01 = PySem.Challenge.rw_pq0479_01 := rfl
  revert hq; k_fill; intro hq; show findIn _ _ _ = _; k_is
theorem de_getattr {P : Params} : findIn (K P) (.ref 52) "__getattr__" = some none := by
  have hq : PySem.Challenge.rw_pq0479_01 = PySem.Challenge.rw_pq0479_01 := rfl
  revert hq; k_fill; intro hq; show findIn _ _ _ = _; k_is
end
end
section
open Sem (wp)
open Builtin Builtin.ObjectAttr
set_option maxRecDepth 100000
section
variable {prog : Program} {w : World} {A : Around} {E : Value → Shared → Prop} {h : Heap} {g : Array GenState} {d : Drawn} {t : Nat} {os : OsState}
theorem de_type_call {rest : List Value} {Q : PySem.Fin → Shared → Prop} (X : (K w.params).In h)
    (hq : wpAny (model prog w) A (call (.ref 36) (.ref (h.objs.size + 1) :: rest)) (fun r s' => r = .none ∧ Q (.done (.ret (.ref (h.objs.size + 1)))) s') E ⟨(h.push { cls := .type "tuple", data := .seq rest.toArray }).push { cls := .ref 52, data := .fields #[.ref h.objs.size, .none, .none, .none, .bool false, .none] }, g, d, t, os⟩) (hrest : rest.length ≤ sizeLine) :
    wpAny (model prog w) A (Builtin.«type.__call__» ⟨.ref 52 :: rest, []⟩) Q E ⟨h, g, d, t, os⟩ := by
  have hC : h.get? 52 = some (excClassObj "DesignError" "DesignError" 52 51 [.ref 39] (.ref 39 :: bmX) true [] [] false none none (some (.ref 43)) none (some (.str "DesignError" 232)) (some (.str "DesignError" 240)) (some (.bool true)) "Exception.__new__") := X 52 _ rfl
  have hf36 : h.get? 36 = some (o36 w.params) := X 36 _ rfl
  have F := PySem.F.excBase_Exception
  repeat (first | with_reducible refine wpAny_loadPart_at hC ?_ | with_reducible refine wpAny_madeBy_exc hC ?_ | wp_step)
  refine codeAny_call_builtin_code (Code.quiet_builtin _ F.quiet) (de_check_new hC ?_)
  refine de_new hC ?_ hrest
  show wpAny _ _ _ _ _ _
  have hC₁ := Heap.get?_push_of_some { cls := .ref 52, data := .fields #[.ref h.objs.size, .none, .none, .none, .bool false, .none] }
    (Heap.get?_push_of_some { cls := .type "tuple", data := .seq rest.toArray } hC)
  have hfI₁ := Heap.get?_push_of_some { cls := .ref 52, data := .fields #[.ref h.objs.size, .none, .none, .none, .bool false, .none] }
    (Heap.get?_push_of_some { cls := .type "tuple", data := .seq rest.toArray } hf36)
  have X₁ : (K w.params).In ((h.push { cls := .type "tuple", data := .seq rest.toArray }).push { cls := .ref 52, data := .fields #[.ref h.objs.size, .none, .none, .none, .bool false, .none] }) :=
    X.keeps fun b o e => Heap.get?_push_of_some _ (Heap.get?_push_of_some _ e)
  have hget : ((h.push { cls := .type "tuple", data := .seq rest.toArray }).push
      { cls := .ref 52, data := .fields #[.ref h.objs.size, .none, .none, .none, .bool false, .none] }).get? (h.objs.size + 1) = some
      { cls := .ref 52, data := .fields #[.ref h.objs.size, .none, .none, .none, .bool false, .none] } := by heap_get
  have hcC : (Value.ref 52 :: .ref 39 :: bmX).contains (.ref 52) = true := by simp
  unfold isInstance
  repeat (first | with_reducible refine wpAny_loadPart_at hget ?_ | (with_reducible refine wpAny_isSubtype_exc hC₁ ?_; rw [hcC]) | wp_step)
  show wpAny _ _ (typeLookup (.ref 52) _) _ _ _
  refine (looks_findIn X₁ de_init).here ?_
  refine wpAny_holding (wpAny_bind ?_)
  unfold bindSpecial
  refine wpAny_bind (wpAny_typeOf (T := "function") ⟨_, hfI₁, rfl⟩ ?_)
  rw [if_pos (by decide)]
  refine wpAny_pure (wpAny_bind (wpAny_mono hq (fun r s' hr => ?_) fun _ _ x => x))
  obtain ⟨rfl, hQ⟩ := hr
  wp_walk
  exact hQ
theorem de_call {rest : List Value} {Q : Value → Shared → Prop} (X : (K w.params).In h)
    (hq : wpAny (model prog w) (A.under (.builtin "type.__call__" ⟨.ref 52 :: rest, []⟩)) (call (.ref 36) (.ref (h.objs.size + 1) :: rest)) (fun r s' => r = .none ∧ Q (.ref (h.objs.size + 1)) s') E ⟨(h.push { cls := .type "tuple", data := .seq rest.toArray }).push { cls := .ref 52, data := .fields #[.ref h.objs.size, .none, .none, .none, .bool false, .none] }, g, d, t, os⟩) (hrest : rest.length ≤ sizeLine) :
    wpAny (model prog w) A (call (.ref 52) rest) Q E ⟨h, g, d, t, os⟩ := by
  have hC : h.get? 52 = some (excClassObj "DesignError" "DesignError" 52 51 [.ref 39] (.ref 39 :: bmX) true [] [] false none none (some (.ref 43)) none (some (.str "DesignError" 232)) (some (.str "DesignError" 240)) (some (.bool true)) "Exception.__new__") := X 52 _ rfl
  have f1 := tc_lookup
  have f2 := tc_bind (.ref 52)
  have hT : (⟨h, g, d, t, os⟩ : Shared).TypeIs (.ref 52) "type" := ⟨_, hC, rfl⟩
  refine wpAny_call (codeAny_of_tree ?_)
  show wpAny _ _ (callAny (.ref 52) _) _ _ _
  repeat (any_goals (first | assumption | with_reducible refine wpAny_loadPart_at hC ?_ | wp_step))
  refine ⟨rfl, ?_⟩
  refine codeAny_call_builtin_at (Code.quiet_builtin _ (by decide +kernel)) entry_typeCall (wpAny_check_type_call_sub hC (de_type_call (rest := rest) X ?_ hrest))
  exact hq
/-- the same over the ledger -/
theorem de_callN {rest : List Value} {Q : Value → Shared → Prop} {s : Shared} {h₀ : Heap} {L : Addr} {m : Str → Option Value} {news : List (Addr × Obj)} (F : Fr h₀ L s.heap m) (X₀ : (K w.params).In h₀) (N : News h₀ L s.heap news)
    (hq : ∀ h' e t, Fr h₀ L h' m → News h₀ L h' ((e, { cls := .ref 52, data := .fields #[.ref t, .none, .none, .none, .bool false, .none] }) :: (t, tupO rest 0) :: news) → (∀ p ∈ news, p.1 < t) → (∀ p ∈ news, p.1 < e) → t < e →
      wpAny (model prog w) (A.under (.builtin "type.__call__" ⟨.ref 52 :: rest, []⟩)) (call (.ref 36) (.ref e :: rest)) (fun r s' => r = .none ∧ Q (.ref e) s') E { s with heap := h' }) (hrest : rest.length ≤ sizeLine) :
    wpAny (model prog w) A (call (.ref 52) rest) Q E s := by
  obtain ⟨h, g, d, tk, os⟩ := s
  have X : (K w.params).In h := X₀.keeps F.keep
  have N1 := News.push F N { cls := .type "tuple", data := .seq rest.toArray }
  have N2 := News.push (F.push _) N1 { cls := .ref 52, data := .fields #[.ref h.objs.size, .none, .none, .none, .bool false, .none] }
  rw [Heap.size_push] at N2
  exact de_call X (hq _ _ _ ((F.push _).push _) N2 (fun p hp => Heap.lt_size (N p hp).1) (fun p hp => Nat.lt_succ_of_lt (Heap.lt_size (N p hp).1)) (Nat.lt_succ_self _)) hrest
end
end
section
open Sem (wp)
open Builtin Builtin.ObjectAttr
set_option maxRecDepth 100000
theorem de_cls {P : Params} : clsIn (K P) 52 = some { name := "DesignError", bases := [.ref 39], mro := .ref 52 :: .ref 39 :: bmX, ns := 51, qualname := "DesignError", hasDict := true, slotNames := [], subclasses := [], abstract := false, collection := none, hasDel := false } := rfl
theorem de_refuse (self : Value) : refuseLoop self "__setattr__" (.ref 52 :: .ref 39 :: bmX) = pure () := by
  rw [refuseLoop_ref, refuseLoop_ref]; exact PySem.F.store_Exception.passes self
section
variable {prog : Program} {w : World} {A : Around} {E : Value → Shared → Prop} {s : Shared} {R : Result → Shared → Prop} {h₀ : Heap} {L x dx : Addr} {m : Str → Option Value} {news news' pre post : List (Addr × Obj)}
theorem de_osa {ox : Obj} {od : Option Obj} {name : Str} {tk : Tok} {v : Value} (X : (K w.params).In s.heap) (I : InstAt s.heap x ox 52 od) (ht : takerIn (K w.params) 52 name = some none)
    (h : ∀ b, wpAny (model prog w) A.in1 (storeInOwnDict (.ref x) (.ref 52) (.str name tk) name v b)
      (fun fin s' => match fin with | .done f => R (.ok f) s' | .again c' => c'.quiet = true ∧ codeAny (model prog w) A c' R s') (fun e s' => R (.error e) s') s) :
    codeAny (model prog w) A (.call (.builtin "object.__setattr__") ⟨[.ref x, .str name tk, v], []⟩) R s := by
  have SF := PySem.F.store_object
  have hc := de_cls (P := w.params)
  have sub : Looks (model prog w) s.heap (isInstance (.ref x) (.type "object")) true := I.type.andThen (looks_mroIn X (by unfold mroIn; rw [hc]; rfl))
  refine codeAny_call_builtin SF.slot.plain SF.entry (@check_slot (model prog w) _ _ s "object.__setattr__" "object" "__setattr__" (.ref x) [.str name tk, v] [] _ SF.kind SF.split sub (SF.args (.ref x) (.str name tk) v) ?_)
  obtain ⟨attr, ha, hr⟩ := Option.bind_eq_some_iff.mp ht
  have hm : Looks (model prog w) s.heap (mroOf (.ref 52)) (.ref 52 :: .ref 39 :: bmX) := (looks_clsIn X hc).andThen .now
  have L3 : Looks (model prog w) s.heap (storeTaker? attr) none := by
    cases attr with
    | none => cases hr; exact .now
    | some a =>
      obtain ⟨b, hb, hb2⟩ := Option.map_eq_some_iff.mp hr
      refine (looks_takesIn X hb).andThen ?_
      cases b <;> first | exact .now | cases hb2
  rw [osa_eq, refuse_eq]
  refine wpAny_bind (wpAny_bind (I.type.here (wpAny_bind (hm.here ?_))))
  rw [de_refuse]
  refine wpAny_pure (wpAny_bind (I.type.here (wpAny_bind ((looks_findIn X ha).here (wpAny_bind (L3.here ?_))))))
  exact h _
theorem de_osa1 {ox od od' : Obj} {name : Str} {tk : Tok} {v : Value} {es : List DictEntry} {n : Nat} (F : Fr h₀ L s.heap m) (N : News h₀ L s.heap (pre ++ (dx, od) :: post)) (X : (K w.params).In s.heap)
    (I : InstAt s.heap x ox 52 (some od)) (hd : ox.dict = some dx) (ht : takerIn (K w.params) 52 name = some none)
    (hl : (lookIn name od).isSome = true) (h1 : ∀ p ∈ pre, p.1 ≠ dx) (h2 : ∀ p ∈ post, p.1 ≠ dx)
    (e : Obj.putName name (PyData.keyHash w.params name) (.str name s.toks) v od = od') (e' : od'.data = .dict es.toArray n) (hz : es.length ≤ 1000)
    (h : ∀ h', Fr h₀ L h' m → News h₀ L h' (pre ++ (dx, od') :: post) → R (.ok (.ret .none)) { s with heap := h', toks := s.toks + 1 }) :
    codeAny (model prog w) A (.call (.builtin "object.__setattr__") ⟨[.ref x, .str name tk, v], []⟩) R s := by
  refine de_osa X I ht fun b => ?_
  have hc := de_cls (P := w.params)
  obtain ⟨U1, U2⟩ := news_upd (f := Obj.putName name (PyData.keyHash w.params name) (.str name s.toks) v) F N h1 h2 e (by obtain ⟨_, _, dd, _⟩ := od'; cases e'; rfl)
  have D := (N (dx, od) (by simp)).1
  have D' := (U2 (dx, od') (by simp)).1
  obtain ⟨hx, hcl, hn, -⟩ := I
  obtain ⟨oc, odi, oda, osl⟩ := ox
  dsimp only at hcl hd
  subst hcl hd
  refine wpAny_bind (wpAny_pure (wpAny_bind (wpAny_bind (wpAny_loadPart hx (wpAny_bind ((looks_clsIn X hc).here ?_))))))
  refine wpAny_pure (a := some dx) (wpAny_bind (wpAny_pure (wpAny_bind ?_)))
  unfold nsSet
  refine wpAny_bind (wpAny_bind (wpAny_askSetting (wpAny_pure (wpAny_bind (wpAny_mkText (wpAny_bind (wpAny_loadPart D ?_)))))))
  unfold lookIn at hl
  split at hl
  · rename_i es₀ n₀ q
    rw [q]
    dsimp only
    have c : (!es₀.any (·.key.isStr name) && es₀.any (·.refKey)) = false := by
      rw [← Array.any_toList, ← Array.any_toList]
      split at hl
      · rename_i en he
        rw [List.any_eq_true.mpr ⟨en, List.mem_of_find?_eq_some he, List.find?_some he⟩]; rfl
      · split at hl
        · cases hl
        · rename_i z; rw [Bool.not_eq_true] at z; rw [z, Bool.and_false]
    rw [aRefKeyMayBeTheName_at, c]
    refine wpAny_updatePart D ?_
    refine wpAny_bind (wpAny_lookBehind D' (by rw [e']; exact pastItsLine_dict (by rw [List.size_toArray, sizeLine_eq]; omega)) ?_)
    exact wpAny_pure (h _ U1 U2)
  · cases hl
theorem exc_set1 {es es' : List DictEntry} {n n' : Nat} {ox : Obj} {name : Str} {v : Value} {Q : Unit → Shared → Prop} (F : Fr h₀ L s.heap m) (X₀ : (K w.params).In h₀) (N : News h₀ L s.heap news) (I : InstAt s.heap x ox 52 (some (dictOf es n))) (hd : ox.dict = some dx)
    (ht : takerIn (K w.params) 52 name = some none) (hl : (getL name es).isSome = true)
    (e : (putL name (PyData.keyHash w.params name) (.str name (s.toks + 1)) v es, putN name es n) = (es', n')) (U : Upd dx (dictOf es n) (dictOf es' n') news news') (hz : es'.length ≤ 1000)
    (h : ∀ h', Fr h₀ L h' m → News h₀ L h' news' → Q () { s with heap := h', toks := s.toks + 2 }) :
    wpAny (model prog w) A (setAttr (.ref x) name v) Q E s := by
  obtain ⟨pre, post, rfl, rfl, a, b⟩ := U.split
  obtain ⟨e1, e2⟩ := Prod.mk.inj e
  exact set_plain (X₀.keeps F.keep) I de_setattr (de_osa1 (s := { s with toks := s.toks + 1 }) F N (X₀.keeps F.keep) I hd ht hl a b (by rw [putName_dict, e1, e2]) rfl hz fun h' F' N' => h h' F' N')
end
end
section
open Sem (wp)
open Builtin Builtin.ObjectAttr
set_option maxRecDepth 100000
section
variable {prog : Program} {w : World} {A : Around} {E : Value → Shared → Prop} {s : Shared} {R : Result → Shared → Prop} {h₀ : Heap} {L x : Addr} {m : Str → Option Value} {news post : List (Addr × Obj)}
noncomputable abbrev exO (t : Addr) (od : Option Addr) : Obj := { cls := .ref 52, dict := od, data := .fields #[.ref t, .none, .none, .none, .bool false, .none] }
theorem de_osa0 {t : Addr} {name : Str} {tk : Tok} {v : Value} (F : Fr h₀ L s.heap m) (N : News h₀ L s.heap ((x, exO t none) :: post)) (X : (K w.params).In s.heap)
    (ht : takerIn (K w.params) 52 name = some none) (h2 : ∀ p ∈ post, p.1 ≠ x)
    (h : ∀ h' d, Fr h₀ L h' m → News h₀ L h' ((d, dictOf [⟨PyData.keyHash w.params name, .str name s.toks, v⟩] 1) :: (x, exO t (some d)) :: post) → (∀ p ∈ post, p.1 < d) → x < d → R (.ok (.ret .none)) { s with heap := h', toks := s.toks + 1 }) :
    codeAny (model prog w) A (.call (.builtin "object.__setattr__") ⟨[.ref x, .str name tk, v], []⟩) R s := by
  have hx := (N _ List.mem_cons_self).1
  have I : InstAt s.heap x (exO t none) 52 none := ⟨hx, rfl, rfl, trivial⟩
  refine de_osa X I ht fun b => ?_
  have hc := de_cls (P := w.params)
  have N1 := News.push F N { cls := .type "dict", data := .dict #[] }
  have F1 := F.push (o := { cls := .type "dict", data := .dict #[] })
  have xd : x ≠ s.heap.objs.size := Nat.ne_of_lt (Heap.lt_size hx)
  obtain ⟨F2, N2⟩ := news_upd (pre := [(s.heap.objs.size, { cls := .type "dict", data := .dict #[] })]) (f := fun o : Obj => { o with dict := some s.heap.objs.size }) F1 N1 (fun p hp => by rw [List.mem_singleton.mp hp]; exact Ne.symm xd) h2 rfl rfl
  have below : ∀ p ∈ (x, exO t none) :: post, @LT.lt Nat _ p.1 s.heap.objs.size := fun p hp => Heap.lt_size (N p hp).1
  obtain ⟨F3, N3⟩ := news_upd (pre := []) (f := Obj.putName name (PyData.keyHash w.params name) (.str name s.toks) v) F2 N2 (fun p hp => nomatch hp) (fun p hp => by
    rcases List.mem_cons.mp hp with rfl | hp
    · exact xd
    · exact Nat.ne_of_lt (below _ (List.mem_cons_of_mem _ hp))) (putName_dict name (PyData.keyHash w.params name) (.str name s.toks) v [] 0) rfl
  have D := (N2 _ List.mem_cons_self).1
  have D' := (N3 _ List.mem_cons_self).1
  have hx1 := (N1 _ (List.mem_cons_of_mem _ List.mem_cons_self)).1
  refine wpAny_bind (wpAny_pure (wpAny_bind (wpAny_bind (wpAny_loadPart hx (wpAny_bind ((looks_clsIn X hc).here ?_))))))
  show wpAny _ _ (alloc _ >>= _) _ _ _
  refine wpAny_bind (wpAny_alloc ?_)
  refine wpAny_bind (wpAny_update hx1 ?_)
  refine wpAny_pure (a := some s.heap.objs.size) (wpAny_bind (wpAny_pure (wpAny_bind ?_)))
  unfold nsSet
  refine wpAny_bind (wpAny_bind (wpAny_askSetting (wpAny_pure (wpAny_bind (wpAny_mkText (wpAny_bind (wpAny_loadPart D ?_)))))))
  refine wpAny_updatePart D ?_
  refine wpAny_bind (wpAny_lookBehind D' (by exact pastItsLine_dict (by show 1 ≤ sizeLine + 1; exact Nat.le_add_left _ _)) ?_)
  exact wpAny_pure (h _ _ F3 N3 (fun p hp => below _ (List.mem_cons_of_mem _ hp)) (below _ List.mem_cons_self))
theorem exc_set0 {t : Addr} {name : Str} {v : Value} {Q : Unit → Shared → Prop} (F : Fr h₀ L s.heap m) (X₀ : (K w.params).In h₀) (N : News h₀ L s.heap ((x, exO t none) :: post))
    (ht : takerIn (K w.params) 52 name = some none) (h2 : ∀ p ∈ post, p.1 ≠ x)
    (h : ∀ h' d, Fr h₀ L h' m → News h₀ L h' ((d, dictOf [⟨PyData.keyHash w.params name, .str name (s.toks + 1), v⟩] 1) :: (x, exO t (some d)) :: post) → (∀ p ∈ post, p.1 < d) → x < d → Q () { s with heap := h', toks := s.toks + 2 }) :
    wpAny (model prog w) A (setAttr (.ref x) name v) Q E s :=
  set_plain (ox := exO t none) (od := none) (X₀.keeps F.keep) ⟨(N _ List.mem_cons_self).1, rfl, rfl, trivial⟩ de_setattr (de_osa0 (s := { s with toks := s.toks + 1 }) F N (X₀.keeps F.keep) ht h2 fun h' d F' N' l1 l2 => h h' d F' N' l1 l2)
end
end
section
open Sem (wp)
set_option maxRecDepth 100000
noncomputable abbrev exD (P : Params) (kd : Str) (at_ : Int) (dt : Str) (k1 k2 k3 t1 t2 t3 : Tok) : Obj := dictOf [ent P "kind" k1 (.str kd t1), ent P "at" k2 (.int at_ t2), ent P "detail" k3 (.str dt t3)] 3
section
variable {M : Model} {A : Around} {E : Value → Shared → Prop} {s' : Shared} {base g h : Heap} {outer : List Env} {L a e x t : Addr} {m : Str → Option Value} {name : Str} {scope : Scope} {cd : Value} {Q : Unit → Shared → Prop} {news news' : List (Addr × Obj)}
theorem RaisedD.sub {l : List Env} {G h : Heap} {news news' : List (Addr × Obj)} (R : RaisedD base G l e x news h) (hs : ∀ p ∈ news', p ∈ news) : RaisedD base G l e x news' h := by
  obtain ⟨⟨B, a0, hB, hBG, hl, hf⟩, hd⟩ := R
  exact ⟨⟨B, a0, hB, hBG, fun q hq => hl q (hs q hq), hf⟩, hd⟩
theorem leave_firstX (K : Below A base outer g) (F : Fr g L s'.heap m) (N : News g L s'.heap news) (hm : (e, exO t (some x)) ∈ news) (D : Del e news news')
    (hQ : ∀ h', RaisedD base g outer e x news' h' → g.UpToSlots h' → Q () { s' with heap := h' }) (hk : scope.kind = .function := by rfl) :
    wpAny M (A.deeper (envOf name scope L a cd)) (leaving (envOf name scope L a cd) (.ref e)) Q E s' :=
  leave_firstD (oe := exO t (some x)) K F N hm rfl rfl rfl rfl rfl D hQ hk
end
section
variable {prog : Program} {w : World} {A : Around} {E : Value → Shared → Prop} {s : Shared} {env : Env}
noncomputable def RaisePost (w : World) (E : Value → Shared → Prop) (v : Value) (s₁ : Shared) : Prop := ∃ e t x, v = .ref e ∧ (K w.params).In s₁.heap ∧ s₁.heap.get? e = some (exO t (some x)) ∧ E (.ref e) s₁
theorem RaisePost.mk {e t x L : Addr} {h₀ : Heap} {m : Str → Option Value} {news : List (Addr × Obj)} (F : Fr h₀ L s.heap m) (X : (K w.params).In h₀) (N : News h₀ L s.heap news) (hm : (e, exO t (some x)) ∈ news) (h : E (.ref e) s) : RaisePost w E (.ref e) s :=
  ⟨e, t, x, rfl, X.keeps F.keep, (N _ hm).1, h⟩
theorem raise_D {c : Expr} {pos : Pos} {Q : Flow → Shared → Prop} (hh : A.handled = none) (h : wpAny (model prog w) A (eval c env) (RaisePost w E) E s) :
    wpAny (model prog w) A (exec (.Raise (some c) none pos) env) Q E s := by
  rw [arm_exec_Raise]
  have k : ∀ {xx : Sem Value}, wpAny (model prog w) A xx (RaisePost w E) E s → wpAny (model prog w) A (PySem.raiseStmt env (some xx) none) Q E s := by
    intro xx h
    unfold PySem.raiseStmt
    refine wpAny_bind (wpAny_mono h (fun v s₁ h₁ => ?_) fun _ _ x => x)
    obtain ⟨e, t, x, rfl, X, he, hE⟩ := h₁
    obtain ⟨hp, g, d, tk, os⟩ := s₁
    have hC : hp.get? 52 = some (excClassObj "DesignError" "DesignError" 52 51 [.ref 39] (.ref 39 :: bmX) true [] [] false none none (some (.ref 43)) none (some (.str "DesignError" 232)) (some (.str "DesignError" 240)) (some (.bool true)) "Exception.__new__") := X 52 _ rfl
    have hcB : (Value.ref 52 :: .ref 39 :: bmX).contains (.type "BaseException") = true := by decide +kernel
    repeat (first | with_reducible refine wpAny_loadPart_at he ?_ | with_reducible refine wpAny_loadPart_at hC ?_ | (with_reducible refine wpAny_isSubtype_exc hC ?_; rw [hcB]) | wp_step)
    exact wpAny_raiseNew_none hh hE
  first
    | exact wpAny_bind (wpAny_standAt (k (wpAny_bind (wpAny_mono h (fun v s₁ h₁ => wpAny_bind (wpAny_standAt (wpAny_pure h₁))) fun _ _ x => x))))
    | (simp only [evalOpt, Option.map]; exact wpAny_bind (wpAny_standAt (k (wpAny_bind (wpAny_mono h (fun v s₁ h₁ => wpAny_bind (wpAny_standAt (wpAny_pure h₁))) fun _ _ x => x)))))
end
/-- a call that raises a DesignError; it threads the design's dict -/
noncomputable def XCall (w : World) (mean : ExcName → Option Value) (mg mb : Str → Option Value) (d : DV) (dd : Addr) (n : Int) (rest : List (Addr × Obj)) (f : Addr) (args : List Value) (kd ku : Nat) (xk : Str) (xa : Int) (xd : Str) : Prop :=
  ∀ rest', (∀ p ∈ rest, p ∈ rest') → (∀ p ∈ rest', p.1 ≠ dd) → ∀ (dp un : Nat) (gd : Option (List Code)) (cn : Str) (cs : Scope) (a : Addr) (ccd : Value) (outer : List Env) (A₀ : Around) (base h₀ : Heap) (L : Addr) (m : Str → Option Value) (s : Shared) (Q E : Value → Shared → Prop) (tn : Tok),
   Below A₀ base outer h₀ → Fr h₀ L s.heap m → (K w.params).In h₀ → News h₀ L s.heap ((dd, dst w.params d n tn) :: rest') → Top q loose mean mg mb h₀ → cs.kind = .function → dp + kd < recursionLimit → un + ku < cLine → (K w.params).In base → Top q loose mean mg mb base →
   (∀ G e x h' tk tn' k1 k2 k3 t1 t2 t3, Fr h₀ L G m → RaisedD base G (envOf cn cs L a ccd :: outer) e x ((x, exD w.params xk xa xd k1 k2 k3 t1 t2 t3) :: (dd, dst w.params d n tn') :: rest') h' → G.UpToSlots h' → x ≠ dd → E (.ref e) { s with heap := h', toks := tk }) →
   wpAny (model PySem.Challenge.rw_pq0479_01.prog w) (ktrTop dp un gd cn cs L a ccd [] outer) (call (.ref f) args) Q E s
section
variable {w : World} {mean : ExcName → Option Value} {mg mb : Str → Option Value} {d : DV} {dd : Addr} {n : Int} {rest rest' all : List (Addr × Obj)} {f : Addr} {args : List Value} {kd ku : Nat} {xk xd : Str} {xa : Int}
  {dp un : Nat} {gd : Option (List Code)} {cn : Str} {cs : Scope} {a : Addr} {ccd : Value} {outer : List Env} {A₀ : Around} {base h₀ : Heap} {L : Addr} {m : Str → Option Value} {s : Shared} {Q E : Value → Shared → Prop} {tn : Tok}
theorem useX (C : XCall w mean mg mb d dd n rest f args kd ku xk xa xd) (Bl : Below A₀ base outer h₀) (F : Fr h₀ L s.heap m) (X : (K w.params).In h₀) (N : News h₀ L s.heap all) (D : Del dd all rest') (hm : (dd, dst w.params d n tn) ∈ all) (sub : ∀ p ∈ rest, p ∈ rest')
   (T : Top q loose mean mg mb h₀) (hk : cs.kind = .function) (hd : dp + kd < recursionLimit) (hu : un + ku < cLine) (XB : (K w.params).In base) (TB : Top q loose mean mg mb base)
   (ret : ∀ G e x h' tk tn' k1 k2 k3 t1 t2 t3, Fr h₀ L G m → RaisedD base G (envOf cn cs L a ccd :: outer) e x ((x, exD w.params xk xa xd k1 k2 k3 t1 t2 t3) :: (dd, dst w.params d n tn') :: rest') h' → G.UpToSlots h' → x ≠ dd → E (.ref e) { s with heap := h', toks := tk }) :
   wpAny (model PySem.Challenge.rw_pq0479_01.prog w) (ktrTop dp un gd cn cs L a ccd [] outer) (call (.ref f) args) Q E s :=
  C rest' sub (fun p hp => (D.sub p hp).2) dp un gd cn cs a ccd outer A₀ base h₀ L m s Q E tn Bl F X (newsSub N (consSub hm fun p hp => (D.sub p hp).1)) T hk hd hu XB TB ret
theorem XCall.more {kd2 ku2 : Nat} (C : XCall w mean mg mb d dd n rest f args kd ku xk xa xd) (h1 : kd ≤ kd2) (h2 : ku ≤ ku2) : XCall w mean mg mb d dd n rest f args kd2 ku2 xk xa xd :=
  fun rest' s1 s2 dp un gd cn cs a ccd outer A₀ base h₀ L m s Q E tn Bl F X N T hk hd hu XB TB ret => C rest' s1 s2 dp un gd cn cs a ccd outer A₀ base h₀ L m s Q E tn Bl F X N T hk (by omega) (by omega) XB TB ret
end
end
theorem look14 {prog : Program} {w : World} {A : Around} {E Q : Value → Shared → Prop} {s : Shared} {t u : Tok} (h : wpAny (model prog w) A (binaryOp .Add (.int 1 t) (.int 2 u)) Q E s) : wpAny (model prog w) A (binaryOp .Add (.int 1 t) (.int 2 u)) Q E s := by first | (walk1; fail) | exact h
section
theorem exc_inst {h h₀ : Heap} {L x t d : Addr} {news : List (Addr × Obj)} {es : List DictEntry} {n : Nat} (N : News h₀ L h news) (m1 : (x, exO t (some d)) ∈ news) (m2 : (d, dictOf es n) ∈ news) : InstAt h x (exO t (some d)) 52 (some (dictOf es n)) :=
  ⟨(N _ m1).1, rfl, rfl, (N _ m2).1⟩
local macro_rules | `(tactic| walk_at "setAttr ref") => `(tactic| k_extra "r52")
set_option maxRecDepth 100000 in
set_option maxHeartbeats 8000000 in
theorem make2_c {w : World} {mean : ExcName → Option Value} {mg mb : Str → Option Value} {kd : Str} {tk1 tk2 : Tok} {at_ : Int}
   {dp un : Nat} {gd : Option (List Code)} {cn : Str} {cs : Scope} {a : Addr} {ccd : Value} {cl : List (Str × Addr)} {outer : List Env} {A₀ : Around} {base h₀ : Heap} {L : Addr} {m : Str → Option Value} {s : Shared} {news : List (Addr × Obj)} {Q E : Value → Shared → Prop}
   (Bl : Below A₀ base outer h₀) (F : Fr h₀ L s.heap m) (X : (K w.params).In h₀) (N : News h₀ L s.heap news) (T : Top q loose mean mg mb h₀) (hk : cs.kind = .function) (hdp : dp + 3 < recursionLimit) (hun : un + 300 < cLine)
   
   (ret : ∀ e x t h' tk k1 k2 k3 tk3 o, Fr h₀ L h' m → News h₀ L h' ((x, dictOf [ent w.params "kind" k1 (.str kd tk1), ent w.params "at" k2 (.int at_ tk2), ent w.params "detail" k3 (.str "" tk3)] 3) :: (e, exO t (some x)) :: (t, o) :: news) → (∀ p ∈ news, p.1 < t) → (∀ p ∈ news, p.1 < e) → (∀ p ∈ news, p.1 < x) → t < e → e < x → Q (.ref e) { s with heap := h', toks := tk }) :
   wpAny (model PySem.Challenge.rw_pq0479_01.prog w) (ktrTop dp un gd cn cs L a ccd cl outer) (call (.ref 52) [.str kd tk1, .int at_ tk2]) Q E s := by
  revert X N F; k_fill; intro F X N
  (refine' de_callN ?f ?x ?n ?_ ?z; (case f => k_asm); (case x => k_asm); (case n => k_asm); (case z => exact Nat.le_of_ble_eq_true rfl))
  intro h' e' t' F' N' l1 l3 l2
  (try k_lt l1)
  (try k_lt l3)
  (try k_lt2 l2)
  k_steps
  all_goals exact ret _ _ _ _ _ _ _ _ _ _ (by tb_rel) (by tb_rel) (by tb_rel) (by tb_rel) (by tb_rel) (by tb_rel) (by tb_rel)
set_option maxRecDepth 100000 in
set_option maxHeartbeats 8000000 in
theorem make3_c {w : World} {mean : ExcName → Option Value} {mg mb : Str → Option Value} {kd dt : Str} {tk1 tk2 tk0 : Tok} {at_ : Int}
   {dp un : Nat} {gd : Option (List Code)} {cn : Str} {cs : Scope} {a : Addr} {ccd : Value} {cl : List (Str × Addr)} {outer : List Env} {A₀ : Around} {base h₀ : Heap} {L : Addr} {m : Str → Option Value} {s : Shared} {news : List (Addr × Obj)} {Q E : Value → Shared → Prop}
   (Bl : Below A₀ base outer h₀) (F : Fr h₀ L s.heap m) (X : (K w.params).In h₀) (N : News h₀ L s.heap news) (T : Top q loose mean mg mb h₀) (hk : cs.kind = .function) (hdp : dp + 3 < recursionLimit) (hun : un + 300 < cLine)
   
   (ret : ∀ e x t h' tk k1 k2 k3 tk3 o, Fr h₀ L h' m → News h₀ L h' ((x, dictOf [ent w.params "kind" k1 (.str kd tk1), ent w.params "at" k2 (.int at_ tk2), ent w.params "detail" k3 (.str dt tk3)] 3) :: (e, exO t (some x)) :: (t, o) :: news) → (∀ p ∈ news, p.1 < t) → (∀ p ∈ news, p.1 < e) → (∀ p ∈ news, p.1 < x) → t < e → e < x → Q (.ref e) { s with heap := h', toks := tk }) :
   wpAny (model PySem.Challenge.rw_pq0479_01.prog w) (ktrTop dp un gd cn cs L a ccd cl outer) (call (.ref 52) [.str kd tk1, .int at_ tk2, .str dt tk0]) Q E s := by
  revert X N F; k_fill; intro F X N
  (refine' de_callN ?f ?x ?n ?_ ?z; (case f => k_asm); (case x => k_asm); (case n => k_asm); (case z => exact Nat.le_of_ble_eq_true rfl))
  intro h' e' t' F' N' l1 l3 l2
  (try k_lt l1)
  (try k_lt l3)
  (try k_lt2 l2)
  k_steps
  all_goals exact ret _ _ _ _ _ _ _ _ _ _ (by tb_rel) (by tb_rel) (by tb_rel) (by tb_rel) (by tb_rel) (by tb_rel) (by tb_rel)
end
section
local macro_rules | `(tactic| walk_at "leaving ref") => `(tactic| k_extra "r53")
local macro_rules | `(tactic| walk_at "RaisePost") => `(tactic| k_extra "r54")
local macro_rules | `(tactic| walk_at "exec Raise some none") => `(tactic| k_extra "r55")
theorem look15 {prog : Program} {w : World} {A : Around} {E Q : Value → Shared → Prop} {s : Shared} {t u : Tok} (h : wpAny (model prog w) A (binaryOp .Add (.int 1 t) (.int 2 u)) Q E s) : wpAny (model prog w) A (binaryOp .Add (.int 1 t) (.int 2 u)) Q E s := by first | (walk1; fail) | exact h
section
local macro_rules | `(tactic| walk_at "call ref") => `(tactic| k_extra "r56")
set_option maxRecDepth 100000 in
set_option maxHeartbeats 8000000 in
theorem whole_top5 {w : World} {mean : ExcName → Option Value} {mg mb : Str → Option Value} {d : DV} {dd : Addr} {n : Int} {rest : List (Addr × Obj)} {kd ku : Nat} {xk xd : Str} {xa : Int}  {c : SV} {D ds S e : Addr} {t1 : Tok} {at_ : Int} {v0 v2 v3 v4 : Value} {ne_ : Nat}
   (m1 : (S, instObj 1315 ds) ∈ rest) (m2 : (ds, sst w.params c D) ∈ rest) (m3 : (D, instObj 1238 dd) ∈ rest) (me : (e, tupO [v0, .int at_ t1, v2, v3, v4] ne_) ∈ rest)  (hn : 8 ≤ n) (hku : 2000 ≤ ku) : XCall w mean mg mb d dd n rest 1109 [.ref S, .ref e] (kd + 10) (ku + 40) "bounds_nested" at_ "" := by
  intro rest' sub ne dp un gd cn cs a ccd outer A₀ base h₀ L m s Q E tn Bl F X N T hk hdp hun XB TB ret
  (replace m1 := sub _ m1); (replace m2 := sub _ m2); (replace m3 := sub _ m3); (replace me := sub _ me);
  revert X N F; k_fill; intro F X N
  tb_start; k_steps; all_goals first | exact ret _ _ _ _ _ _ _ _ _ _ _ _ (by assumption) (by first | assumption | exact RaisedD.sub (by assumption) (by ktr_rel)) (by assumption) (by first | assumption | (refine neN ?_; omega))
end
theorem look16 {prog : Program} {w : World} {A : Around} {E Q : Value → Shared → Prop} {s : Shared} {t u : Tok} (h : wpAny (model prog w) A (binaryOp .Add (.int 1 t) (.int 2 u)) Q E s) : wpAny (model prog w) A (binaryOp .Add (.int 1 t) (.int 2 u)) Q E s := by first | (walk1; fail) | exact h
section
local macro_rules | `(tactic| walk_at "call ref") => `(tactic| k_extra "r56")
local macro_rules | `(tactic| walk_at "call ref") => `(tactic| k_extra "r57")
set_option maxRecDepth 100000 in
set_option maxHeartbeats 8000000 in
theorem whole_top4 {w : World} {mean : ExcName → Option Value} {mg mb : Str → Option Value} {d : DV} {dd : Addr} {n : Int} {rest : List (Addr × Obj)} {kd ku : Nat} {xk xd : Str} {xa : Int}  {c : SV} {D ds S e : Addr} {t1 : Tok} {at_ : Int} {v0 v2 v3 : Value} {ne_ : Nat}
   (m1 : (S, instObj 1315 ds) ∈ rest) (m2 : (ds, sst w.params c D) ∈ rest) (m3 : (D, instObj 1238 dd) ∈ rest) (me : (e, tupO [v0, .int at_ t1, v2, v3] ne_) ∈ rest)  (hn : 8 ≤ n) (hku : 2000 ≤ ku) : XCall w mean mg mb d dd n rest 1109 [.ref S, .ref e] (kd + 10) (ku + 40) "bounds_nested" at_ "" := by
  intro rest' sub ne dp un gd cn cs a ccd outer A₀ base h₀ L m s Q E tn Bl F X N T hk hdp hun XB TB ret
  (replace m1 := sub _ m1); (replace m2 := sub _ m2); (replace m3 := sub _ m3); (replace me := sub _ me);
  revert X N F; k_fill; intro F X N
  tb_start; k_steps; all_goals first | exact ret _ _ _ _ _ _ _ _ _ _ _ _ (by assumption) (by first | assumption | exact RaisedD.sub (by assumption) (by ktr_rel)) (by assumption) (by first | assumption | (refine neN ?_; omega))
set_option maxRecDepth 100000 in
set_option maxHeartbeats 8000000 in
theorem copies_x {w : World} {mean : ExcName → Option Value} {mg mb : Str → Option Value} {d : DV} {dd : Addr} {n : Int} {rest : List (Addr × Obj)} {kd ku : Nat} {xk xd : Str} {xa : Int}  {S e e2 : Addr} {q1 q2 : Tok} {at_ : Int} {ne_ : Nat} {p : Addr}
   (me : (e, tupO [.str "rep" q1, .int at_ q2, .ref e2, .ref p] ne_) ∈ rest) (C0 : XCall w mean mg mb d dd n rest 1109 [.ref S, .ref e2] kd ku xk xa xd)  (hku : 2000 ≤ ku) : XCall w mean mg mb d dd n rest 1025 [.ref S, .ref e] (kd + 2) (ku + 40) xk xa xd := by
  intro rest' sub ne dp un gd cn cs a ccd outer A₀ base h₀ L m s Q E tn Bl F X N T hk hdp hun XB TB ret
  (replace me := sub _ me);
  revert X N F; k_fill; intro F X N
  tb_start; k_steps; all_goals first | exact ret _ _ _ _ _ _ _ _ _ _ _ _ (by assumption) (by first | assumption | exact RaisedD.sub (by assumption) (by ktr_rel)) (by assumption) (by first | assumption | (refine neN ?_; omega))
local macro_rules | `(tactic| walk_at "call ref") => `(tactic| k_extra "r58")
set_option maxRecDepth 100000 in
set_option maxHeartbeats 8000000 in
theorem jwrep_x {w : World} {mean : ExcName → Option Value} {mg mb : Str → Option Value} {d : DV} {dd : Addr} {n : Int} {rest : List (Addr × Obj)} {kd ku : Nat} {xk xd : Str} {xa : Int}  {S e e2 : Addr} {q1 q2 : Tok} {at_ : Int} {ne_ : Nat} {p : Addr}
   (me : (e, tupO [.str "rep" q1, .int at_ q2, .ref e2, .ref p] ne_) ∈ rest) (C0 : XCall w mean mg mb d dd n rest 1025 [.ref S, .ref e] kd ku xk xa xd)  (hku : 2000 ≤ ku) : XCall w mean mg mb d dd n rest 1032 [.ref S, .ref e] (kd + 2) (ku + 40) xk xa xd := by
  intro rest' sub ne dp un gd cn cs a ccd outer A₀ base h₀ L m s Q E tn Bl F X N T hk hdp hun XB TB ret
  (replace me := sub _ me);
  revert X N F; k_fill; intro F X N
  tb_start; k_steps; all_goals first | exact ret _ _ _ _ _ _ _ _ _ _ _ _ (by assumption) (by first | assumption | exact RaisedD.sub (by assumption) (by ktr_rel)) (by assumption) (by first | assumption | (refine neN ?_; omega))
local macro_rules | `(tactic| walk_at "call ref") => `(tactic| k_extra "r59")
set_option maxRecDepth 100000 in
set_option maxHeartbeats 8000000 in
theorem etrep_x {w : World} {mean : ExcName → Option Value} {mg mb : Str → Option Value} {d : DV} {dd : Addr} {n : Int} {rest : List (Addr × Obj)} {kd ku : Nat} {xk xd : Str} {xa : Int}  {S e e2 : Addr} {q1 q2 : Tok} {at_ : Int} {ne_ : Nat} {p : Addr}
   (me : (e, tupO [.str "rep" q1, .int at_ q2, .ref e2, .ref p] ne_) ∈ rest) (C0 : XCall w mean mg mb d dd n rest 1032 [.ref S, .ref e] kd ku xk xa xd)  (hku : 2000 ≤ ku) : XCall w mean mg mb d dd n rest 1053 [.ref S, .ref e] (kd + 2) (ku + 40) xk xa xd := by
  intro rest' sub ne dp un gd cn cs a ccd outer A₀ base h₀ L m s Q E tn Bl F X N T hk hdp hun XB TB ret
  (replace me := sub _ me);
  revert X N F; k_fill; intro F X N
  tb_start; k_steps; all_goals first | exact ret _ _ _ _ _ _ _ _ _ _ _ _ (by assumption) (by first | assumption | exact RaisedD.sub (by assumption) (by ktr_rel)) (by assumption) (by first | assumption | (refine neN ?_; omega))
local macro_rules | `(tactic| walk_at "call ref") => `(tactic| k_extra "r60")
set_option maxRecDepth 100000 in
set_option maxHeartbeats 8000000 in
theorem self_x {w : World} {mean : ExcName → Option Value} {mg mb : Str → Option Value} {d : DV} {dd : Addr} {n : Int} {rest : List (Addr × Obj)} {kd ku : Nat} {xk xd : Str} {xa : Int}  {S e : Addr}
    (C0 : XCall w mean mg mb d dd n rest 1053 [.ref S, .ref e] kd ku xk xa xd)  (hku : 2000 ≤ ku) : XCall w mean mg mb d dd n rest 1081 [.ref S, .ref e] (kd + 2) (ku + 40) xk xa xd := by
  intro rest' sub ne dp un gd cn cs a ccd outer A₀ base h₀ L m s Q E tn Bl F X N T hk hdp hun XB TB ret
  
  revert X N F; k_fill; intro F X N
  tb_start; k_steps; all_goals first | exact ret _ _ _ _ _ _ _ _ _ _ _ _ (by assumption) (by first | assumption | exact RaisedD.sub (by assumption) (by ktr_rel)) (by assumption) (by first | assumption | (refine neN ?_; omega))
local macro_rules | `(tactic| walk_at "call ref") => `(tactic| k_extra "r61")
set_option maxRecDepth 100000 in
set_option maxHeartbeats 8000000 in
theorem const_x {w : World} {mean : ExcName → Option Value} {mg mb : Str → Option Value} {d : DV} {dd : Addr} {n : Int} {rest : List (Addr × Obj)} {kd ku : Nat} {xk xd : Str} {xa : Int}  {S e : Addr}
    (C0 : XCall w mean mg mb d dd n rest 1081 [.ref S, .ref e] kd ku xk xa xd)  (hku : 2000 ≤ ku) : XCall w mean mg mb d dd n rest 1102 [.ref S, .ref e] (kd + 2) (ku + 40) xk xa xd := by
  intro rest' sub ne dp un gd cn cs a ccd outer A₀ base h₀ L m s Q E tn Bl F X N T hk hdp hun XB TB ret
  
  revert X N F; k_fill; intro F X N
  tb_start; k_steps; all_goals first | exact ret _ _ _ _ _ _ _ _ _ _ _ _ (by assumption) (by first | assumption | exact RaisedD.sub (by assumption) (by ktr_rel)) (by assumption) (by first | assumption | (refine neN ?_; omega))
end
section
local macro_rules | `(tactic| k_all) => `(tactic| k_extra "r22")
theorem look17 {prog : Program} {w : World} {A : Around} {E Q : Value → Shared → Prop} {s : Shared} {t u : Tok} (h : wpAny (model prog w) A (binaryOp .Add (.int 1 t) (.int 2 u)) Q E s) : wpAny (model prog w) A (binaryOp .Add (.int 1 t) (.int 2 u)) Q E s := by first | (walk1; fail) | exact h
section
local macro_rules | `(tactic| walk_at "noteFrame ref") => `(tactic| k_extra "r62")
local macro_rules | `(tactic| walk_at "FinEnd") => `(tactic| k_extra "r63")
local macro_rules | `(tactic| walk_at "call ref") => `(tactic| k_extra "r64")
set_option maxRecDepth 100000 in
set_option maxHeartbeats 8000000 in
theorem whole_x {w : World} {mean : ExcName → Option Value} {mg mb : Str → Option Value} {d : DV} {dd : Addr} {n : Int} {rest : List (Addr × Obj)} {kd ku : Nat} {xk xd : Str} {xa : Int}  {c : SV} {D ds : Addr} {S e : Addr}
   (m1 : (S, instObj 1315 ds) ∈ rest) (m2 : (ds, sst w.params c D) ∈ rest) (m3 : (D, instObj 1238 dd) ∈ rest) (C0 : XCall w mean mg mb d dd (n + 1) rest 1102 [.ref S, .ref e] kd ku xk xa xd) (hn : 0 ≤ n ∧ n < 8) (hku : 2000 ≤ ku) : XCall w mean mg mb d dd n rest 1109 [.ref S, .ref e] (kd + 4) (ku + 60) xk xa xd := by
  intro rest' sub ne dp un gd cn cs a ccd outer A₀ base h₀ L m s Q E tn Bl F X N T hk hdp hun XB TB ret
  (replace m1 := sub _ m1); (replace m2 := sub _ m2); (replace m3 := sub _ m3);
  revert X N F; k_fill; intro F X N
  tb_start; k_steps; all_goals (have e9 : n + 1 - 1 = n := by omega); all_goals (simp only [e9] at *); all_goals first | exact ret _ _ _ _ _ _ _ _ _ _ _ _ (by assumption) (by first | assumption | exact RaisedD.sub (by assumption) (by ktr_rel)) (by assumption) (by first | assumption | (refine neN ?_; omega))
end
theorem look18 {prog : Program} {w : World} {A : Around} {E Q : Value → Shared → Prop} {s : Shared} {t u : Tok} (h : wpAny (model prog w) A (binaryOp .Add (.int 1 t) (.int 2 u)) Q E s) : wpAny (model prog w) A (binaryOp .Add (.int 1 t) (.int 2 u)) Q E s := by first | (walk1; fail) | exact h
section
local macro_rules | `(tactic| walk_at "call ref") => `(tactic| k_extra "r56")
local macro_rules | `(tactic| walk_at "call ref") => `(tactic| k_extra "r57")
set_option maxRecDepth 100000 in
set_option maxHeartbeats 8000000 in
theorem small_x {w : World} {mean : ExcName → Option Value} {mg mb : Str → Option Value} {d : DV} {dd : Addr} {n : Int} {rest : List (Addr × Obj)} {kd ku : Nat} {xk xd : Str} {xa : Int}  {c : SV} {D ds : Addr} {S e : Addr}
    (C0 : XCall w mean mg mb d dd n rest 1109 [.ref S, .ref e] kd ku xk xa xd)  (hku : 2000 ≤ ku) : XCall w mean mg mb d dd n rest 1116 [.ref S, .ref e] (kd + 2) (ku + 40) xk xa xd := by
  intro rest' sub ne dp un gd cn cs a ccd outer A₀ base h₀ L m s Q E tn Bl F X N T hk hdp hun XB TB ret
  
  revert X N F; k_fill; intro F X N
  tb_start; k_steps; all_goals first | exact ret _ _ _ _ _ _ _ _ _ _ _ _ (by assumption) (by first | assumption | exact RaisedD.sub (by assumption) (by ktr_rel)) (by assumption) (by first | assumption | (refine neN ?_; omega))
local macro_rules | `(tactic| walk_at "call ref") => `(tactic| k_extra "r36")
set_option maxRecDepth 100000 in
set_option maxHeartbeats 8000000 in
theorem small_range {w : World} {mean : ExcName → Option Value} {mg mb : Str → Option Value} {d : DV} {dd : Addr} {n : Int} {rest : List (Addr × Obj)} {kd ku : Nat} {xk xd : Str} {xa : Int}  {S e : Addr} {t1 : Tok} {at_ r : Int} {v0 v2 v3 v4 : Value} {ne_ : Nat}
   (me : (e, tupO [v0, .int at_ t1, v2, v3, v4] ne_) ∈ rest) (C0 : DCall w mean mg mb d dd n rest 1109 [.ref S, .ref e] kd ku (intR r)) (hr : r < -2147483648 ∨ r > 2147483647) (hku : 2000 ≤ ku) : XCall w mean mg mb d dd n rest 1116 [.ref S, .ref e] (kd + 8) (ku + 40) "bad_range" at_ "" := by
  intro rest' sub ne dp un gd cn cs a ccd outer A₀ base h₀ L m s Q E tn Bl F X N T hk hdp hun XB TB ret
  (replace me := sub _ me);
  revert X N F; k_fill; intro F X N
  tb_start; k_steps; all_goals first | exact ret _ _ _ _ _ _ _ _ _ _ _ _ (by assumption) (by first | assumption | exact RaisedD.sub (by assumption) (by ktr_rel)) (by assumption) (by first | assumption | (refine neN ?_; omega)) | (exfalso; omega)
set_option maxRecDepth 100000 in
set_option maxHeartbeats 8000000 in
theorem small_d {w : World} {mean : ExcName → Option Value} {mg mb : Str → Option Value} {d : DV} {dd : Addr} {n : Int} {rest : List (Addr × Obj)} {kd ku : Nat}  {S e : Addr} {r : Int}
    (C0 : DCall w mean mg mb d dd n rest 1109 [.ref S, .ref e] kd ku (intR r)) (hr : -2147483648 ≤ r ∧ r ≤ 2147483647) (hku : 2000 ≤ ku) : DCall w mean mg mb d dd n rest 1116 [.ref S, .ref e] (kd + 2) (ku + 40) (intR r) := by
  intro rest' sub ne dp un gd cn cs a ccd cl outer A₀ base h₀ L m s Q E tn Bl F X N T hk hdp hun ret
  
  revert X N F; k_fill; intro F X N
  tb_start; k_steps; all_goals first | exact ret _ _ _ _ [] (by tb_rel) (by tb_rel) (fun _ hp => nomatch hp) ⟨rfl, _, rfl⟩ | (exfalso; omega)
end
theorem look19 {prog : Program} {w : World} {A : Around} {E Q : Value → Shared → Prop} {s : Shared} {t u : Tok} (h : wpAny (model prog w) A (binaryOp .Add (.int 1 t) (.int 2 u)) Q E s) : wpAny (model prog w) A (binaryOp .Add (.int 1 t) (.int 2 u)) Q E s := by first | (walk1; fail) | exact h
section
local macro_rules | `(tactic| walk_at "call ref") => `(tactic| k_extra "r56")
local macro_rules | `(tactic| walk_at "call ref") => `(tactic| k_extra "r23")
local macro_rules | `(tactic| walk_at "call ref") => `(tactic| k_extra "r65")
set_option maxRecDepth 100000 in
set_option maxHeartbeats 8000000 in
theorem whole_unk {w : World} {mean : ExcName → Option Value} {mg mb : Str → Option Value} {d : DV} {dd : Addr} {n : Int} {rest : List (Addr × Obj)} {kd ku : Nat} {xk xd : Str} {xa : Int}  {c : SV} {D ds S e : Addr} {t1 : Tok} {at_ wd x y : Int} {sg : Bool} {v0 v2 v3 v4 : Value} {ne_ : Nat}
   (m1 : (S, instObj 1315 ds) ∈ rest) (m2 : (ds, sst w.params c D) ∈ rest) (m3 : (D, instObj 1238 dd) ∈ rest) (me : (e, tupO [v0, .int at_ t1, v2, v3, v4] ne_) ∈ rest)  (hn : 0 ≤ n ∧ n < 8) (hy : y ≠ 0) (C0 : ∀ rest', (∀ p ∈ rest, p ∈ rest') → (∀ p ∈ rest', p.1 ≠ dd) → ConstOk w mean mg mb d dd (n + 1) rest' S e kd ku wd x y sg) (hku : 2000 ≤ ku) : XCall w mean mg mb d dd n rest 1109 [.ref S, .ref e] (kd + 10) (ku + 60) "unknown_constant" at_ "" := by
  intro rest' sub ne dp un gd cn cs a ccd outer A₀ base h₀ L m s Q E tn Bl F X N T hk hdp hun XB TB ret
  (replace m1 := sub _ m1); (replace m2 := sub _ m2); (replace m3 := sub _ m3); (replace me := sub _ me);
  revert X N F; k_fill; intro F X N
  have C1 := C0 rest' sub ne
  clear C0
  tb_start; k_steps; all_goals (have e9 : n + 1 - 1 = n := by omega); all_goals (simp only [e9] at *); all_goals first | exact ret _ _ _ _ _ _ _ _ _ _ _ _ (by assumption) (by first | assumption | exact RaisedD.sub (by assumption) (by ktr_rel)) (by assumption) (by first | assumption | (refine neN ?_; omega))
end
section
section
variable {prog : Program} {w : World} {A : Around} {E : Value → Shared → Prop} {s : Shared} {env : Env}
noncomputable def W1 (Q : Flow → Shared → Prop) (f : Flow) (s₃ : Shared) : Prop := match f with
  | .brk => Q .next s₃
  | .ret v => Q (.ret v) s₃
  | _ => False
theorem W1.rt {Q : Flow → Shared → Prop} {v : Value} {s : Shared} (h : Q (.ret v) s) : W1 Q (.ret v) s := h
/-- a while that leaves in its first turn -/
theorem while1 {test : Expr} {body orelse : List Stmt} {pos : Pos} {Q : Flow → Shared → Prop} (hE : PassesOwn (model prog w) A env E)
    (h : wpAny (model prog w) A (isTrue test env (eval test env)) (fun b s₂ => if b then wpAny (model prog w) A (execs body env) (W1 Q) E s₂ else wpAny (model prog w) A (execs orelse env) (fun f s₃ => Q f s₃) E s₂) E s) :
    wpAny (model prog w) A (exec (.While test body orelse pos) env) Q E s := by
  refine wpAny_While (codeAny_whileLoop (I := fun k s' => k = 0 ∧ s' = s) ?_ 0 ⟨rfl, rfl⟩)
  rintro k s' ⟨rfl, rfl⟩
  refine wpAny_passesOwn hE (wpAny_mono h (fun b s₂ h₂ => ?_) fun _ _ z => z)
  cases b with
  | true =>
    rw [if_pos rfl] at h₂ ⊢
    refine wpAny_passesOwn hE (wpAny_mono h₂ (fun f s₃ h₃ => ?_) fun _ _ z => z)
    cases f <;> first | exact h₃ | exact h₃.elim
  | false =>
    rw [if_neg (by decide)] at h₂ ⊢
    exact wpAny_passesOwn hE h₂
theorem item_lst0 {value slice : Expr} {l L : Addr} {h₀ : Heap} {m : Str → Option Value} {news : List (Addr × Obj)} {n : Nat} {u : Tok} {v : Value} {Q : Value → Shared → Prop} (N : News h₀ L s.heap news) (hm : (l, listOf #[v] n) ∈ news) (h : Q v s)
    (hs : subscripted slice false (.ref l) (.int 0 u) = operate [.ref l, .int 0 u] (getItem (.ref l) (.int 0 u)) := by with_unfolding_all rfl) :
    wpAny (model prog w) A (subscriptTail value slice (.ref l) (.int 0 u)) Q E s := by
  have hl : s.heap.IsList l #[v] := ⟨_, (N _ hm).1, rfl, n, rfl⟩
  exact tail_any hl.typeIs slot_list_getitem.lookup (wpAny_getItem_list hl (by decide) (by decide) rfl h) hs
end
end
section
set_option maxRecDepth 100000
section
variable {prog : Program} {w : World} {A : Around} {E : Value → Shared → Prop} {s : Shared} {h₀ : Heap} {L : Addr} {m : Str → Option Value} {news : List (Addr × Obj)}
theorem sl02 {sl : Addr} {u u2 : Tok} {Q : Int × Int × Nat → Shared → Prop} (hs : s.heap.IsSliceOf sl (.int 0 u) (.int 2 u2) .none) (h : Q ((0 : Int), 1, 2) s) :
    wpAny (model prog w) A (Builtin.Slice.sliceApplied (.ref sl) (pure ((5 : Nat) : Int))) Q E s := by
  obtain ⟨os, hos, hcs, hds⟩ := id hs
  unfold Builtin.Slice.sliceApplied Builtin.Slice.sliceFields
  refine wpAny_bind (wpAny_bind (wpAny_field hos hds (x := .int 0 u) rfl (wpAny_bind (wpAny_field hos hds (x := .int 2 u2) rfl (wpAny_bind (wpAny_field hos hds (x := .none) rfl (wpAny_pure ?_)))))))
  refine wpAny_bind (slicePart_none ?_)
  show wpAny _ _ (if ((1 : Int) == 0) = true then _ else _) _ _ s
  rw [if_neg (by decide)]
  refine wpAny_bind (slicePart_int (wpAny_bind (slicePart_int (wpAny_bind (wpAny_pure ?_)))))
  exact wpAny_pure h
theorem getItem02 {t sl : Addr} {a b c d e : Value} {u u2 : Tok} {Q : Value → Shared → Prop} (ht : IsTup s.heap t #[a, b, c, d, e]) (hs : s.heap.IsSliceOf sl (.int 0 u) (.int 2 u2) .none)
    (h : Q (.ref s.heap.objs.size) { s with heap := s.heap.push { cls := .type "tuple", data := .seq #[a, b] } }) : wpAny (model prog w) A (getItem (.ref t) (.ref sl)) Q E s := by
  have hdrop : sizeOk (.seq #[a, b]) := Nat.le_of_ble_eq_true rfl
  obtain ⟨os, hos, hcs, hds⟩ := id hs
  have hTs : s.TypeIs (.ref sl) "slice" := ⟨os, hos, hcs⟩
  unfold getItem
  try with_reducible refine wpAny_holding ?_
  first | refine wpAny_bind (wpAny_pure ?_) | skip
  refine wpAny_bind (wpAny_sequenceKey ht.typeIs (by decide) ?_)
  refine wpAny_bind (wpAny_callSpecial?_slot (name := Str.ofString "__getitem__") ht.typeIs slot_tuple_getitem
    (wpAny_call_entry slot_tuple_getitem ht.typeIs entry_tuple_getitem ?_ (args_tuple_getitem _ _)))
  show wpAny _ _ (Builtin.Tuple.tupleItemsOf (.ref t) >>= _) _ _ s
  refine wpAny_bind (tupleItemsOf_ ht ?_)
  refine wpAny_bind (wpAny_typeOf hTs ?_)
  rw [if_pos (by decide)]
  refine wpAny_bind (sl02 hs ?_)
  first
    | exact wpAny_bind (m := Builtin.Tuple.tupleExact _) (wpAny_newObj_type (wpAny_pure ⟨_, rfl, wpAny_pure h⟩) hdrop)
    | exact wpAny_bind (m := Builtin.Tuple.tupleExact _) (wpAny_newObj_type (wpAny_bind (wpAny_pure (wpAny_pure ⟨_, rfl, wpAny_pure h⟩))) hdrop)
    | exact wpAny_bind (wpAny_bind (m := Builtin.Tuple.tupleExact _) (wpAny_newObj_type (wpAny_pure (wpAny_pure ⟨_, rfl, wpAny_pure h⟩)) hdrop))
    | exact wpAny_bind (wpAny_bind (m := Builtin.Tuple.tupleExact _) (wpAny_newObj_type (wpAny_pure ⟨_, rfl, wpAny_pure h⟩) hdrop))
theorem slice02 {h : Heap} {gs : Array GenState} {dr : Drawn} {tk n : Nat} {os : OsState} {value slice : Expr} {t : Addr} {a b c d e : Value} {u u2 : Tok} {Q : Value → Shared → Prop}
    (F : Fr h₀ L h m) (N : News h₀ L h news) (ht : (t, tupO [a, b, c, d, e] n) ∈ news)
    (k : ∀ r h', Fr h₀ L h' m → News h₀ L h' ((r, tupO [a, b] 0) :: news) → (∀ p ∈ news, p.1 < r) → Q (.ref r) ⟨h', gs, dr, tk, os⟩)
    (hs : subscripted slice false (.ref t) (.ref h.objs.size) = operate [.ref h.objs.size, .ref t] (getItem (.ref t) (.ref h.objs.size)))
    (hg : ∀ r, letTemporaryGo value (.ref t) r = pure ()) :
    wpAny (model prog w) A (subscriptTail value slice (.ref t) (.ref h.objs.size)) Q E ⟨h.push { cls := .type "slice", data := .fields #[.int 0 u, .int 2 u2, .none] }, gs, dr, tk, os⟩ := by
  have ht' : IsTup (h.push { cls := .type "slice", data := .fields #[.int 0 u, .int 2 u2, .none] }) t #[a, b, c, d, e] := (News.isTup N ht).keeps fun _ _ e => Heap.get?_push_of_some _ e
  refine subscriptTail_ops (s := ⟨h.push { cls := .type "slice", data := .fields #[.int 0 u, .int 2 u2, .none] }, gs, dr, tk, os⟩) ht'.typeIs slot_tuple_getitem.lookup
    (getItem02 ht' (Heap.IsSliceOf.new ..) ?_) hs hg
  have N1 := News.push (F.push { cls := .type "slice", data := .fields #[.int 0 u, .int 2 u2, .none] }) (N.grown fun _ _ e => Heap.get?_push_of_some _ e) { cls := .type "tuple", data := .seq #[a, b] }
  rw [Heap.size_push] at N1
  show Q (.ref (h.push _).objs.size) _
  rw [Heap.size_push]
  exact k _ _ ((F.push _).push _) N1 fun p hp => Nat.lt_succ_of_lt (Heap.lt_size (N p hp).1)
end
end
theorem look20 {prog : Program} {w : World} {A : Around} {E Q : Value → Shared → Prop} {s : Shared} {t u : Tok} (h : wpAny (model prog w) A (binaryOp .Add (.int 1 t) (.int 2 u)) Q E s) : wpAny (model prog w) A (binaryOp .Add (.int 1 t) (.int 2 u)) Q E s := by first | (walk1; fail) | exact h
section
structure GV where
  k1 : Tok
  k2 : Tok
  k3 : Tok
  k4 : Tok
  k5 : Tok
  k6 : Tok
  k7 : Tok
  k8 : Tok
  k9 : Tok
  k10 : Tok
  k11 : Tok
  k12 : Tok
  t4 : Tok
  t6 : Tok
  t7 : Tok
  v1 : Value
  v2 : Value
  v3 : Value
  v9 : Value
  v10 : Value
  v11 : Value
noncomputable abbrev gst (P : Params) (g : GV) : Obj := dictOf [ent P "key" g.k1 g.v1, ent P "path" g.k2 g.v2, ent P "kind" g.k3 g.v3, ent P "width" g.k4 (.int 4 g.t4), ent P "signed" g.k5 (.bool false), ent P "msb" g.k6 (.int 3 g.t6), ent P "lsb" g.k7 (.int 0 g.t7), ent P "first" g.k8 .none, ent P "last" g.k9 g.v9, ent P "init" g.k10 g.v10, ent P "at" g.k11 g.v11, ent P "scalar" g.k12 (.bool false)] 12
local macro_rules | `(tactic| walk_at "exec While Compare cons nil") => `(tactic| k_extra "r66")
local macro_rules | `(tactic| walk_at "exec While Compare") => `(tactic| k_extra "r66")
local macro_rules | `(tactic| walk_at "exec While") => `(tactic| k_extra "r66")
local macro_rules | `(tactic| walk_at "W1") => `(tactic| k_extra "r67")
local macro_rules | `(tactic| walk_at "subscriptTail") => `(tactic| k_extra "r68")
local macro_rules | `(tactic| walk_at "subscriptTail") => `(tactic| k_extra "r69")
local macro_rules | `(tactic| walk_at "subscriptTail") => `(tactic| k_extra "r70")
local macro_rules | `(tactic| walk_at "compareOp In str ref") => `(tactic| k_extra "r71")
set_option maxRecDepth 100000 in
set_option maxHeartbeats 8000000 in
theorem et_id {w : World} {mean : ExcName → Option Value} {mg mb : Str → Option Value} {d : DV} {dd : Addr} {n : Int} {rest : List (Addr × Obj)} {kd ku : Nat}  {c : SV} {G : GV} {D ds S e en sg sl s0 sd : Addr} {oE : Obj} {t1 t2 t3 y1 y2 : Tok} {at_ : Int} {ne_ nsg nsl : Nat}
   (m1 : (S, instObj 1315 ds) ∈ rest) (m2 : (ds, sst w.params c D) ∈ rest) (m3 : (D, instObj 1238 dd) ∈ rest) (me : (e, tupO [.str "id" t1, .int at_ t2, .str "s" t3] ne_) ∈ rest) (men : (en, oE) ∈ rest) (msg : (sg, tupO [.str "sig" y1, .int 0 y2] nsg) ∈ rest) (msl : (sl, listOf #[.ref s0] nsl) ∈ rest) (ms0 : (s0, instObj 1175 sd) ∈ rest) (msd : (sd, gst w.params G) ∈ rest) (hlo : (en == sysModules) = false) (hen : oE.IsDictOf (PySem.strKind PySem.Challenge.rw_pq0479_01.prog w) [(Str.ofString "s", Value.ref sg)]) (h8 : c.v8 = .ref en) (h1 : d.v1 = .ref sl) (hku : 2000 ≤ ku) : DCall w mean mg mb d dd n rest 1053 [.ref S, .ref e] (kd + 10) (ku + 100) (etR 4 false) := by
  intro rest' sub ne dp un gd cn cs a ccd cl outer A₀ base h₀ L m s Q E tn Bl F X N T hk hdp hun ret
  (replace m1 := sub _ m1); (replace m2 := sub _ m2); (replace m3 := sub _ m3); (replace me := sub _ me); (replace men := sub _ men); (replace msg := sub _ msg); (replace msl := sub _ msl); (replace ms0 := sub _ ms0); (replace msd := sub _ msd);
  revert X N F; k_fill; intro F X N
  obtain ⟨ck1, ck2, ck3, ck4, ck5, ck6, ck7, ck8, ck9, cv2, cv3, cv4, cv5, cv6, cv7, cv8, cv9⟩ := c
  obtain ⟨dk1, dk2, dk3, dk4, dk5, dk6, dk7, dk8, dk9, dk10, dk11, dk12, dv1, dv2, dv3, dv4, dv5, dv6, dv7, dv8, dv9, dv10, dv12⟩ := d
  dsimp only at h8 h1 N ret m2
  subst h8 h1
  tb_start; k_steps; all_goals first | exact none | exact ret _ _ _ _ [(_, _)] (by tb_rel) (by tb_rel) (ext1 (by tb_rel) (by tb_rel)) ⟨_, _, _, rfl, rfl⟩
end
section
open Sem (wp)
set_option maxRecDepth 100000
theorem revI : Slot "reversed" "__init__" "object.__init__" :=
  .of (owner := "object") (n := "__init__") (by rw [PySem.typeLookup_type, builtinLookup_eq_fast]; kernel_rfl) (by decide +kernel) (by decide +kernel) (by decide +kernel)
    (by first | exact .inl (by decide +kernel) | exact .inr (by decide +kernel)) (by rw [isSubtype_type]; kernel_rfl)
theorem revIt : Slot "reversed" "__iter__" "reversed.__iter__" :=
  .of (owner := "reversed") (n := "__iter__") (by rw [PySem.typeLookup_type, builtinLookup_eq_fast]; kernel_rfl) (by decide +kernel) (by decide +kernel) (by decide +kernel)
    (by first | exact .inl (by decide +kernel) | exact .inr (by decide +kernel)) (by rw [isSubtype_type]; kernel_rfl)
theorem revNx : Slot "reversed" "__next__" "reversed.__next__" :=
  .of (owner := "reversed") (n := "__next__") (by rw [PySem.typeLookup_type, builtinLookup_eq_fast]; kernel_rfl) (by decide +kernel) (by decide +kernel) (by decide +kernel)
    (by first | exact .inl (by decide +kernel) | exact .inr (by decide +kernel)) (by rw [isSubtype_type]; kernel_rfl)
theorem revEN : entryFor table "reversed.__next__" = some Builtin.«reversed.__next__» := entryFor_of_tree (by kernel_rfl)
theorem revEI : entryFor table "reversed.__iter__" = some Builtin.«dict_keyiterator.__iter__» :=
  entryFor_alias (id' := "dict_keyiterator.__iter__") (by kernel_rfl) (by first | rfl | decide +kernel | (unfold String.splitOn; simp +decide [String.splitOnAux])) (by decide +kernel) (by kernel_rfl)
theorem owner_rev : Manifest.owners.lookup (String.ofList ['d', 'e', 's', 'r', 'e', 'v', 'e', 'r'].reverse) = some Manifest.sig_reversed := by kernel_rfl
theorem revAN (a : Value) : argsOk "reversed.__next__" ⟨[a], []⟩ := by
  unfold argsOk; rw [signature?_of (id := "reversed.__next__") (n := ['_', '_', 't', 'x', 'e', 'n', '_', '_']) (o := ['d', 'e', 's', 'r', 'e', 'v', 'e', 'r']) (by kernel_rfl) owner_rev]; kernel_rfl
theorem revAI (a : Value) : argsOk "reversed.__iter__" ⟨[a], []⟩ := by
  unfold argsOk; rw [signature?_of (id := "reversed.__iter__") (n := ['_', '_', 'r', 'e', 't', 'i', '_', '_']) (o := ['d', 'e', 's', 'r', 'e', 'v', 'e', 'r']) (by kernel_rfl) owner_rev]; kernel_rfl
theorem revCalled : TypeCalled "reversed" "reversed.__new__" "object.__init__" :=
  ⟨by decide +kernel, F.create_reversed, ⟨_, _, F.mro_reversed⟩, F.made_reversed, F.plain_reversed_new, F.sub_reversed_self, revI⟩
theorem tupNoRev : typeLookup (.type "tuple") "__reversed__" = pure none := by rw [PySem.typeLookup_type, builtinLookup_eq_fast]; kernel_rfl
theorem tupNoDict : isSubtype (.type "tuple") (.type "dict") = pure false := by rw [isSubtype_type]; kernel_rfl
section
variable {prog : Program} {w : World} {A : Around} {E : Value → Shared → Prop} {s : Shared}
noncomputable abbrev rvO (t : Addr) : Obj := { cls := .type "reversed", data := .fields #[.ref t, rawInt (-1)] }
theorem rev_new (t : Addr) (n : Nat) : MeetsIn prog w (Builtin.«reversed.__new__» ⟨[.type "reversed", .ref t], []⟩)
    (fun A R s => s.heap.get? t = some { cls := .type "tuple", data := .seq #[] n } ∧ R (.ok (.ret (.ref s.heap.objs.size))) { s with heap := s.heap.push (rvO t), toks := s.toks + 1 + 1 }) :=
  .of_wp fun A R s h => by
    obtain ⟨hl, h⟩ := h
    have ht : IsTup s.heap t #[] := ⟨_, hl, rfl, n, rfl⟩
    unfold Builtin.«reversed.__new__»
    refine wpAny_bind (wpAny_of_eq (newClass_reversed _) ?_)
    try dsimp only
    refine wpAny_bind (wpAny_of_eq (a := ()) (by first | rfl | kernel_rfl) ?_)
    refine wpAny_bind (wpAny_of_eq (a := ()) (by first | rfl | kernel_rfl) ?_)
    try dsimp only
    refine wpAny_bind (wpAny_specialOf ht.typeIs tupNoRev ?_)
    try dsimp only
    refine wpAny_bind ?_
    show wpAny _ _ (isInstance (.ref t) (.type "dict") >>= _) _ _ _
    refine wpAny_bind (wpAny_isInstance (T := "tuple") (b := false) ht.typeIs tupNoDict ?_)
    try dsimp only
    show wpAny _ _ (specialOf (.ref t) "__getitem__" >>= _) _ _ _
    refine wpAny_bind (wpAny_specialOf ht.typeIs slot_tuple_getitem.lookup ?_)
    refine wpAny_pure ?_
    show wpAny _ _ (call (.builtin "len") [.ref t] >>= _) _ _ _
    refine wpAny_bind (len_tuple ht (by decide) ?_)
    show wpAny _ _ (newObj (.type "reversed") (.fields #[.ref t, rawInt (-1)]) >>= _) _ _ _
    exact wpAny_bind (wpAny_newObj_type (wpAny_pure ⟨_, rfl, h⟩))
theorem call_rev {t : Addr} {n : Nat} {Q : Value → Shared → Prop} (hl : s.heap.get? t = some { cls := .type "tuple", data := .seq #[] n })
    (h : Q (.ref s.heap.objs.size) { s with heap := s.heap.push (rvO t), toks := s.toks + 1 + 1 }) : wpAny (model prog w) A (call (.type "reversed") [.ref t]) Q E s :=
  callType_newIn revCalled (by decide) (F.typeCall_reversed_1 _) (F.newCall_reversed_1 _) (fun obj => F.args_object_init_2 obj _) F.entry_reversed_new (rev_new t n) ⟨hl, ⟨_, Heap.get?_push_size _ rfl, rfl⟩, h⟩
theorem pyIter_rev {it t : Addr} {Q : Value → Shared → Prop} (hit : s.heap.get? it = some (rvO t)) (h : Q (.ref it) s) : wpAny (model prog w) A (pyIter (.ref it)) Q E s := by
  have hT : s.TypeIs (.ref it) "reversed" := ⟨_, hit, rfl⟩
  refine wpAny_pyIter_slot hT revIt (wpAny_call_entry revIt hT revEI ?_ (revAI _))
  show wpAny _ _ (ret (.ref it)) _ _ s
  exact wpAny_pure ⟨_, rfl, "reversed", _, hT, revNx.lookup, h⟩
theorem pyNext_rev {it t : Addr} {Q : Option Value → Shared → Prop} (hh : A.handled = none) (hit : s.heap.get? it = some (rvO t))
    (hQ : ∀ h', Heap.ExtBut it s.heap h' → Q none { s with heap := h' }) : wpAny (model prog w) A (pyNext (.ref it)) Q E s := by
  have hT : s.TypeIs (.ref it) "reversed" := ⟨_, hit, rfl⟩
  unfold pyNext
  refine wpAny_bind (wpAny_attempt (wpAny_callSpecial?_slot (name := Str.ofString "__next__") hT revNx (wpAny_call_entry revNx hT revEN ?_ (revAN _))))
  unfold Builtin.«reversed.__next__»
  refine wpAny_bind (wpAny_of_eq (a := (Value.ref it, [])) rfl ?_)
  try dsimp only
  refine wpAny_bind (wpAny_field hit rfl (x := .ref t) rfl ?_)
  refine wpAny_bind (wpAny_field hit rfl (x := rawInt (-1)) rfl ?_)
  show wpAny _ _ (if (-1 : Int) < 0 then _ else _) _ _ s
  rw [if_pos (by decide)]
  refine wpAny_bind (wpAny_rule ?_)
  show wpAny _ _ ((setField (.ref it) 1 (rawInt (-1)) >>= fun _ => setField (.ref it) 0 .none) >>= _) _ _ _
  have g1 := Heap.get?_update_self (Obj.mapFields (·.setIfInBounds 1 (rawInt (-1)))) hit rfl
  refine wpAny_bind (wpAny_bind (wpAny_setField hit rfl (by show (1:Nat) < 2; decide) (wpAny_setField g1 rfl (by simp) ?_)))
  have eb : Heap.ExtBut it s.heap ((s.heap.update it (Obj.mapFields (·.setIfInBounds 1 (rawInt (-1))))).update it (Obj.mapFields (·.setIfInBounds 0 Value.none))) := fun b o hb q => by
    rw [Heap.get?_update_other _ _ (Ne.symm hb), Heap.get?_update_other _ _ (Ne.symm hb)]; exact q
  first
  | show wpAny _ _ (newExc (.type "StopIteration") [] >>= _) _ _ _
  | (refine wpAny_bind ?_; show wpAny _ _ (newExc (.type "StopIteration") [] >>= _) _ _ _)
  refine wpAny_bind ?_
  simp only [newExc, newTuple]
  refine wpAny_bind (wpAny_newObj_type ?_ (by size_fits))
  refine wpAny_bind (m := firstArgMember _ _) (wpAny_of_eq (a := Value.none) (by first | rfl | (simp only [firstArgMember]; rfl)) ?_)
  refine wpAny_newObj_type ?_ (by size_fits)
  simp only [raiseNew]
  refine wpAny_bind (wpAny_handled ?_)
  first | rw [show A.in1.handled = none from hh] | rw [hh]
  refine wpAny_bind (wpAny_pure (wpAny_throw ?_))
  refine wpAny_bind (wpAny_isInstance (T := "StopIteration") (b := true) ⟨_, Heap.get?_push_size _ rfl, rfl⟩ isSubtype_stop ?_)
  exact wpAny_pure (hQ _ ((eb.push _).push _))
end
section
variable {prog : Program} {w : World} {A : Around} {E : Value → Shared → Prop} {s : Shared} {env : Env} {h₀ : Heap} {x : Str} {body : List Stmt} {Q : Flow → Shared → Prop} {L : Addr} {m : Str → Option Value} {news : List (Addr × Obj)}
theorem call_revN {t : Addr} {n : Nat} {Q : Value → Shared → Prop} (F : Fr h₀ L s.heap m) (N : News h₀ L s.heap news) (hm : (t, tupO [] n) ∈ news)
    (k : ∀ r h', Fr h₀ L h' m → News h₀ L h' ((r, rvO t) :: news) → (∀ p ∈ news, p.1 < r) → Q (.ref r) { s with heap := h', toks := s.toks + 1 + 1 }) : wpAny (model prog w) A (call (.type "reversed") [.ref t]) Q E s :=
  call_rev (N _ hm).1 (k _ _ (F.push _) (News.push F N _) fun p hp => Heap.lt_size (N p hp).1)
theorem OneAt.rev0 {px : Pos} {t r : Addr} {news' : List (Addr × Obj)} (hh : A.handled = none) (F : Fr h₀ env.locals s.heap m) (N : News h₀ env.locals s.heap news) (hm : (r, rvO t) ∈ news) (D : Del r news news')
    (k : ∀ h', Fr h₀ env.locals h' m → News h₀ env.locals h' news' → Q .next { s with heap := h' }) : OneAt prog w A h₀ env x px body Q E (.ref r) s := by
  have hr := N _ hm
  refine pyIter_rev hr.1 (codeAny_forLoop (I := fun k s' => s' = s) ?_ 0 rfl)
  rintro k s' rfl
  refine pyNext_rev hh hr.1 fun h' he => ?_
  show wpAny _ _ (execs [] env) _ _ _
  have r0 : h₀.get? r = none := hr.2.2
  exact wpAny_pure (k _ ⟨F.ns.at' fun o e => he _ o (Ne.symm hr.2.1) e, fun b o e => he b o (fun z => by rw [z, r0] at e; cases e) (F.keep b o e), F.above⟩ fun p hp => ⟨he _ _ (D.sub p hp).2 (N p (D.sub p hp).1).1, (N p (D.sub p hp).1).2⟩)
end
end
theorem look21 {prog : Program} {w : World} {A : Around} {E Q : Value → Shared → Prop} {s : Shared} {t u : Tok} (h : wpAny (model prog w) A (binaryOp .Add (.int 1 t) (.int 2 u)) Q E s) : wpAny (model prog w) A (binaryOp .Add (.int 1 t) (.int 2 u)) Q E s := by first | (walk1; fail) | exact h
section
local macro_rules | `(tactic| walk_at "call type:reversed") => `(tactic| k_extra "r72")
local macro_rules | `(tactic| walk_at "OneAt") => `(tactic| k_extra "r73")
set_option maxRecDepth 100000 in
set_option maxHeartbeats 8000000 in
theorem subexpr_c {w : World} {mean : ExcName → Option Value} {mg mb : Str → Option Value}  {v : Addr} {t0 t1 t2 : Tok} {nv : Nat}
   {dp un : Nat} {gd : Option (List Code)} {cn : Str} {cs : Scope} {a : Addr} {ccd : Value} {cl : List (Str × Addr)} {outer : List Env} {A₀ : Around} {base h₀ : Heap} {L : Addr} {m : Str → Option Value} {s : Shared} {news : List (Addr × Obj)} {Q E : Value → Shared → Prop}
   (Bl : Below A₀ base outer h₀) (F : Fr h₀ L s.heap m) (X : (K w.params).In h₀) (N : News h₀ L s.heap news) (T : Top q loose mean mg mb h₀) (hk : cs.kind = .function) (hdp : dp + 4 < recursionLimit) (hun : un + 300 < cLine)
   (mv : (v, tupO [.str "sig" t0, .int 4 t1, .int 0 t2] nv) ∈ news)
   (ret : ∀ r h' tk n, Fr h₀ L h' m → News h₀ L h' ((r, listOf #[.ref v] n) :: news) → (∀ p ∈ news, p.1 < r) → Q (.ref r) { s with heap := h', toks := tk }) :
   wpAny (model PySem.Challenge.rw_pq0479_01.prog w) (ktrTop dp un gd cn cs L a ccd cl outer) (call (.ref 742) [.ref v]) Q E s := by
  revert X N F; k_fill; intro F X N
  tb_start; k_steps; all_goals first | exact ret _ _ _ _ (by tb_rel) (by tb_rel) (by tb_rel)
local macro_rules | `(tactic| walk_at "call ref") => `(tactic| k_extra "r74")
set_option maxRecDepth 100000 in
set_option maxHeartbeats 8000000 in
theorem isconst_c {w : World} {mean : ExcName → Option Value} {mg mb : Str → Option Value}  {v : Addr} {t0 t1 t2 : Tok} {nv : Nat} {dv : Value}
   {dp un : Nat} {gd : Option (List Code)} {cn : Str} {cs : Scope} {a : Addr} {ccd : Value} {cl : List (Str × Addr)} {outer : List Env} {A₀ : Around} {base h₀ : Heap} {L : Addr} {m : Str → Option Value} {s : Shared} {news : List (Addr × Obj)} {Q E : Value → Shared → Prop}
   (Bl : Below A₀ base outer h₀) (F : Fr h₀ L s.heap m) (X : (K w.params).In h₀) (N : News h₀ L s.heap news) (T : Top q loose mean mg mb h₀) (hk : cs.kind = .function) (hdp : dp + 6 < recursionLimit) (hun : un + 500 < cLine)
   (mv : (v, tupO [.str "sig" t0, .int 4 t1, .int 0 t2] nv) ∈ news)
   (ret : ∀ h' tk, Fr h₀ L h' m → News h₀ L h' news → Q (.bool false) { s with heap := h', toks := tk }) :
   wpAny (model PySem.Challenge.rw_pq0479_01.prog w) (ktrTop dp un gd cn cs L a ccd cl outer) (call (.ref 934) [dv, .ref v]) Q E s := by
  revert X N F; k_fill; intro F X N
  tb_start; k_steps; all_goals first | exact ret _ _ (by tb_rel) (by tb_rel)
end
theorem look22 {prog : Program} {w : World} {A : Around} {E Q : Value → Shared → Prop} {s : Shared} {t u : Tok} (h : wpAny (model prog w) A (binaryOp .Add (.int 1 t) (.int 2 u)) Q E s) : wpAny (model prog w) A (binaryOp .Add (.int 1 t) (.int 2 u)) Q E s := by first | (walk1; fail) | exact h
section
noncomputable def sigR (ext : List (Addr × Obj)) (r : Value) : Prop := ∃ a t0 t1 t2 n, ext = [(a, tupO [.str "sig" t0, .int 4 t1, .int 0 t2] n)] ∧ r = .ref a
noncomputable def sigSR (ext : List (Addr × Obj)) (r : Value) : Prop := ∃ a c t0 t1 t2 n n2, ext = [(a, tupO [.ref c, .bool false] n), (c, tupO [.str "sig" t0, .int 4 t1, .int 0 t2] n2)] ∧ r = .ref a ∧ c < a
noncomputable def BCallS (w : World) (mean : ExcName → Option Value) (mg mb : Str → Option Value) (d : DV) (dd : Addr) (n : Int) (rest : List (Addr × Obj)) (S e : Addr) (kd ku : Nat) : Prop :=
  ∀ tw, DCall w mean mg mb d dd n rest 1074 [.ref S, .ref e, .int 4 tw, .bool false] kd ku sigR
local macro_rules | `(tactic| walk_at "exec While Compare cons nil") => `(tactic| k_extra "r66")
local macro_rules | `(tactic| walk_at "exec While Compare") => `(tactic| k_extra "r66")
local macro_rules | `(tactic| walk_at "exec While") => `(tactic| k_extra "r66")
local macro_rules | `(tactic| walk_at "W1") => `(tactic| k_extra "r67")
local macro_rules | `(tactic| walk_at "subscriptTail") => `(tactic| k_extra "r68")
local macro_rules | `(tactic| walk_at "subscriptTail") => `(tactic| k_extra "r69")
local macro_rules | `(tactic| walk_at "subscriptTail") => `(tactic| k_extra "r70")
local macro_rules | `(tactic| walk_at "compareOp In str ref") => `(tactic| k_extra "r71")
set_option maxRecDepth 100000 in
set_option maxHeartbeats 8000000 in
theorem build_id {w : World} {mean : ExcName → Option Value} {mg mb : Str → Option Value} {d : DV} {dd : Addr} {n : Int} {rest : List (Addr × Obj)} {kd ku : Nat}  {c : SV} {G : GV} {D ds S e en sg sl s0 sd : Addr} {oE : Obj} {t1 t2 t3 y1 y2 : Tok} {at_ : Int} {ne_ nsg nsl : Nat} {tw : Tok}
   (m1 : (S, instObj 1315 ds) ∈ rest) (m2 : (ds, sst w.params c D) ∈ rest) (m3 : (D, instObj 1238 dd) ∈ rest) (me : (e, tupO [.str "id" t1, .int at_ t2, .str "s" t3] ne_) ∈ rest) (men : (en, oE) ∈ rest) (msg : (sg, tupO [.str "sig" y1, .int 0 y2] nsg) ∈ rest) (msl : (sl, listOf #[.ref s0] nsl) ∈ rest) (ms0 : (s0, instObj 1175 sd) ∈ rest) (msd : (sd, gst w.params G) ∈ rest) (hlo : (en == sysModules) = false) (hen : oE.IsDictOf (PySem.strKind PySem.Challenge.rw_pq0479_01.prog w) [(Str.ofString "s", Value.ref sg)]) (h8 : c.v8 = .ref en) (h1 : d.v1 = .ref sl) (hku : 2000 ≤ ku) : DCall w mean mg mb d dd n rest 1074 [.ref S, .ref e, .int 4 tw, .bool false] (kd + 10) (ku + 100) (sigR) := by
  intro rest' sub ne dp un gd cn cs a ccd cl outer A₀ base h₀ L m s Q E tn Bl F X N T hk hdp hun ret
  (replace m1 := sub _ m1); (replace m2 := sub _ m2); (replace m3 := sub _ m3); (replace me := sub _ me); (replace men := sub _ men); (replace msg := sub _ msg); (replace msl := sub _ msl); (replace ms0 := sub _ ms0); (replace msd := sub _ msd);
  revert X N F; k_fill; intro F X N
  obtain ⟨ck1, ck2, ck3, ck4, ck5, ck6, ck7, ck8, ck9, cv2, cv3, cv4, cv5, cv6, cv7, cv8, cv9⟩ := c
  obtain ⟨dk1, dk2, dk3, dk4, dk5, dk6, dk7, dk8, dk9, dk10, dk11, dk12, dv1, dv2, dv3, dv4, dv5, dv6, dv7, dv8, dv9, dv10, dv12⟩ := d
  dsimp only at h8 h1 N ret m2
  subst h8 h1
  tb_start; k_steps; all_goals first | exact none | exact ret _ _ _ _ [(_, _)] (by tb_rel) (by tb_rel) (ext1 (by tb_rel) (by tb_rel)) ⟨_, _, _, _, _, rfl, rfl⟩
end
theorem look23 {prog : Program} {w : World} {A : Around} {E Q : Value → Shared → Prop} {s : Shared} {t u : Tok} (h : wpAny (model prog w) A (binaryOp .Add (.int 1 t) (.int 2 u)) Q E s) : wpAny (model prog w) A (binaryOp .Add (.int 1 t) (.int 2 u)) Q E s := by first | (walk1; fail) | exact h
section
local macro_rules | `(tactic| walk_at "call ref") => `(tactic| k_extra "r48")
local macro_rules | `(tactic| walk_at "call ref") => `(tactic| k_extra "r75")
set_option maxRecDepth 100000 in
set_option maxHeartbeats 8000000 in
theorem self_id {w : World} {mean : ExcName → Option Value} {mg mb : Str → Option Value} {d : DV} {dd : Addr} {n : Int} {rest : List (Addr × Obj)} {kd ku : Nat}  {S e : Addr}
    (C0 : DCall w mean mg mb d dd n rest 1053 [.ref S, .ref e] kd ku (etR 4 false)) (C1 : BCallS w mean mg mb d dd n rest S e kd ku) (hku : 2000 ≤ ku) : DCall w mean mg mb d dd n rest 1081 [.ref S, .ref e] (kd + 1) (ku + 40) (sigSR) := by
  intro rest' sub ne dp un gd cn cs a ccd cl outer A₀ base h₀ L m s Q E tn Bl F X N T hk hdp hun ret
  
  revert X N F; k_fill; intro F X N
  tb_start; k_steps; all_goals first | exact ret _ _ _ _ [(_, _), (_, _)] (by tb_rel) (by tb_rel) (ext2 (by tb_rel) (by tb_rel) (by tb_rel)) ⟨_, _, _, _, _, _, _, rfl, rfl, by tb_rel⟩
local macro_rules | `(tactic| walk_at "call ref") => `(tactic| k_extra "r76")
local macro_rules | `(tactic| walk_at "call ref") => `(tactic| k_extra "r56")
local macro_rules | `(tactic| walk_at "call ref") => `(tactic| k_extra "r77")
set_option maxRecDepth 100000 in
set_option maxHeartbeats 8000000 in
theorem constx_id {w : World} {mean : ExcName → Option Value} {mg mb : Str → Option Value} {d : DV} {dd : Addr} {n : Int} {rest : List (Addr × Obj)} {kd ku : Nat} {xk xd : Str} {xa : Int}  {c : SV} {D ds S e : Addr} {t1 : Tok} {at_ : Int} {v0 v2 : Value} {ne_ : Nat}
   (m1 : (S, instObj 1315 ds) ∈ rest) (m2 : (ds, sst w.params c D) ∈ rest) (m3 : (D, instObj 1238 dd) ∈ rest) (me : (e, tupO [v0, .int at_ t1, v2] ne_) ∈ rest) (C0 : DCall w mean mg mb d dd n rest 1081 [.ref S, .ref e] kd ku (sigSR))  (hku : 2000 ≤ ku) : XCall w mean mg mb d dd n rest 1102 [.ref S, .ref e] (kd + 12) (ku + 40) "not_constant" at_ "" := by
  intro rest' sub ne dp un gd cn cs a ccd outer A₀ base h₀ L m s Q E tn Bl F X N T hk hdp hun XB TB ret
  (replace m1 := sub _ m1); (replace m2 := sub _ m2); (replace m3 := sub _ m3); (replace me := sub _ me);
  revert X N F; k_fill; intro F X N
  tb_start; k_steps; all_goals first | exact ret _ _ _ _ _ _ _ _ _ _ _ _ (by assumption) (by first | assumption | exact RaisedD.sub (by assumption) (by ktr_rel)) (by assumption) (by first | assumption | (refine neN ?_; omega))
end
theorem look24 {prog : Program} {w : World} {A : Around} {E Q : Value → Shared → Prop} {s : Shared} {t u : Tok} (h : wpAny (model prog w) A (binaryOp .Add (.int 1 t) (.int 2 u)) Q E s) : wpAny (model prog w) A (binaryOp .Add (.int 1 t) (.int 2 u)) Q E s := by first | (walk1; fail) | exact h
section
local macro_rules | `(tactic| walk_at "exec While Compare cons nil") => `(tactic| k_extra "r66")
local macro_rules | `(tactic| walk_at "exec While Compare") => `(tactic| k_extra "r66")
local macro_rules | `(tactic| walk_at "exec While") => `(tactic| k_extra "r66")
local macro_rules | `(tactic| walk_at "W1") => `(tactic| k_extra "r67")
local macro_rules | `(tactic| walk_at "subscriptTail") => `(tactic| k_extra "r68")
local macro_rules | `(tactic| walk_at "subscriptTail") => `(tactic| k_extra "r69")
local macro_rules | `(tactic| walk_at "subscriptTail") => `(tactic| k_extra "r70")
local macro_rules | `(tactic| walk_at "compareOp In str ref") => `(tactic| k_extra "r71")
local macro_rules | `(tactic| walk_at "call ref") => `(tactic| k_extra "r78")
set_option maxRecDepth 100000 in
set_option maxHeartbeats 8000000 in
theorem etx_id {w : World} {mean : ExcName → Option Value} {mg mb : Str → Option Value} {d : DV} {dd : Addr} {n : Int} {rest : List (Addr × Obj)} {kd ku : Nat} {xk xd : Str} {xa : Int}  {c : SV} {D ds S e en sg : Addr} {oE : Obj} {t1 t2 t3 tk4 : Tok} {at_ : Int} {ne_ : Nat}
   (m1 : (S, instObj 1315 ds) ∈ rest) (m2 : (ds, sst w.params c D) ∈ rest) (m3 : (D, instObj 1238 dd) ∈ rest) (me : (e, tupO [.str "id" t1, .int at_ t2, .str "t" t3] ne_) ∈ rest) (men : (en, oE) ∈ rest) (hlo : (en == sysModules) = false) (hen : oE.IsDictOf (PySem.strKind PySem.Challenge.rw_pq0479_01.prog w) [(Str.ofString "s", Value.ref sg)]) (h8 : c.v8 = .ref en) (h4 : c.v4 = .str "module" tk4)  (hku : 2000 ≤ ku) : XCall w mean mg mb d dd n rest 1053 [.ref S, .ref e] (kd + 20) (ku + 100) "undeclared" at_ "t" := by
  intro rest' sub ne dp un gd cn cs a ccd outer A₀ base h₀ L m s Q E tn Bl F X N T hk hdp hun XB TB ret
  (replace m1 := sub _ m1); (replace m2 := sub _ m2); (replace m3 := sub _ m3); (replace me := sub _ me); (replace men := sub _ men);
  revert X N F; k_fill; intro F X N
  obtain ⟨ck1, ck2, ck3, ck4, ck5, ck6, ck7, ck8, ck9, cv2, cv3, cv4, cv5, cv6, cv7, cv8, cv9⟩ := c
  obtain ⟨dk1, dk2, dk3, dk4, dk5, dk6, dk7, dk8, dk9, dk10, dk11, dk12, dv1, dv2, dv3, dv4, dv5, dv6, dv7, dv8, dv9, dv10, dv12⟩ := d
  dsimp only at h8 h4 N ret m2
  subst h8 h4
  tb_start; k_steps; all_goals first | exact ret _ _ _ _ _ _ _ _ _ _ _ _ (by assumption) (by first | assumption | exact RaisedD.sub (by assumption) (by ktr_rel)) (by assumption) (by first | assumption | (refine neN ?_; omega))
end
section
set_option maxRecDepth 100000
section
variable {prog : Program} {w : World} {A₀ : Around} {E : Value → Shared → Prop} {s' : Shared} {base g G : Heap} {outer : List Env} {L a e x : Addr} {m : Str → Option Value} {name : Str} {scope : Scope} {cd : Value} {news : List (Addr × Obj)}
  {p : Program} {loose : List Str} {mean : ExcName → Option Value} {mg mb : Str → Option Value} {Q : Flow → Shared → Prop} {n xn : Str} {b₀ : Stmt} {suite : List Stmt} {pos np : Pos} {rest : List ExceptHandler}
theorem caught_D (R : RaisedD base G (envOf name scope L a cd :: outer) e x news s'.heap) (F : Fr g L G m) (K' : Below A₀ base outer g) (hsm : G.UpToSlots s'.heap) (XB : (K w.params).In base) (TB : Top p loose mean mg mb base)
    (ex : nsIn (K w.params) mainGlobals xn = some (some (.ref 52)))
    (k : ∀ h' g' oe tk, KtsTurn (outer.filterMap (·.frame)) g g' → Fr g' L h' (fun y => if y = n then some (.ref e) else m y) → News g' L h' ((e, oe) :: news) → oe.cls = .ref 52 → oe.dict = some x → notCls oe = true → (∀ q ∈ news, q.1 ≠ e) → Below A₀ base outer g' → (K w.params).In g' → Top p loose mean mg mb g' →
      wpAny (model prog w) ((A₀.deeper (envOf name scope L a cd)).mark (some (.ref e))) (execs (b₀ :: suite) (envOf name scope L a cd))
        (fun f s₄ => wpAny (model prog w) (A₀.deeper (envOf name scope L a cd)) (do bindName (envOf name scope L a cd) n .none; unbindBehindTheSuite (envOf name scope L a cd) n pos) (fun _ s₅ => Q f s₅) E s₄)
        (AsSuiteRaised (model prog w) ((A₀.deeper (envOf name scope L a cd)).mark (some (.ref e))) (envOf name scope L a cd) n pos (notedBy (model prog w) ((A₀.deeper (envOf name scope L a cd)).mark (some (.ref e))) (envOf name scope L a cd) (cameBackBy (model prog w) (A₀.deeper (envOf name scope L a cd)) (envOf name scope L a cd) E)))
        { s' with heap := h', toks := tk })
    (hk : scope.kind = .function := by rfl) (hlo : (envOf name scope L a cd).kindOf n = some .local := by rfl) (hx : (envOf name scope L a cd).kindOf xn = some .globalImplicit := by rfl) (hd : (xn == ("__debug__" : Str)) = false := by decide) :
    wpAny (model prog w) (A₀.deeper (envOf name scope L a cd)) (noteFrame (.ref e) (envOf name scope L a cd))
      (fun _ s₂ => wpAny (model prog w) (A₀.deeper (envOf name scope L a cd)) (setFlight (.ref e) none) (fun _ s₃ =>
        wpAny (model prog w) (A₀.deeper (envOf name scope L a cd)) (handleBy (.ref e) (envOf name scope L a cd) (.ExceptHandler (some (.Name xn np)) (some n) (b₀ :: suite) pos :: rest)) Q E s₃) E s₂) E s' := by
  obtain ⟨⟨B, a0, hB, hBG, hl, hfl⟩, hdx⟩ := R
  have hL : B.get? L = none := by
    obtain ⟨_, ⟨L', _, hf, hn', _⟩, _⟩ := hfl.2.2.1
    obtain rfl : L = L' := Option.some.inj hf
    exact hn'
  have n1 := wpAny_looks_onW (M := model prog w) (E := E) (Q := fun _ s'' => ∃ h', s'' = { s' with heap := h' } ∧ Heap.HeldW B (envOf name scope L a cd :: outer) e (.ref 52) a0 L h' ∧ s'.heap.UpToSlots h') (Around.frames_deeper K'.stack) rfl hfl fun h₄ hheld₄ hsm₄ => ⟨h₄, rfl, hheld₄, hsm₄⟩
  refine wpAny_mono (dk_any (dk_note _ _) hdx n1) (fun _ s₁ hh => ?_) fun _ _ z => z.1
  obtain ⟨⟨h₄, rfl, hheld₄, hsm₄⟩, hdx₄⟩ := hh
  have n2 := wpAny_landsW (M := model prog w) (A := A₀.deeper (envOf name scope L a cd)) (E := E) (s := { s' with heap := h₄ }) (Q := fun _ s'' => ∃ h', s'' = { s' with heap := h' } ∧ Heap.FlyingW B (envOf name scope L a cd :: outer) e (.ref 52) a0 h' ∧ h₄.UpToSlots h') hheld₄ fun h₅ hh hs => ⟨h₅, rfl, hh, hs⟩
  refine wpAny_mono (dk_any (dk_setFlight _ _) hdx₄ n2) (fun _ s₁ hh => ?_) fun _ _ z => z.1
  obtain ⟨⟨h₅, rfl, hheld, hsm₅'⟩, hdx₅⟩ := hh
  have hsm₅ := hsm₄.trans hsm₅'
  obtain ⟨g₅, T₅, F₅, K₅⟩ := kts_ground K' F hBG hheld.1 (hsm.trans hsm₅)
  have X₅ : (K w.params).In g₅ := XB.keeps K₅.stays
  have P₅ : TopRead p loose mg mb g₅ := topRead_of (TB.keeps K₅.stays)
  obtain ⟨ob, hob, hobc⟩ := hheld.there
  have hC : g₅.get? 52 = some (excClassObj "DesignError" "DesignError" 52 51 [.ref 39] (.ref 39 :: bmX) true [] [] false none none (some (.ref 43)) none (some (.str "DesignError" 232)) (some (.str "DesignError" 240)) (some (.bool true)) "Exception.__new__") := X₅ 52 _ rfl
  have hC₅ := F₅.keep _ _ hC
  refine wpAny_handleBy_cons (codeAny_handlers_test (name_K F₅ X₅ P₅ ex ?_ hk hx hd)) (by intro q; cases q)
  refine wpAny_excMatches_sub_self hC₅ hob hobc (by decide +kernel) (codeAny_handlers_suite_as ?_)
  have n3 := fun (A' : Around) (E' : Value → Shared → Prop) => lands_againW (M := model prog w) (A := A') (E := E') (s := { s' with heap := h₅ }) (Q := fun _ s'' => ∃ h', s'' = { s' with heap := h' } ∧ Heap.FlyingW B (envOf name scope L a cd :: outer) e (.ref 52) a0 h' ∧ h₅.UpToSlots h') hheld fun h₆ hh hs => ⟨h₆, rfl, hh, hs⟩
  refine wpAny_mono (dk_any (dk_setFlight _ _) hdx₅ (n3 _ _)) (fun _ s₁ hh => ?_) fun _ _ z => z.1
  obtain ⟨⟨h₆, rfl, hfl₆, hsm₆⟩, hdx₆⟩ := hh
  obtain ⟨g₆, T₆, F₆, K₆⟩ := kts_ground K' F hBG hfl₆.1 ((hsm.trans hsm₅).trans hsm₆)
  obtain ⟨oe, ws, hoe, hoec, hoed, hoe0⟩ := hfl₆.first
  have ne₆ : g₆.get? e = none := T₆.none_ _ (kts_fresh F hBG hfl₆.2.1 fun o ho m => by
    obtain ⟨_, o', ho', hd⟩ := K'.frames.mem m
    rw [ho] at ho'
    cases ho'
    obtain ⟨sl, hs⟩ := ((hsm.trans hsm₅).trans hsm₆) _ _ (F.keep _ _ ho) hd
    rw [hoe] at hs
    cases hs
    exact hd _ hoed)
  have eL : e ≠ L := fun z => by
    obtain ⟨oL, es, ep, hoL, hLd, _⟩ := F₆.ns
    rw [← z, hoe] at hoL; cases hoL; rw [hoed] at hLd; cases hLd
  have N₆ : News g₆ L h₆ ((e, oe) :: news) := fun q hq => by
    rcases List.mem_cons.mp hq with rfl | hq
    · exact ⟨hoe, eL, ne₆⟩
    · exact ⟨hfl₆.1 _ _ (hl q hq).1, (fun z => by have := (hl q hq).1; rw [z, hL] at this; cases this), T₆.none_ _ (kts_none F.keep (hl q hq).2.1)⟩
  have X₆ : (K w.params).In g₆ := XB.keeps K₆.stays
  have P₆ : Top p loose mean mg mb g₆ := TB.keeps K₆.stays
  have nE : ∀ q ∈ news, q.1 ≠ e := fun q hq z => by have := (hl q hq).1; rw [z, hfl₆.2.1] at this; cases this
  refine stN F₆ N₆ (fun h₇ F₇ N₇ => ?_) hk hlo
  exact k h₇ g₆ oe _ T₆ F₇ N₇ hoec (hdx₆.get hoe) (by unfold notCls; rw [hoed]) nE K₆ X₆ P₆
end
end
section
open Builtin Builtin.ObjectAttr
set_option maxRecDepth 100000
theorem de_ga {P : Params} : findIn (K P) (.ref 52) "__getattribute__" = some (some (.builtin "BaseException.__getattribute__")) := by
  have hq : PySem.Challenge.rw_pq0479_01 = PySem.Challenge.rw_pq0479_01 := rfl
  revert hq; k_fill; intro hq; show findIn _ _ _ = _; k_is
theorem de_base {P : Params} : subIn (K P) (.ref 52) (.type "BaseException") = some true := by
  have hq : PySem.Challenge.rw_pq0479_01 = PySem.Challenge.rw_pq0479_01 := rfl
  revert hq; k_fill; intro hq; show subIn _ _ _ = _; k_is
section
variable {prog : Program} {w : World} {A : Around} {E : Value → Shared → Prop} {s : Shared}
theorem exc_get {e : Addr} {ox : Obj} {od : Option Obj} {name : Str} {v : Value} {expr : Bool} {Q : Value → Shared → Prop} (X : (K w.params).In s.heap) (I : InstAt s.heap e ox 52 od)
    (hf : findObj (K w.params) 52 od name = some (.value v)) (hh : handedIn v = true) (h : Q v { s with toks := s.toks + 1 }) : wpAny (model prog w) A (getAttr (.ref e) name expr) Q E s := by
  have S : Slot "Exception" "__getattribute__" "BaseException.__getattribute__" := PySem.F.attr_Exception.ga
  have ht := I.type (M := model prog w)
  have L1 := looks_find (M := model prog w) X I hf
  refine wpAny_bind (wpAny_mkText (wpAny_holding (wpAny_bind (ht _ _ _ _ (fun _ _ e => e) (wpAny_bind (looks_findIn X de_ga _ _ _ _ (fun _ _ e => e) ?_))))))
  dsimp only
  rw [show (onTheHeap (Value.ref 52) && Value.builtin "BaseException.__getattribute__" == Value.builtin "object.__getattribute__") = false from by rw [show (Value.builtin "BaseException.__getattribute__" == Value.builtin "object.__getattribute__") = false from by decide +kernel, Bool.and_false], if_neg (by decide)]
  refine wpAny_bind ((looks_findIn X de_getattr) _ _ _ _ (fun _ _ e => e) (wpAny_bind (wpAny_attempt (wpAny_holding ?_))))
  unfold callGetattribute
  rw [show (expr && onTheHeap (Value.builtin "BaseException.__getattribute__")) = false from Bool.and_false _, if_neg (by decide)]
  unfold boundAndCalled
  rw [S.bind]
  refine wpAny_bind (wpAny_pure ?_)
  show wpAny _ _ (call (.builtin "BaseException.__getattribute__") [.ref e, .str name s.toks]) _ _ _
  refine wpAny_call ?_
  refine codeAny_call_builtin S.plain F.entry_bexc_ga ?_
  refine @check_slot (model prog w) _ _ { s with toks := s.toks + 1 } "BaseException.__getattribute__" "BaseException" "__getattribute__" (.ref e) [.str name s.toks] [] _ (by decide +kernel) (by decide +kernel) (ht.andThen (looks_subIn X de_base)) (F.args_bexc_ga (.ref e) (.str name s.toks)) ?_
  unfold Builtin.«object.__getattribute__»
  obtain ⟨hh', g, d, t, os⟩ := s
  refine wpAny_bind (wpAny_pure (wpAny_bind (wpAny_pure (wpAny_bind (ht.at (wpAny_bind (L1.at ?_)))))))
  refine wpAny_pure ?_
  show wpAny _ _ (handedOut v) _ _ _
  rw [handedOut_of hh]; exact wpAny_pure h
end
end
section
set_option maxRecDepth 100000
section
variable {prog : Program} {w : World} {A₀ A : Around} {s : Shared} {base h₀ : Heap} {L a : Addr} {m : Str → Option Value} {cn : Str} {cs : Scope} {ccd : Value} {news : List (Addr × Obj)} {K : Frag} {p : Program} {loose : List Str} {mean : ExcName → Option Value} {mg mb : Str → Option Value}
    {R : Result → Shared → Prop} {name qual : Str} {params params' : Arguments} {body body' : List Stmt} {scope scope' : Scope} {dV kV doc pm cdv ct oc : Value} {an od : Option Addr} {osl : Array (Option Value)} {f : Addr} {args : Args} {binds : List (Str × Value)}
theorem code_defS0X (B : Below A₀ base [] h₀) (F : Fr h₀ L s.heap m) (X₀ : K.In h₀) (N : News h₀ L s.heap news) (T : Top p loose mean mg mb h₀) (hA : A.frames = some [envOf cn cs L a ccd])
    (ho : K.lookup f = some ⟨oc, od, .func (fnOf name qual params' body' scope' dV kV doc pm an cdv ct), osl⟩) (e1 : params' = params) (e2 : body' = body) (e3 : scope' = scope) (hcd : codeIn K cdv qual = true) (hroom : A.depth < recursionLimit)
    (hbind : BindsTo s (fnOf name qual params body scope dV kV doc pm an cdv ct) args binds) (hloc : ∀ y ∈ binds, scope.names.lookup y.1 = some .local)
    (h : ∀ g L' h₁, Fr h₀ L g m → Fr g L' h₁ (fun y => binds.reverse.lookup y) → News g L' h₁ news → Below A base [envOf cn cs L a ccd] g → K.In g → Top p loose mean mg mb g →
      wpAny (model prog w) (A.deeper (envOf qual scope L' f cdv)) (execs body (envOf qual scope L' f cdv))
        (fun fl s' => LeaveS0 ([envOf cn cs L a ccd].filterMap (·.frame)) h₀ L m g R (match fl with | .ret v => v | _ => .none) s')
        (fun e s' => wpAny (model prog w) (A.deeper (envOf qual scope L' f cdv)) (leaving (envOf qual scope L' f cdv) e) (fun _ s'' => R (.error e) s'') (fun e' s'' => R (.error e') s'') s')
        { s with heap := h₁, toks := s.toks + binds.length })
    (hck : cs.kind = .function) (hco : scope.isCoroutine = false) (hgen : scope.isGenerator = false) (hk : scope.kind = .function)
    (hcell : ∀ x ∈ scope.names, x.2 ≠ .cell) : codeAny (model prog w) A (.call (.ref f) args) R s := by
  subst e1 e2 e3
  exact code_defS0 B F X₀ N T hA ho hcd hroom hbind hloc (fun g L' h₁ a1 a2 a3 a4 a5 a6 _ => h g L' h₁ a1 a2 a3 a4 a5 a6) hck hco hgen hk hcell
end
section
variable {prog : Program} {w : World} {A : Around} {E : Value → Shared → Prop} {s : Shared} {h₀ : Heap} {L e x : Addr} {m : Str → Option Value} {news : List (Addr × Obj)}
theorem exc_read {oe : Obj} {es : List DictEntry} {n : Nat} {name : Str} {v : Value} {expr : Bool} {attr : Option Value} {Q : Value → Shared → Prop} (F : Fr h₀ L s.heap m) (X : (K w.params).In h₀) (N : News h₀ L s.heap news) (m1 : (e, oe) ∈ news) (m2 : (x, dictOf es n) ∈ news) (hc : oe.cls = .ref 52) (hd : oe.dict = some x) (hn : notCls oe = true)
    (hh : hasDictIn (K w.params) 52 = true) (ha : findIn (K w.params) (.ref 52) name = some attr) (hg : noGet (K w.params) attr = true) (hl : getL name es = some (some v)) (hv : handedIn v = true) (h : Q v { s with toks := s.toks + 1 }) :
    wpAny (model prog w) A (getAttr (.ref e) name expr) Q E s :=
  exc_get (X.keeps F.keep) (od := some (dictOf es n)) ⟨(N _ m1).1, hc, hn, by rw [hd]; exact (N _ m2).1⟩ (findObj_own hh ha hg hl) hv h
end
/-- _law_told of a deed that raises -/
noncomputable def TellsX (w : World) (mean : ExcName → Option Value) (mg mb : Str → Option Value) (d : DV) (dd : Addr) (n : Int) (rest : List (Addr × Obj)) (f : Addr) (args : List Value) (kd ku : Nat) (xk : Str) (xa : Int) : Prop :=
  ∀ rest', (∀ p ∈ rest, p ∈ rest') → (∀ p ∈ rest', p.1 ≠ dd) → ∀ (dp un : Nat) (gd : Option (List Code)) (cn : Str) (cs : Scope) (a : Addr) (ccd : Value) (A₀ : Around) (base h₀ : Heap) (L : Addr) (m : Str → Option Value) (s : Shared) (Q E : Value → Shared → Prop) (tn : Tok),
   Below A₀ base [] h₀ → Fr h₀ L s.heap m → (K w.params).In h₀ → News h₀ L s.heap ((dd, dst w.params d n tn) :: rest') → Top q loose mean mg mb h₀ → cs.kind = .function → dp + kd < recursionLimit → un + ku < cLine → (K w.params).In base → Top q loose mean mg mb base →
   (∀ r h' tk tn' t1 t2 k, Fr h₀ L h' m → News h₀ L h' ((r, tupO [.str xk t1, .int xa t2] k) :: (dd, dst w.params d n tn') :: rest') → dd < r → (∀ p ∈ rest', p.1 < r) → Q (.ref r) { s with heap := h', toks := tk }) →
   wpAny (model PySem.Challenge.rw_pq0479_01.prog w) (ktrTop dp un gd cn cs L a ccd [] []) (call (.ref f) args) Q E s
end
theorem look25 {prog : Program} {w : World} {A : Around} {E Q : Value → Shared → Prop} {s : Shared} {t u : Tok} (h : wpAny (model prog w) A (binaryOp .Add (.int 1 t) (.int 2 u)) Q E s) : wpAny (model prog w) A (binaryOp .Add (.int 1 t) (.int 2 u)) Q E s := by first | (walk1; fail) | exact h
section
local macro_rules | `(tactic| walk_at "noteFrame ref") => `(tactic| k_extra "r79")
local macro_rules | `(tactic| walk_at "getAttr ref") => `(tactic| k_extra "r80")
local macro_rules | `(tactic| walk_at "LeaveS0") => `(tactic| k_extra "r81")
local macro_rules | `(tactic| walk_at "call ref") => `(tactic| k_extra "r82")
set_option maxRecDepth 100000 in
set_option maxHeartbeats 8000000 in
theorem told_x {w : World} {mean : ExcName → Option Value} {mg mb : Str → Option Value} {d : DV} {dd : Addr} {n : Int} {rest : List (Addr × Obj)} {kd ku : Nat} {xk xd : Str} {xa : Int}  {S e : Addr}
    (C0 : XCall w mean mg mb d dd n rest 1116 [.ref S, .ref e] kd ku xk xa xd) (hku : 2000 ≤ ku) : TellsX w mean mg mb d dd n rest 1333 [.ref 1116, .ref S, .ref e] (kd + 4) (ku + 40) xk xa := by
  intro rest' sub ne dp un gd cn cs a ccd A₀ base h₀ L m s Q E tn Bl F X N T hk hdp hun XB TB ret
  
  revert X N F; k_fill; intro F X N
  (refine wpAny_call ?_; (refine' code_defS0X ?k1 ?k2 ?k3 ?k4 ?k5 ?kA ?k6 ?e1 ?e2 ?e3 ?k7 ?k8 ?k9 ?kB ?_ ?cK ?c2 ?c3 ?c4 ?c5; (case kA => exact rfl); (case k2 => k_asm); (case k1 => k_asm); (case k3 => k_asm); (case k4 => k_asm); (case k5 => k_asm); (case k6 => k_dflt k_is); (case e1 => ((conv => lhs; whnf); try exact rfl)); (case e2 => ((conv => lhs; whnf); try exact rfl)); (case e3 => ((conv => lhs; whnf); try exact rfl)); (case k7 => k_dflt k_is); (case k8 => k_room); (case k9 => first | exact BindsTo.of_eq rfl | exact binds_K (by k_in) rfl (by k_dflt k_is) rfl rfl rfl); (case kB => exact locs rfl); (case cK => assumption); (case c2 => exact rfl); (case c3 => exact rfl); (case c4 => exact rfl); (case c5 => decide); k_whole; intro g' L' h' FG' F' N' B' X' T'; (try dsimp only); (try k_lift B'); (try k_fold))); k_steps; all_goals first | exact ret _ _ _ _ _ _ _ (by tb_rel) (by tb_rel) (by tb_rel) (by tb_rel)
end
theorem look26 {prog : Program} {w : World} {A : Around} {E Q : Value → Shared → Prop} {s : Shared} {t u : Tok} (h : wpAny (model prog w) A (binaryOp .Add (.int 1 t) (.int 2 u)) Q E s) : wpAny (model prog w) A (binaryOp .Add (.int 1 t) (.int 2 u)) Q E s := by first | (walk1; fail) | exact h
section
local macro_rules | `(tactic| walk_at "call ref") => `(tactic| k_extra "r83")
set_option maxRecDepth 100000 in
set_option maxHeartbeats 8000000 in
theorem told_d {w : World} {mean : ExcName → Option Value} {mg mb : Str → Option Value} {d : DV} {dd : Addr} {n : Int} {rest : List (Addr × Obj)} {kd ku : Nat}  {S e : Addr} {r : Int}
    (C0 : DCall w mean mg mb d dd n rest 1116 [.ref S, .ref e] kd ku (intR r)) (hku : 2000 ≤ ku) : DCall w mean mg mb d dd n rest 1333 [.ref 1116, .ref S, .ref e] (kd + 4) (ku + 40) (intR r) := by
  intro rest' sub ne dp un gd cn cs a ccd cl outer A₀ base h₀ L m s Q E tn Bl F X N T hk hdp hun ret
  
  revert X N F; k_fill; intro F X N
  tb_start; k_steps; all_goals first | exact ret _ _ _ _ [] (by tb_rel) (by tb_rel) (fun _ hp => nomatch hp) ⟨rfl, _, rfl⟩
end
section
section
variable {w : World} {mean : ExcName → Option Value} {mg mb : Str → Option Value} {d : DV} {dd : Addr} {n : Int} {rest rest' : List (Addr × Obj)} {kd ku : Nat}
theorem RC.len {l : List (Addr × Obj)} {k : Nat} {e : Addr} (r : RC l (k + 1) e) : ∃ e2 p q1 q2 n1, (e, tupO [.str "rep" q1, .int (101 + k) q2, .ref e2, .ref p] n1) ∈ l ∧ RC l k e2 := by
  cases r with
  | s me mp mn mz r => exact ⟨_, _, _, _, _, me, r⟩
/-- the place at which a chain entered at level n refuses -/
theorem whole_rcx {c : SV} {D ds S e : Addr} {k : Nat} (m1 : (S, instObj 1315 ds) ∈ rest) (m2 : (ds, sst w.params c D) ∈ rest) (m3 : (D, instObj 1238 dd) ∈ rest) (r : RC rest k e) :
    ∀ {n : Int} {at_ : Int}, 0 ≤ n → n ≤ 8 → 8 ≤ n + k → at_ = 100 + (n + k - 8) → XCall w mean mg mb d dd n rest 1109 [.ref S, .ref e] (14 * (8 - n).toNat + 10) (260 * (8 - n).toNat + 2040) "bounds_nested" at_ "" := by
  induction r with
  | z me mv =>
    intro n at_ h0 hn8 h8 ha
    obtain rfl : n = 8 := by push_cast at h8; omega
    obtain rfl : at_ = 100 := by rw [ha]; rfl
    exact whole_top5 (xk := "") (xd := "") (xa := 0) (kd := 0) (ku := 2000) m1 m2 m3 me (by omega) (by omega)
  | @s k e e2 p nm nv _ _ _ _ _ _ _ _ _ _ _ me mp mn mz _ ih =>
    intro n at_ h0 hn8 h8 ha
    by_cases hn : n = 8
    · subst hn
      obtain rfl : at_ = 101 + (k : Int) := by rw [ha]; push_cast; omega
      exact whole_top4 (xk := "") (xd := "") (xa := 0) (kd := 0) (ku := 2000) m1 m2 m3 me (by omega) (by omega)
    · have W := ih (n := n + 1) (at_ := at_) (by omega) (by omega) (by push_cast at h8; omega) (by rw [ha]; push_cast; omega)
      have e9 : (8 - n).toNat = (8 - (n + 1)).toNat + 1 := by omega
      have C1 := copies_x (xd := "") me W (by omega)
      have JW := jwrep_x (xd := "") me C1 (by omega)
      have ET := etrep_x (xd := "") me JW (by omega)
      have SE := self_x (xd := "") ET (by omega)
      have CO := const_x (xd := "") SE (by omega)
      have WH := whole_x (xd := "") m1 m2 m3 CO ⟨h0, by omega⟩ (by omega)
      rw [e9]
      exact WH.more (by omega) (by omega)
/-- _law_told(small_whole, scope, e) of a chain that ends -/
theorem told_rc {c : SV} {D ds S e : Addr} {k : Nat} (m1 : (S, instObj 1315 ds) ∈ rest) (m2 : (ds, sst w.params c D) ∈ rest) (m3 : (D, instObj 1238 dd) ∈ rest) (r : RC rest k e) (hk : k < 8) :
    DCall w mean mg mb d dd 0 rest 1333 [.ref 1116, .ref S, .ref e] 400 6000 (intR 1) :=
  (told_d (small_d (whole_rc m1 m2 m3 r (n := 0) (by omega) (by omega)) (by decide) (by omega)) (by omega)).more (by omega) (by omega)
theorem told_rcx {c : SV} {D ds S e : Addr} {k : Nat} {at_ : Int} (m1 : (S, instObj 1315 ds) ∈ rest) (m2 : (ds, sst w.params c D) ∈ rest) (m3 : (D, instObj 1238 dd) ∈ rest) (r : RC rest k e) (hk : 8 ≤ k) (ha : at_ = 100 + k - 8) :
    TellsX w mean mg mb d dd 0 rest 1333 [.ref 1116, .ref S, .ref e] 128 4200 "bounds_nested" at_ :=
  told_x (kd := 124) (ku := 4160) (xd := "") (small_x (kd := 122) (ku := 4120) (xd := "") (c := c) (D := D) (ds := ds) ((whole_rcx m1 m2 m3 r (n := 0) (at_ := at_) (by omega) (by omega) (by omega) (by omega)).more (by decide) (by decide)) (by omega)) (by omega)
/-- of a number -/
theorem small_num {c : SV} {D ds S e v : Addr} {t1 t2 t3 t4 t5 : Tok} {ne nv : Nat} {at_ wd x y r : Int} {sg sz : Bool}
    (m1 : (S, instObj 1315 ds) ∈ rest) (m2 : (ds, sst w.params c D) ∈ rest) (m3 : (D, instObj 1238 dd) ∈ rest)
    (me : (e, tupO [.str "num" t1, .int at_ t2, .ref v, .bool sg, .bool sz] ne) ∈ rest) (mv : (v, tupO [.int wd t3, .int x t4, .int y t5] nv) ∈ rest)
    (hw : wd = 1 ∨ wd = 3 ∨ wd = 4 ∨ wd = 32 ∨ wd = 40) (hx : 0 ≤ x ∧ x < 2 ^ wd.toNat) (hy : 0 ≤ y ∧ y < 2 ^ wd.toNat) (hs : sg = true ∨ sz = true)
    (hv : (y = 0 ∧ 0 ≤ x ∧ ((sg = false ∧ r = x) ∨ (sg = true ∧ wd = 32 ∧ x < 2 ^ 31 ∧ r = x) ∨ (sg = true ∧ wd = 40 ∧ x < 2 ^ 40 ∧ r = if x < 2 ^ 39 then x else x - 2 ^ 40))))
    (hr : -2147483648 ≤ r ∧ r ≤ 2147483647) : DCall w mean mg mb d dd 0 rest 1116 [.ref S, .ref e] 22 2100 (intR r) :=
  small_d (whole_num ⟨by omega, by omega⟩ m1 m2 m3 me mv hw hx hy hs hv) hr (by omega)
theorem small_numx {c : SV} {D ds S e v : Addr} {t1 t2 t3 t4 t5 : Tok} {ne nv : Nat} {at_ wd x y r : Int} {sg sz : Bool}
    (m1 : (S, instObj 1315 ds) ∈ rest) (m2 : (ds, sst w.params c D) ∈ rest) (m3 : (D, instObj 1238 dd) ∈ rest)
    (me : (e, tupO [.str "num" t1, .int at_ t2, .ref v, .bool sg, .bool sz] ne) ∈ rest) (mv : (v, tupO [.int wd t3, .int x t4, .int y t5] nv) ∈ rest)
    (hw : wd = 1 ∨ wd = 3 ∨ wd = 4 ∨ wd = 32 ∨ wd = 40) (hx : 0 ≤ x ∧ x < 2 ^ wd.toNat) (hy : 0 ≤ y ∧ y < 2 ^ wd.toNat) (hs : sg = true ∨ sz = true)
    (hv : (y = 0 ∧ 0 ≤ x ∧ ((sg = false ∧ r = x) ∨ (sg = true ∧ wd = 32 ∧ x < 2 ^ 31 ∧ r = x) ∨ (sg = true ∧ wd = 40 ∧ x < 2 ^ 40 ∧ r = if x < 2 ^ 39 then x else x - 2 ^ 40))))
    (hr : r < -2147483648 ∨ r > 2147483647) : XCall w mean mg mb d dd 0 rest 1116 [.ref S, .ref e] 28 2100 "bad_range" at_ "" :=
  small_range (xk := "") (xd := "") (xa := 0) me (whole_num ⟨by omega, by omega⟩ m1 m2 m3 me mv hw hx hy hs hv) hr (by omega)
theorem small_unk {c : SV} {D ds S e v : Addr} {t1 t2 t3 t4 t5 : Tok} {ne nv : Nat} {at_ wd x y : Int} {sg sz : Bool}
    (m1 : (S, instObj 1315 ds) ∈ rest) (m2 : (ds, sst w.params c D) ∈ rest) (m3 : (D, instObj 1238 dd) ∈ rest)
    (me : (e, tupO [.str "num" t1, .int at_ t2, .ref v, .bool sg, .bool sz] ne) ∈ rest) (mv : (v, tupO [.int wd t3, .int x t4, .int y t5] nv) ∈ rest)
    (hw : wd = 1 ∨ wd = 3 ∨ wd = 4 ∨ wd = 32 ∨ wd = 40) (hx : 0 ≤ x ∧ x < 2 ^ wd.toNat) (hy : 0 ≤ y ∧ y < 2 ^ wd.toNat) (hs : sg = true ∨ sz = true)
    (h0 : y ≠ 0) : XCall w mean mg mb d dd 0 rest 1116 [.ref S, .ref e] 30 2140 "unknown_constant" at_ "" :=
  small_x (kd := 28) (ku := 2100) (xd := "") (c := c) (D := D) (ds := ds) ((whole_unk (kd := 10) (ku := 2000) (xk := "") (xd := "") (xa := 0) m1 m2 m3 me ⟨by omega, by omega⟩ h0 (fun rest' s1 s2 => ConstOk.more (const_ok_num hw hx hy (s1 _ me) (s1 _ mv) hs) (by decide) (by decide)) (by omega)).more (by omega) (by omega)) (by omega)
/-- of a variable -/
theorem small_sig {c : SV} {G : GV} {D ds S e en sg sl s0 sd : Addr} {oE : Obj} {t1 t2 t3 y1 y2 : Tok} {at_ : Int} {ne_ nsg nsl : Nat}
   (m1 : (S, instObj 1315 ds) ∈ rest) (m2 : (ds, sst w.params c D) ∈ rest) (m3 : (D, instObj 1238 dd) ∈ rest) (me : (e, tupO [.str "id" t1, .int at_ t2, .str "s" t3] ne_) ∈ rest) (men : (en, oE) ∈ rest) (msg : (sg, tupO [.str "sig" y1, .int 0 y2] nsg) ∈ rest) (msl : (sl, listOf #[.ref s0] nsl) ∈ rest) (ms0 : (s0, instObj 1175 sd) ∈ rest) (msd : (sd, gst w.params G) ∈ rest) (hlo : (en == sysModules) = false) (hen : oE.IsDictOf (PySem.strKind PySem.Challenge.rw_pq0479_01.prog w) [(Str.ofString "s", Value.ref sg)]) (h8 : c.v8 = .ref en) (h1 : d.v1 = .ref sl) :
   XCall w mean mg mb d dd 0 rest 1116 [.ref S, .ref e] 100 3000 "not_constant" at_ "" := by
  have ET := fun n => et_id (mean := mean) (mg := mg) (mb := mb) (n := n) (kd := 0) (ku := 2000) m1 m2 m3 me men msg msl ms0 msd hlo hen h8 h1 (by omega)
  have BC : BCallS w mean mg mb d dd (0 + 1) rest S e 10 2100 := fun tw => build_id (tw := tw) (kd := 0) (ku := 2000) m1 m2 m3 me men msg msl ms0 msd hlo hen h8 h1 (by omega)
  have SE := self_id (ET (0 + 1)) BC (by omega)
  have CO := constx_id (xk := "") (xd := "") (xa := 0) m1 m2 m3 me SE (by omega)
  have WH := whole_x (n := 0) (xd := "") m1 m2 m3 CO ⟨by omega, by omega⟩ (by omega)
  exact (small_x (xd := "") (c := c) (D := D) (ds := ds) WH (by omega)).more (by omega) (by omega)
/-- of a name that is not declared -/
theorem small_und {c : SV} {D ds S e en sg : Addr} {oE : Obj} {t1 t2 t3 tk4 : Tok} {at_ : Int} {ne_ : Nat}
   (m1 : (S, instObj 1315 ds) ∈ rest) (m2 : (ds, sst w.params c D) ∈ rest) (m3 : (D, instObj 1238 dd) ∈ rest) (me : (e, tupO [.str "id" t1, .int at_ t2, .str "t" t3] ne_) ∈ rest) (men : (en, oE) ∈ rest) (hlo : (en == sysModules) = false) (hen : oE.IsDictOf (PySem.strKind PySem.Challenge.rw_pq0479_01.prog w) [(Str.ofString "s", Value.ref sg)]) (h8 : c.v8 = .ref en) (h4 : c.v4 = .str "module" tk4) :
   XCall w mean mg mb d dd 0 rest 1116 [.ref S, .ref e] 100 3000 "undeclared" at_ "t" := by
  have ET := etx_id (mean := mean) (mg := mg) (mb := mb) (xk := "") (xd := "") (xa := 0) (n := 0 + 1) (kd := 0) (ku := 2000) (d := d) m1 m2 m3 me men hlo hen h8 h4 (by omega)
  have SE := self_x (xd := "t") ET (by omega)
  have CO := const_x (xd := "t") SE (by omega)
  have WH := whole_x (n := 0) (xd := "t") m1 m2 m3 CO ⟨by omega, by omega⟩ (by omega)
  exact (small_x (xd := "t") (c := c) (D := D) (ds := ds) WH (by omega)).more (by omega) (by omega)
end
end
end
end
theorem look27 {prog : Program} {w : World} {A : Around} {E Q : Value → Shared → Prop} {s : Shared} {t u : Tok} (h : wpAny (model prog w) A (binaryOp .Add (.int 1 t) (.int 2 u)) Q E s) : wpAny (model prog w) A (binaryOp .Add (.int 1 t) (.int 2 u)) Q E s := by first | (walk1; fail) | exact h
section
local macro_rules | `(tactic| walk_at "call builtin:list.pop") => `(tactic| k_extra "r84")
set_option maxRecDepth 100000 in
set_option maxHeartbeats 8000000 in
theorem take_c {w : World} {mean : ExcName → Option Value} {mg mb : Str → Option Value} {rest : List (Addr × Obj)}  {src l : Addr} {a0 b0 most : Int} {ta tb tm : Tok} {ns nl : Nat} {its : List Value} {ws : List Int}
   {dp un : Nat} {gd : Option (List Code)} {cn : Str} {cs : Scope} {a : Addr} {ccd : Value} {cl : List (Str × Addr)} {outer : List Env} {A₀ : Around} {base h₀ : Heap} {L : Addr} {m : Str → Option Value} {s : Shared}  {Q E : Value → Shared → Prop}
   (Bl : Below A₀ base outer h₀) (F : Fr h₀ L s.heap m) (X : (K w.params).In h₀) (N : News h₀ L s.heap ((src, listOf #[.ref l, .int a0 ta, .int b0 tb] ns) :: (l, listOf its.toArray nl) :: rest)) (T : Top q loose mean mg mb h₀) (hk : cs.kind = .function) (hdp : dp + 3 < recursionLimit) (hun : un + 300 < cLine)
   (hs : ∀ p ∈ rest, p.1 ≠ src) (hl : ∀ p ∈ rest, p.1 ≠ l) (hsl : l ≠ src) (hls : src ≠ l) (hi : IntsAre its ws) (hlen : its.length ≤ 40) (ha : 0 ≤ a0) (hb : 0 ≤ b0 ∧ b0 < 2147483563) (hm : most = 8 ∨ most = 15 ∨ most = 16)
   (ret : ∀ r t' h' tk a' b' ta' tb' its' ws' nl' ns', Fr h₀ L h' m → News h₀ L h' ((src, listOf #[.ref l, .int a' ta', .int b' tb'] ns') :: (l, listOf (List.toArray its') nl') :: rest) → 0 ≤ a' → (0 ≤ b' ∧ b' < 2147483563) → (0 ≤ r ∧ r < most) → IntsAre its' ws' → its'.length ≤ 40 → Q (.int r t') { s with heap := h', toks := tk }) :
   wpAny (model PySem.Challenge.rw_pq0479_01.prog w) (ktrTop dp un gd cn cs L a ccd cl outer) (call (.ref 1326) [.ref src, .int most tm]) Q E s := by
  revert X N F; k_fill; intro F X N
  rcases hi with _ | ⟨x, tx, hi⟩
  · tb_start; k_steps
    all_goals (first | exact ret _ _ _ _ _ _ _ _ _ _ _ _ (by tb_rel) (by tb_rel) (by (first | assumption | omega | exact fmP (by omega) | exact fdP (by first | omega | exact fdP (by first | omega | exact (fmP (by decide)).1) (by decide)) (by omega) | exact .nil | exact .cons _ _ (by assumption) | (simp only [List.length_cons] at *; omega) | (simp; done))) (by (first | assumption | omega | exact fmP (by omega) | exact fdP (by first | omega | exact fdP (by first | omega | exact (fmP (by decide)).1) (by decide)) (by omega) | exact .nil | exact .cons _ _ (by assumption) | (simp only [List.length_cons] at *; omega) | (simp; done))) (by (first | assumption | omega | exact fmP (by omega) | exact fdP (by first | omega | exact fdP (by first | omega | exact (fmP (by decide)).1) (by decide)) (by omega) | exact .nil | exact .cons _ _ (by assumption) | (simp only [List.length_cons] at *; omega) | (simp; done))) (by (first | assumption | omega | exact fmP (by omega) | exact fdP (by first | omega | exact fdP (by first | omega | exact (fmP (by decide)).1) (by decide)) (by omega) | exact .nil | exact .cons _ _ (by assumption) | (simp only [List.length_cons] at *; omega) | (simp; done))) (by (first | assumption | omega | exact fmP (by omega) | exact fdP (by first | omega | exact fdP (by first | omega | exact (fmP (by decide)).1) (by decide)) (by omega) | exact .nil | exact .cons _ _ (by assumption) | (simp only [List.length_cons] at *; omega) | (simp; done))) | (exfalso; simp at *; done) | (exfalso; simp_all; done))
  · tb_start; k_steps
    all_goals (first | exact ret _ _ _ _ _ _ _ _ _ _ _ _ (by tb_rel) (by tb_rel) (by (first | assumption | omega | exact fmP (by omega) | exact fdP (by first | omega | exact fdP (by first | omega | exact (fmP (by decide)).1) (by decide)) (by omega) | exact .nil | exact .cons _ _ (by assumption) | (simp only [List.length_cons] at *; omega) | (simp; done))) (by (first | assumption | omega | exact fmP (by omega) | exact fdP (by first | omega | exact fdP (by first | omega | exact (fmP (by decide)).1) (by decide)) (by omega) | exact .nil | exact .cons _ _ (by assumption) | (simp only [List.length_cons] at *; omega) | (simp; done))) (by (first | assumption | omega | exact fmP (by omega) | exact fdP (by first | omega | exact fdP (by first | omega | exact (fmP (by decide)).1) (by decide)) (by omega) | exact .nil | exact .cons _ _ (by assumption) | (simp only [List.length_cons] at *; omega) | (simp; done))) (by (first | assumption | omega | exact fmP (by omega) | exact fdP (by first | omega | exact fdP (by first | omega | exact (fmP (by decide)).1) (by decide)) (by omega) | exact .nil | exact .cons _ _ (by assumption) | (simp only [List.length_cons] at *; omega) | (simp; done))) (by (first | assumption | omega | exact fmP (by omega) | exact fdP (by first | omega | exact fdP (by first | omega | exact (fmP (by decide)).1) (by decide)) (by omega) | exact .nil | exact .cons _ _ (by assumption) | (simp only [List.length_cons] at *; omega) | (simp; done))) | (exfalso; simp at *; done) | (exfalso; simp_all; done))
end
section
theorem pushNil (v : Value) : (#[] : Array Value).push v = #[v] := rfl
set_option maxRecDepth 100000 in
set_option maxHeartbeats 8000000 in
theorem design_c {w : World} {mean : ExcName → Option Value} {mg mb : Str → Option Value} 
   {dp un : Nat} {gd : Option (List Code)} {cn : Str} {cs : Scope} {a : Addr} {ccd : Value} {cl : List (Str × Addr)} {outer : List Env} {A₀ : Around} {base h₀ : Heap} {L : Addr} {m : Str → Option Value} {s : Shared} {news : List (Addr × Obj)} {Q E : Value → Shared → Prop}
   (Bl : Below A₀ base outer h₀) (F : Fr h₀ L s.heap m) (X : (K w.params).In h₀) (N : News h₀ L s.heap news) (T : Top q loose mean mg mb h₀) (hk : cs.kind = .function) (hdp : dp + 3 < recursionLimit) (hun : un + 300 < cLine)
   
   (ret : ∀ D dd (d : DV) sl sc bp oB h' tk tn, Fr h₀ L h' m → News h₀ L h' ((bp, oB) :: (sc, listOf #[] 0) :: (sl, listOf #[] 0) :: (D, instObj 1238 dd) :: (dd, dst w.params d 0 tn) :: news) → (bp == sysModules) = false → oB.IsDictOf (PySem.strKind PySem.Challenge.rw_pq0479_01.prog w) [] → d.v1 = .ref sl → d.v7 = .ref sc → d.v12 = .ref bp → (∀ p ∈ news, p.1 < dd) → (∀ p ∈ news, p.1 < sl) → (∀ p ∈ news, p.1 < sc) → (∀ p ∈ news, p.1 < bp) → dd < D → D < sl → sl < sc → sc < bp → Q (.ref D) { s with heap := h', toks := tk }) :
   wpAny (model PySem.Challenge.rw_pq0479_01.prog w) (ktrTop dp un gd cn cs L a ccd cl outer) (call (.ref 1238) []) Q E s := by
  revert X N F; k_fill; intro F X N
  k_steps; all_goals first | exact ret _ _ ⟨_,_,_,_,_,_,_,_,_,_,_,_,_,_,_,_,_,_,_,_,_,_,_⟩ _ _ _ _ _ _ _ (by tb_rel) (by tb_rel) (by assumption) (by assumption) rfl rfl rfl (by tb_rel) (by tb_rel) (by tb_rel) (by tb_rel) (by tb_rel) (by tb_rel) (by tb_rel) (by tb_rel)
set_option maxRecDepth 100000 in
set_option maxHeartbeats 8000000 in
theorem scope_c {w : World} {mean : ExcName → Option Value} {mg mb : Str → Option Value} {rest : List (Addr × Obj)}  {d : DV} {D dd sc : Addr} {n : Int} {tn t1 t2 : Tok} {ksc : Nat}
   {dp un : Nat} {gd : Option (List Code)} {cn : Str} {cs : Scope} {a : Addr} {ccd : Value} {cl : List (Str × Addr)} {outer : List Env} {A₀ : Around} {base h₀ : Heap} {L : Addr} {m : Str → Option Value} {s : Shared}  {Q E : Value → Shared → Prop}
   (Bl : Below A₀ base outer h₀) (F : Fr h₀ L s.heap m) (X : (K w.params).In h₀) (N : News h₀ L s.heap ((sc, listOf #[] ksc) :: rest)) (T : Top q loose mean mg mb h₀) (hk : cs.kind = .function) (hdp : dp + 4 < recursionLimit) (hun : un + 500 < cLine)
   (hsc : ∀ p ∈ rest, p.1 ≠ sc) (mD : (D, instObj 1238 dd) ∈ rest) (mdd : (dd, dst w.params d n tn) ∈ rest) (h7 : d.v7 = .ref sc)
   (ret : ∀ S ds en oE c h' tk, Fr h₀ L h' m → News h₀ L h' ((en, oE) :: (S, instObj 1315 ds) :: (ds, sst w.params c D) :: rest) → (en == sysModules) = false → oE.IsDictOf (PySem.strKind PySem.Challenge.rw_pq0479_01.prog w) [] → c.v8 = .ref en → (∃ t, c.v4 = .str "module" t) → (∀ p ∈ rest, p.1 < ds) → (∀ p ∈ rest, p.1 < en) → ds < S → S < en → Q (.ref S) { s with heap := h', toks := tk }) :
   wpAny (model PySem.Challenge.rw_pq0479_01.prog w) (ktrTop dp un gd cn cs L a ccd cl outer) (call (.ref 1315) [.ref D, .str "top" t1, .none, .str "module" t2]) Q E s := by
  revert X N F; k_fill; intro F X N
  obtain ⟨dk1, dk2, dk3, dk4, dk5, dk6, dk7, dk8, dk9, dk10, dk11, dk12, dv1, dv2, dv3, dv4, dv5, dv6, dv7, dv8, dv9, dv10, dv12⟩ := d
  dsimp only at h7 N mdd
  subst h7
  k_steps; all_goals first | exact ret _ _ _ _ ⟨_,_,_,_,_,_,_,_,_,_,_,_,_,_,_,_,_⟩ _ _ (by tb_rel) (by tb_rel) (by assumption) (by assumption) rfl ⟨_, rfl⟩ (by tb_rel) (by tb_rel) (by tb_rel) (by tb_rel)
set_option maxRecDepth 100000 in
set_option maxHeartbeats 8000000 in
theorem signal_c {w : World} {mean : ExcName → Option Value} {mg mb : Str → Option Value} {rest : List (Addr × Obj)}  {d : DV} {D dd sl bp : Addr} {n : Int} {tn t1 t2 t3 t4 t5 t6 : Tok} {kl : Nat} {oB : Obj}
   {dp un : Nat} {gd : Option (List Code)} {cn : Str} {cs : Scope} {a : Addr} {ccd : Value} {cl : List (Str × Addr)} {outer : List Env} {A₀ : Around} {base h₀ : Heap} {L : Addr} {m : Str → Option Value} {s : Shared}  {Q E : Value → Shared → Prop}
   (Bl : Below A₀ base outer h₀) (F : Fr h₀ L s.heap m) (X : (K w.params).In h₀) (N : News h₀ L s.heap ((sl, listOf #[] kl) :: (bp, oB) :: rest)) (T : Top q loose mean mg mb h₀) (hk : cs.kind = .function) (hdp : dp + 4 < recursionLimit) (hun : un + 800 < cLine)
   (hsl : ∀ p ∈ rest, p.1 ≠ sl) (hbp : ∀ p ∈ rest, p.1 ≠ bp) (hne : sl ≠ bp) (hen : bp ≠ sl) (mD : (D, instObj 1238 dd) ∈ rest) (mdd : (dd, dst w.params d n tn) ∈ rest) (h1 : d.v1 = .ref sl) (h12 : d.v12 = .ref bp) (hlo : (bp == sysModules) = false) (hoB : oB.IsDictOf (PySem.strKind PySem.Challenge.rw_pq0479_01.prog w) [])
   (ret : ∀ s0 sd (G : GV) ks h' tk, Fr h₀ L h' m → News h₀ L h' ((s0, instObj 1175 sd) :: (sd, gst w.params G) :: (sl, listOf #[.ref s0] ks) :: rest) → (∃ t, G.v1 = .int 0 t) → (∀ p ∈ rest, p.1 < sd) → sd < s0 → sl < sd → Q (.ref s0) { s with heap := h', toks := tk }) :
   wpAny (model PySem.Challenge.rw_pq0479_01.prog w) (ktrTop dp un gd cn cs L a ccd cl outer) (call (.ref 1200) [.ref D, .str "top.s" t1, .str "reg" t2, .int 4 t3, .bool false, .int 3 t4, .int 0 t5, .int (-1) t6]) Q E s := by
  revert X N F; k_fill; intro F X N
  obtain ⟨dk1, dk2, dk3, dk4, dk5, dk6, dk7, dk8, dk9, dk10, dk11, dk12, dv1, dv2, dv3, dv4, dv5, dv6, dv7, dv8, dv9, dv10, dv12⟩ := d
  dsimp only at h1 h12 N mdd
  subst h1 h12
  tb_start; k_steps; all_goals (simp only [pushNil] at *); all_goals first | exact ret _ _ ⟨_,_,_,_,_,_,_,_,_,_,_,_,_,_,_,_,_,_,_,_,_⟩ _ _ _ (by tb_rel) (by tb_rel) ⟨_, rfl⟩ (by tb_rel) (by tb_rel) (by tb_rel)
set_option maxRecDepth 100000 in
set_option maxHeartbeats 8000000 in
theorem declare_c {w : World} {mean : ExcName → Option Value} {mg mb : Str → Option Value} {rest : List (Addr × Obj)}  {c : SV} {D S ds en sg : Addr} {t1 t2 : Tok} {o0 : Obj}
   {dp un : Nat} {gd : Option (List Code)} {cn : Str} {cs : Scope} {a : Addr} {ccd : Value} {cl : List (Str × Addr)} {outer : List Env} {A₀ : Around} {base h₀ : Heap} {L : Addr} {m : Str → Option Value} {s : Shared}  {Q E : Value → Shared → Prop}
   (Bl : Below A₀ base outer h₀) (F : Fr h₀ L s.heap m) (X : (K w.params).In h₀) (N : News h₀ L s.heap ((en, o0) :: rest)) (T : Top q loose mean mg mb h₀) (hk : cs.kind = .function) (hdp : dp + 4 < recursionLimit) (hun : un + 800 < cLine)
   (hen : ∀ p ∈ rest, p.1 ≠ en) (mS : (S, instObj 1315 ds) ∈ rest) (mds : (ds, sst w.params c D) ∈ rest) (h8 : c.v8 = .ref en) (hlo : (en == sysModules) = false) (ho0 : o0.IsDictOf (PySem.strKind PySem.Challenge.rw_pq0479_01.prog w) [])
   (ret : ∀ oE h' tk, Fr h₀ L h' m → News h₀ L h' ((en, oE) :: rest) → oE.IsDictOf (PySem.strKind PySem.Challenge.rw_pq0479_01.prog w) [(Str.ofString "s", Value.ref sg)] → Q .none { s with heap := h', toks := tk }) :
   wpAny (model PySem.Challenge.rw_pq0479_01.prog w) (ktrTop dp un gd cn cs L a ccd cl outer) (call (.ref 1270) [.ref S, .str "s" t1, .ref sg, .int (-1) t2]) Q E s := by
  revert X N F; k_fill; intro F X N
  obtain ⟨ck1, ck2, ck3, ck4, ck5, ck6, ck7, ck8, ck9, cv2, cv3, cv4, cv5, cv6, cv7, cv8, cv9⟩ := c
  dsimp only at h8 N mds
  subst h8
  tb_start; k_steps; all_goals first | exact ret _ _ _ (by tb_rel) (by tb_rel) (by assumption)
end
section
local macro_rules | `(tactic| k_room) => `(tactic| k_extra "r85")
local macro_rules | `(tactic| k_units) => `(tactic| k_extra "r86")
local macro_rules | `(tactic| k_all) => `(tactic| k_extra "r22")
section
section
variable {w : World} {mean : ExcName → Option Value} {mg mb : Str → Option Value} {all r1 r2 : List (Addr × Obj)} {dp un : Nat} {gd : Option (List Code)} {cn : Str} {cs : Scope} {a : Addr} {ccd : Value} {cl : List (Str × Addr)} {outer : List Env} {A₀ : Around} {base h₀ : Heap} {L : Addr} {m : Str → Option Value} {s : Shared} {Q E : Value → Shared → Prop}
theorem take_u {src l : Addr} {a0 b0 most : Int} {ta tb tm : Tok} {ns nl : Nat} {its : List Value} {ws : List Int} (Bl : Below A₀ base outer h₀) (F : Fr h₀ L s.heap m) (X : (K w.params).In h₀) (N : News h₀ L s.heap all) (T : Top q loose mean mg mb h₀) (hk : cs.kind = .function) (hdp : dp + 3 < recursionLimit) (hun : un + 300 < cLine)
  (m1 : (src, listOf #[.ref l, .int a0 ta, .int b0 tb] ns) ∈ all) (d1 : Del src all r1) (m2 : (l, listOf its.toArray nl) ∈ r1) (d2 : Del l r1 r2) (hi : IntsAre its ws) (hlen : its.length ≤ 40) (ha : 0 ≤ a0) (hb : 0 ≤ b0 ∧ b0 < 2147483563) (hm : most = 8 ∨ most = 15 ∨ most = 16)
  (ret : ∀ r t' h' tk a' b' ta' tb' its' ws' nl' ns', Fr h₀ L h' m → News h₀ L h' ((src, listOf #[.ref l, .int a' ta', .int b' tb'] ns') :: (l, listOf (List.toArray its') nl') :: r2) → 0 ≤ a' → (0 ≤ b' ∧ b' < 2147483563) → (0 ≤ r ∧ r < most) → IntsAre its' ws' → its'.length ≤ 40 → (∀ p ∈ r2, p.1 ≠ src ∧ p.1 ≠ l) → Q (.int r t') { s with heap := h', toks := tk }) : wpAny (model PySem.Challenge.rw_pq0479_01.prog w) (ktrTop dp un gd cn cs L a ccd cl outer) (call (.ref 1326) [.ref src, .int most tm]) Q E s := by
  have hls : l ≠ src := (d1.sub _ m2).2
  refine take_c Bl F X (newsSub N (consSub m1 (consSub (d1.sub _ m2).1 fun p hp => (d1.sub _ (d2.sub p hp).1).1))) T hk hdp hun (fun p hp => (d1.sub _ (d2.sub p hp).1).2) (fun p hp => (d2.sub p hp).2) hls (Ne.symm hls) hi hlen ha hb hm ?_
  intro r t' h' tk a' b' ta' tb' its' ws' nl' ns' F' N' c1 c2 c3 c4 c5
  exact ret _ _ _ _ _ _ _ _ _ _ _ _ F' N' c1 c2 c3 c4 c5 fun p hp => ⟨(d1.sub _ (d2.sub p hp).1).2, (d2.sub p hp).2⟩
theorem scope_u {d : DV} {D dd sc : Addr} {n : Int} {tn t1 t2 : Tok} {ksc : Nat} (Bl : Below A₀ base outer h₀) (F : Fr h₀ L s.heap m) (X : (K w.params).In h₀) (N : News h₀ L s.heap all) (T : Top q loose mean mg mb h₀) (hk : cs.kind = .function) (hdp : dp + 4 < recursionLimit) (hun : un + 500 < cLine)
  (m1 : (sc, listOf #[] ksc) ∈ all) (d1 : Del sc all r1) (mD : (D, instObj 1238 dd) ∈ r1) (mdd : (dd, dst w.params d n tn) ∈ r1) (h7 : d.v7 = .ref sc)
  (ret : ∀ S ds en oE c h' tk, Fr h₀ L h' m → News h₀ L h' ((en, oE) :: (S, instObj 1315 ds) :: (ds, sst w.params c D) :: r1) → (en == sysModules) = false → oE.IsDictOf (PySem.strKind PySem.Challenge.rw_pq0479_01.prog w) [] → c.v8 = .ref en → (∃ t, c.v4 = .str "module" t) → (∀ p ∈ r1, p.1 < ds) → (∀ p ∈ r1, p.1 < en) → ds < S → S < en → Q (.ref S) { s with heap := h', toks := tk }) : wpAny (model PySem.Challenge.rw_pq0479_01.prog w) (ktrTop dp un gd cn cs L a ccd cl outer) (call (.ref 1315) [.ref D, .str "top" t1, .none, .str "module" t2]) Q E s :=
  scope_c Bl F X (newsSub N (consSub m1 fun p hp => (d1.sub p hp).1)) T hk hdp hun (fun p hp => (d1.sub p hp).2) mD mdd h7 ret
theorem signal_u {d : DV} {D dd sl bp : Addr} {n : Int} {tn t1 t2 t3 t4 t5 t6 : Tok} {kl : Nat} {oB : Obj} (Bl : Below A₀ base outer h₀) (F : Fr h₀ L s.heap m) (X : (K w.params).In h₀) (N : News h₀ L s.heap all) (T : Top q loose mean mg mb h₀) (hk : cs.kind = .function) (hdp : dp + 4 < recursionLimit) (hun : un + 800 < cLine)
  (m1 : (sl, listOf #[] kl) ∈ all) (d1 : Del sl all r1) (m2 : (bp, oB) ∈ r1) (d2 : Del bp r1 r2) (mD : (D, instObj 1238 dd) ∈ r2) (mdd : (dd, dst w.params d n tn) ∈ r2) (h1 : d.v1 = .ref sl) (h12 : d.v12 = .ref bp) (hlo : (bp == sysModules) = false) (hoB : oB.IsDictOf (PySem.strKind PySem.Challenge.rw_pq0479_01.prog w) [])
  (ret : ∀ s0 sd (G : GV) ks h' tk, Fr h₀ L h' m → News h₀ L h' ((s0, instObj 1175 sd) :: (sd, gst w.params G) :: (sl, listOf #[.ref s0] ks) :: r2) → (∃ t, G.v1 = .int 0 t) → (∀ p ∈ r2, p.1 < sd) → sd < s0 → sl < sd → Q (.ref s0) { s with heap := h', toks := tk }) : wpAny (model PySem.Challenge.rw_pq0479_01.prog w) (ktrTop dp un gd cn cs L a ccd cl outer) (call (.ref 1200) [.ref D, .str "top.s" t1, .str "reg" t2, .int 4 t3, .bool false, .int 3 t4, .int 0 t5, .int (-1) t6]) Q E s := by
  have hls : bp ≠ sl := (d1.sub _ m2).2
  exact signal_c Bl F X (newsSub N (consSub m1 (consSub (d1.sub _ m2).1 fun p hp => (d1.sub _ (d2.sub p hp).1).1))) T hk hdp hun (fun p hp => (d1.sub _ (d2.sub p hp).1).2) (fun p hp => (d2.sub p hp).2) (Ne.symm hls) hls mD mdd h1 h12 hlo hoB ret
theorem declare_u {c : SV} {D S ds en sg : Addr} {t1 t2 : Tok} {o0 : Obj} (Bl : Below A₀ base outer h₀) (F : Fr h₀ L s.heap m) (X : (K w.params).In h₀) (N : News h₀ L s.heap all) (T : Top q loose mean mg mb h₀) (hk : cs.kind = .function) (hdp : dp + 4 < recursionLimit) (hun : un + 800 < cLine)
  (m1 : (en, o0) ∈ all) (d1 : Del en all r1) (mS : (S, instObj 1315 ds) ∈ r1) (mds : (ds, sst w.params c D) ∈ r1) (h8 : c.v8 = .ref en) (hlo : (en == sysModules) = false) (ho0 : o0.IsDictOf (PySem.strKind PySem.Challenge.rw_pq0479_01.prog w) [])
  (ret : ∀ oE h' tk, Fr h₀ L h' m → News h₀ L h' ((en, oE) :: r1) → oE.IsDictOf (PySem.strKind PySem.Challenge.rw_pq0479_01.prog w) [(Str.ofString "s", Value.ref sg)] → Q .none { s with heap := h', toks := tk }) :
  wpAny (model PySem.Challenge.rw_pq0479_01.prog w) (ktrTop dp un gd cn cs L a ccd cl outer) (call (.ref 1270) [.ref S, .str "s" t1, .ref sg, .int (-1) t2]) Q E s :=
  declare_c Bl F X (newsSub N (consSub m1 fun p hp => (d1.sub p hp).1)) T hk hdp hun (fun p hp => (d1.sub p hp).2) mS mds h8 hlo ho0 ret
end
theorem law_start {w : World} {A : Around} {s : Shared} {Q : Flow → Shared → Prop} {E : Value → Shared → Prop} {L fa : Addr} {cd : Value} {body : List Stmt} {scope : Scope} (e2 : fB (st 163) = body) (e3 : fS (st 163) = scope)
  (h : wpAny (model PySem.Challenge.rw_pq0479_01.prog w) (A.deeper (envOf "law" scope L fa cd)) (execs body (envOf "law" scope L fa cd)) Q E s) :
  wpAny (model PySem.Challenge.rw_pq0479_01.prog w) (A.deeper (envOf "law" (fS (st 163)) L fa cd)) (execs (fB (st 163)) (envOf "law" (fS (st 163)) L fa cd)) Q E s := by
  subst e2 e3; exact h
noncomputable def Stop (P : Prop) : Prop := P
theorem stopHere {P : Prop} (h : Stop P) : P := h
end
section
/-- the design, the scope and the variable s, as the law built them -/
noncomputable def SetUp (w : World) (d : DV) (dd D S : Addr) (rest : List (Addr × Obj)) : Prop :=
  ∃ ds en sg sl s0 sd c G oE t4 y1 y2 nsg nsl, (S, instObj 1315 ds) ∈ rest ∧ (ds, sst w.params c D) ∈ rest ∧ (D, instObj 1238 dd) ∈ rest ∧ (en, oE) ∈ rest ∧ (sg, tupO [.str "sig" y1, .int 0 y2] nsg) ∈ rest ∧
    (sl, listOf #[.ref s0] nsl) ∈ rest ∧ (s0, instObj 1175 sd) ∈ rest ∧ (sd, gst w.params G) ∈ rest ∧ (en == sysModules) = false ∧ oE.IsDictOf (PySem.strKind PySem.Challenge.rw_pq0479_01.prog w) [(Str.ofString "s", Value.ref sg)] ∧
    c.v8 = .ref en ∧ d.v1 = .ref sl ∧ c.v4 = .str "module" t4
section
variable {w : World} {mean : ExcName → Option Value} {mg mb : Str → Option Value} {d : DV} {dd D S e : Addr} {rest all r1 : List (Addr × Obj)} {kd ku : Nat}
  {dp un : Nat} {gd : Option (List Code)} {cn : Str} {cs : Scope} {a : Addr} {ccd : Value} {A₀ : Around} {base h₀ : Heap} {L : Addr} {m : Str → Option Value} {s : Shared} {Q E : Value → Shared → Prop} {tn : Tok}
theorem SetUp.sub {rest' : List (Addr × Obj)} (U : SetUp w d dd D S rest) (h : ∀ p ∈ rest, p ∈ rest') : SetUp w d dd D S rest' := by
  obtain ⟨ds, en, sg, sl, s0, sd, c, G, oE, t4, y1, y2, nsg, nsl, m1, m2, m3, m4, m5, m6, m7, m8, r⟩ := U
  exact ⟨ds, en, sg, sl, s0, sd, c, G, oE, t4, y1, y2, nsg, nsl, h _ m1, h _ m2, h _ m3, h _ m4, h _ m5, h _ m6, h _ m7, h _ m8, r⟩
theorem SetUp.inst (U : SetUp w d dd D S rest) : (D, instObj 1238 dd) ∈ rest := by
  obtain ⟨ds, en, sg, sl, s0, sd, c, G, oE, t4, y1, y2, nsg, nsl, m1, m2, m3, r⟩ := U
  exact m3
theorem useT {f : Addr} {args : List Value} {xk : Str} {xa : Int} (C : TellsX w mean mg mb d dd 0 r1 f args kd ku xk xa)
   (Bl : Below A₀ base [] h₀) (F : Fr h₀ L s.heap m) (X : (K w.params).In h₀) (N : News h₀ L s.heap all) (T : Top q loose mean mg mb h₀) (hk : cs.kind = .function) (hdp : dp + kd < recursionLimit) (hun : un + ku < cLine) (XB : (K w.params).In base) (TB : Top q loose mean mg mb base)
   (hm : (dd, dst w.params d 0 tn) ∈ all) (D1 : Del dd all r1)
   (ret : ∀ r h' tk tn' t1 t2 k, Fr h₀ L h' m → News h₀ L h' ((r, tupO [.str xk t1, .int xa t2] k) :: (dd, dst w.params d 0 tn') :: r1) → dd < r → (∀ p ∈ r1, p.1 < r) → Q (.ref r) { s with heap := h', toks := tk }) :
   wpAny (model PySem.Challenge.rw_pq0479_01.prog w) (ktrTop dp un gd cn cs L a ccd [] []) (call (.ref f) args) Q E s :=
  C r1 (fun _ h => h) (fun p hp => (D1.sub p hp).2) dp un gd cn cs a ccd A₀ base h₀ L m s Q E tn Bl F X (newsSub N (consSub hm fun p hp => (D1.sub p hp).1)) T hk hdp hun XB TB ret
theorem useI {f : Addr} {args : List Value} {v : Int} (C : DCall w mean mg mb d dd 0 r1 f args kd ku (intR v))
   (Bl : Below A₀ base [] h₀) (F : Fr h₀ L s.heap m) (X : (K w.params).In h₀) (N : News h₀ L s.heap all) (T : Top q loose mean mg mb h₀) (hk : cs.kind = .function) (hdp : dp + kd < recursionLimit) (hun : un + ku < cLine)
   (hm : (dd, dst w.params d 0 tn) ∈ all) (D1 : Del dd all r1)
   (ret : ∀ h' tk tn' t, Fr h₀ L h' m → News h₀ L h' ((dd, dst w.params d 0 tn') :: r1) → Q (.int v t) { s with heap := h', toks := tk }) :
   wpAny (model PySem.Challenge.rw_pq0479_01.prog w) (ktrTop dp un gd cn cs L a ccd [] []) (call (.ref f) args) Q E s :=
  C r1 (fun _ h => h) (fun p hp => (D1.sub p hp).2) dp un gd cn cs a ccd [] [] A₀ base h₀ L m s Q E tn Bl F X (newsSub N (consSub hm fun p hp => (D1.sub p hp).1)) T hk hdp hun fun r h' tk tn' ext F' N' l R => by
    obtain ⟨rfl, t, rfl⟩ := R
    exact ret _ _ _ _ F' N'
end
section
variable {w : World} {mean : ExcName → Option Value} {mg mb : Str → Option Value} {d : DV} {dd D S e : Addr} {r1 : List (Addr × Obj)}
theorem S_told {k : Nat} (U : SetUp w d dd D S r1) (R : RC r1 k e) (hk : k < 8) : DCall w mean mg mb d dd 0 r1 1333 [.ref 1116, .ref S, .ref e] 400 6000 (intR 1) := by
  obtain ⟨ds, en, sg, sl, s0, sd, c, G, oE, t4, y1, y2, nsg, nsl, m1, m2, m3, r⟩ := U
  exact told_rc m1 m2 m3 R hk
theorem S_toldx {k : Nat} {at_ : Int} (U : SetUp w d dd D S r1) (R : RC r1 k e) (hk : 8 ≤ k) (ha : at_ = 100 + k - 8) : TellsX w mean mg mb d dd 0 r1 1333 [.ref 1116, .ref S, .ref e] 128 4200 "bounds_nested" at_ := by
  obtain ⟨ds, en, sg, sl, s0, sd, c, G, oE, t4, y1, y2, nsg, nsl, m1, m2, m3, r⟩ := U
  exact told_rcx m1 m2 m3 R hk ha
theorem S_small9 {v : Addr} {t1 t2 t3 t4 t5 : Tok} {ne nv : Nat} {at_ : Int} (U : SetUp w d dd D S r1) (me : (e, tupO [.str "num" t1, .int at_ t2, .ref v, .bool false, .bool true] ne) ∈ r1) (mv : (v, tupO [.int 3 t3, .int 5 t4, .int 0 t5] nv) ∈ r1) :
    DCall w mean mg mb d dd 0 r1 1116 [.ref S, .ref e] 22 2100 (intR 5) := by
  obtain ⟨ds, en, sg, sl, s0, sd, c, G, oE, t4, y1, y2, nsg, nsl, m1, m2, m3, r⟩ := U
  exact small_num m1 m2 m3 me mv (.inr (.inl rfl)) (by decide) (by decide) (.inr rfl) ⟨rfl, by decide, .inl ⟨rfl, rfl⟩⟩ (by decide)
theorem S_const40 {v : Addr} {t1 t2 t3 t4 t5 : Tok} {ne nv : Nat} {at_ x : Int} (U : SetUp w d dd D S r1) (me : (e, tupO [.str "num" t1, .int at_ t2, .ref v, .bool true, .bool true] ne) ∈ r1) (mv : (v, tupO [.int 40 t3, .int x t4, .int 0 t5] nv) ∈ r1) (hx : 0 ≤ x ∧ x < 1099511627776) :
    ConstOk w mean mg mb d dd 0 r1 S e 7 700 40 x 0 true :=
  const_ok_num (.inr (.inr (.inr (.inr rfl)))) hx (by decide) me mv (.inl rfl)
theorem S_told40 {v : Addr} {t1 t2 t3 t4 t5 : Tok} {ne nv : Nat} {at_ x n : Int} (U : SetUp w d dd D S r1) (me : (e, tupO [.str "num" t1, .int at_ t2, .ref v, .bool true, .bool true] ne) ∈ r1) (mv : (v, tupO [.int 40 t3, .int x t4, .int 0 t5] nv) ∈ r1) (hx : 0 ≤ x ∧ x < 1099511627776)
    (hn : n = if x < 2 ^ 39 then x else x - 2 ^ 40) (hr : -2147483648 ≤ n ∧ n ≤ 2147483647) : DCall w mean mg mb d dd 0 r1 1333 [.ref 1116, .ref S, .ref e] 26 2140 (intR n) := by
  obtain ⟨ds, en, sg, sl, s0, sd, c, G, oE, t4, y1, y2, nsg, nsl, m1, m2, m3, r⟩ := U
  exact told_d (small_num m1 m2 m3 me mv (.inr (.inr (.inr (.inr rfl)))) hx (by decide) (.inl rfl) ⟨rfl, hx.1, .inr (.inr ⟨rfl, rfl, hx.2, hn⟩)⟩ hr) (by omega)
theorem S_told40x {v : Addr} {t1 t2 t3 t4 t5 : Tok} {ne nv : Nat} {at_ x n : Int} (U : SetUp w d dd D S r1) (me : (e, tupO [.str "num" t1, .int at_ t2, .ref v, .bool true, .bool true] ne) ∈ r1) (mv : (v, tupO [.int 40 t3, .int x t4, .int 0 t5] nv) ∈ r1) (hx : 0 ≤ x ∧ x < 1099511627776)
    (hn : n = if x < 2 ^ 39 then x else x - 2 ^ 40) (hr : n < -2147483648 ∨ n > 2147483647) : TellsX w mean mg mb d dd 0 r1 1333 [.ref 1116, .ref S, .ref e] 32 2140 "bad_range" at_ := by
  obtain ⟨ds, en, sg, sl, s0, sd, c, G, oE, t4, y1, y2, nsg, nsl, m1, m2, m3, r⟩ := U
  exact told_x (xd := "") (small_numx m1 m2 m3 me mv (.inr (.inr (.inr (.inr rfl)))) hx (by decide) (.inl rfl) ⟨rfl, hx.1, .inr (.inr ⟨rfl, rfl, hx.2, hn⟩)⟩ hr) (by omega)
theorem S_unk {v : Addr} {t1 t2 t3 t4 t5 : Tok} {ne nv : Nat} {at_ x y : Int} (U : SetUp w d dd D S r1) (me : (e, tupO [.str "num" t1, .int at_ t2, .ref v, .bool false, .bool true] ne) ∈ r1) (mv : (v, tupO [.int 4 t3, .int x t4, .int y t5] nv) ∈ r1) (hx : 0 ≤ x ∧ x < 16) (hy : 0 ≤ y ∧ y < 16) (h0 : y ≠ 0) :
    TellsX w mean mg mb d dd 0 r1 1333 [.ref 1116, .ref S, .ref e] 34 2180 "unknown_constant" at_ := by
  obtain ⟨ds, en, sg, sl, s0, sd, c, G, oE, t4, y1, y2, nsg, nsl, m1, m2, m3, r⟩ := U
  exact told_x (xd := "") (small_unk m1 m2 m3 me mv (.inr (.inr (.inl rfl))) hx hy (.inr rfl) h0) (by omega)
theorem S_sig {t1 t2 t3 : Tok} {at_ : Int} {ne_ : Nat} (U : SetUp w d dd D S r1) (me : (e, tupO [.str "id" t1, .int at_ t2, .str "s" t3] ne_) ∈ r1) : TellsX w mean mg mb d dd 0 r1 1333 [.ref 1116, .ref S, .ref e] 104 3040 "not_constant" at_ := by
  obtain ⟨ds, en, sg, sl, s0, sd, c, G, oE, t4, y1, y2, nsg, nsl, m1, m2, m3, m4, m5, m6, m7, m8, lo, hE, h8, h1, h4⟩ := U
  exact told_x (xd := "") (small_sig m1 m2 m3 me m4 m5 m6 m7 m8 lo hE h8 h1) (by omega)
theorem S_und {t1 t2 t3 : Tok} {at_ : Int} {ne_ : Nat} (U : SetUp w d dd D S r1) (me : (e, tupO [.str "id" t1, .int at_ t2, .str "t" t3] ne_) ∈ r1) : TellsX w mean mg mb d dd 0 r1 1333 [.ref 1116, .ref S, .ref e] 104 3040 "undeclared" at_ := by
  obtain ⟨ds, en, sg, sl, s0, sd, c, G, oE, t4, y1, y2, nsg, nsl, m1, m2, m3, m4, m5, m6, m7, m8, lo, hE, h8, h1, h4⟩ := U
  exact told_x (xd := "t") (small_und m1 m2 m3 me m4 lo hE h8 h4) (by omega)
end
theorem mapFix {m : Str → Option Value} {k : Str} {v : Value} (h : m k = some v) : m = fun y => if y = k then some v else m y := by
  funext y
  by_cases e : y = k
  · subst e; rw [if_pos rfl]; exact h
  · rw [if_neg e]
end
section
local macro_rules | `(tactic| walk_at "call ref") => `(tactic| k_extra "r87")
theorem look28 {prog : Program} {w : World} {A : Around} {E Q : Value → Shared → Prop} {s : Shared} {t u : Tok} (h : wpAny (model prog w) A (binaryOp .Add (.int 1 t) (.int 2 u)) Q E s) : wpAny (model prog w) A (binaryOp .Add (.int 1 t) (.int 2 u)) Q E s := by first | (walk1; fail) | exact h
section
theorem law_startN {w : World} {A : Around} {s : Shared} {Q : Flow → Shared → Prop} {E : Value → Shared → Prop} {L fa : Addr} {cd : Value} {k : Nat} {body body' : List Stmt} {scope scope' : Scope} (e2 : (fB (st 163)).drop k = body) (e3 : fS (st 163) = scope)
  (f2 : (fB (st 163)).drop k = body') (f3 : fS (st 163) = scope')
  (h : wpAny (model PySem.Challenge.rw_pq0479_01.prog w) (A.deeper (envOf "law" scope L fa cd)) (execs body (envOf "law" scope L fa cd)) Q E s) :
  wpAny (model PySem.Challenge.rw_pq0479_01.prog w) (A.deeper (envOf "law" scope' L fa cd)) (execs body' (envOf "law" scope' L fa cd)) Q E s := by
  subst e2 e3 f2 f3; exact h
local macro_rules | `(tactic| walk_at "call ref") => `(tactic| k_extra "r88")
set_option maxRecDepth 100000 in
set_option maxHeartbeats 8000000 in
theorem law_D {w : World} {mean : ExcName → Option Value} {mg mb : Str → Option Value} {fa L src l dd D S : Addr} {cd : Value} {g : Heap} {s : Shared} {d : DV} {a0 b0 : Int} {ta tb tn : Tok} {n1 n2 : Nat} {its : List Value} {ws : List Int} {rest : List (Addr × Obj)} {m : Str → Option Value} {Q : Flow → Shared → Prop} {E : Value → Shared → Prop} {body : List Stmt} {scope : Scope}
  (f2 : (fB (st 163)).drop 15 = body) (f3 : fS (st 163) = scope)
  (Bl : Below callerA g [] g) (F : Fr g L s.heap m) (X : (K w.params).In g) (N : News g L s.heap ((dd, dst w.params d 0 tn) :: (src, listOf #[.ref l, .int a0 ta, .int b0 tb] n1) :: (l, listOf its.toArray n2) :: rest)) (T : Top q loose mean mg mb g)
  (U : SetUp w d dd D S rest) (o1 : @LT.lt Nat _ l src) (o2 : @LT.lt Nat _ src dd) (o3 : @LT.lt Nat _ l dd) (p1 : ∀ p ∈ rest, p.1 ≠ dd) (p2 : ∀ p ∈ rest, p.1 ≠ src) (p3 : ∀ p ∈ rest, p.1 ≠ l) (hi : IntsAre its ws) (hlen : its.length ≤ 40) (ha : 0 ≤ a0) (hb : 0 ≤ b0 ∧ b0 < 2147483563)
  (hm_source : m (Str.ofString "source") = some (.ref src)) (hm_scope : m (Str.ofString "scope") = some (.ref S)) (hm_design : m (Str.ofString "design") = some (.ref D))
  (ret : ∀ h' tk m', Fr g L h' m' → Q (.ret (.bool true)) { s with heap := h', toks := tk }) :
  wpAny (model PySem.Challenge.rw_pq0479_01.prog w) (callerA.deeper (envOf "law" scope L fa cd)) (execs body (envOf "law" scope L fa cd)) Q E s := by
  rw [mapFix hm_source] at F
  rw [mapFix hm_scope] at F
  rw [mapFix hm_design] at F
  revert F X N; k_fill; intro F X N
  (refine' law_startN (k := 15) ?e2 ?e3 f2 f3 ?_; (case e2 => ((conv => lhs; whnf); try exact rfl)); (case e3 => ((conv => lhs; whnf); try exact rfl)))
  clear f2 f3
  have mD := U.inst
  k_steps
  all_goals first | exact ret _ _ _ (by assumption)
end
theorem look29 {prog : Program} {w : World} {A : Around} {E Q : Value → Shared → Prop} {s : Shared} {t u : Tok} (h : wpAny (model prog w) A (binaryOp .Add (.int 1 t) (.int 2 u)) Q E s) : wpAny (model prog w) A (binaryOp .Add (.int 1 t) (.int 2 u)) Q E s := by first | (walk1; fail) | exact h
section
section
variable {w : World} {mean : ExcName → Option Value} {mg mb : Str → Option Value} {d : DV} {dd S e : Addr} {r1 all : List (Addr × Obj)} {kd ku : Nat} {dp un : Nat} {gd : Option (List Code)} {cn : Str} {cs : Scope} {a : Addr} {ccd : Value} {A₀ : Around} {base h₀ : Heap} {L : Addr} {m : Str → Option Value} {s : Shared} {Q E : Value → Shared → Prop} {tn : Tok}
theorem useC {wd x y : Int} {sg : Bool} (C : ConstOk w mean mg mb d dd 0 r1 S e kd ku wd x y sg)
   (Bl : Below A₀ base [] h₀) (F : Fr h₀ L s.heap m) (X : (K w.params).In h₀) (N : News h₀ L s.heap all) (T : Top q loose mean mg mb h₀) (hk : cs.kind = .function) (hdp : dp + kd < recursionLimit) (hun : un + ku < cLine)
   (hm : (dd, dst w.params d 0 tn) ∈ all) (D1 : Del dd all r1)
   (ret : ∀ r c h' tk t1 t2 t3 n1 n2 tn', Fr h₀ L h' m → News h₀ L h' ((r, tupO [.ref c, .bool sg] n1) :: (c, tupO [.int wd t1, .int x t2, .int y t3] n2) :: (dd, dst w.params d 0 tn') :: r1) → dd < c → (∀ p ∈ r1, p.1 < c) → c < r → Q (.ref r) { s with heap := h', toks := tk }) :
   wpAny (model PySem.Challenge.rw_pq0479_01.prog w) (ktrTop dp un gd cn cs L a ccd [] []) (call (.ref 1102) [.ref S, .ref e]) Q E s :=
  C dp un gd cn cs a ccd [] [] A₀ base h₀ L m s Q E tn Bl F X (newsSub N (consSub hm fun p hp => (D1.sub p hp).1)) T hk hdp hun fun r c h' tk t1 t2 t3 n1 n2 tn' F' N' l1 l2 =>
    ret _ _ _ _ _ _ _ _ _ _ F' N' (l1 _ List.mem_cons_self) (fun p hp => l1 p (List.mem_cons_of_mem _ hp)) l2
end
theorem mod40 {nb : Int} (h : (nb = 0 ∨ nb = -1 ∨ nb = 2147483647 ∨ nb = 2147483648 ∨ nb = -2147483648 ∨ nb = -2147483649 ∨ nb = 549755813887 ∨ nb = -549755813888)) : (0 ≤ nb.fmod 1099511627776 ∧ nb.fmod 1099511627776 < 1099511627776) ∧ nb = if nb.fmod 1099511627776 < 2 ^ 39 then nb.fmod 1099511627776 else nb.fmod 1099511627776 - 2 ^ 40 := by
  rcases h with rfl | rfl | rfl | rfl | rfl | rfl | rfl | rfl <;> decide
local macro_rules | `(tactic| walk_at "call ref") => `(tactic| k_extra "r89")
local macro_rules | `(tactic| walk_at "compareOp In int ref") => `(tactic| k_extra "r90")
local macro_rules | `(tactic| walk_at "call ref") => `(tactic| k_extra "r91")
local macro_rules | `(tactic| walk_at "call ref") => `(tactic| k_extra "r92")
local macro_rules | `(tactic| walk_at "execs cons") => `(tactic| k_extra "r93")
set_option maxRecDepth 100000 in
set_option maxHeartbeats 8000000 in
theorem law_C2 {w : World} {mean : ExcName → Option Value} {mg mb : Str → Option Value} {fa L src l dd D S : Addr} {cd : Value} {g : Heap} {s : Shared} {d : DV} {a0 b0 nb : Int} {ta tb tn tnb : Tok} {n1 n2 : Nat} {its : List Value} {ws : List Int} {rest : List (Addr × Obj)} {m : Str → Option Value} {Q : Flow → Shared → Prop} {E : Value → Shared → Prop} {body : List Stmt} {scope : Scope}
  (f2 : (fB (st 163)).drop 12 = body) (f3 : fS (st 163) = scope)
  (Bl : Below callerA g [] g) (F : Fr g L s.heap m) (X : (K w.params).In g) (N : News g L s.heap ((dd, dst w.params d 0 tn) :: (src, listOf #[.ref l, .int a0 ta, .int b0 tb] n1) :: (l, listOf its.toArray n2) :: rest)) (T : Top q loose mean mg mb g)
  (U : SetUp w d dd D S rest) (o1 : @LT.lt Nat _ l src) (o2 : @LT.lt Nat _ src dd) (o3 : @LT.lt Nat _ l dd) (p1 : ∀ p ∈ rest, p.1 ≠ dd) (p2 : ∀ p ∈ rest, p.1 ≠ src) (p3 : ∀ p ∈ rest, p.1 ≠ l) (hi : IntsAre its ws) (hlen : its.length ≤ 40) (ha : 0 ≤ a0) (hb : 0 ≤ b0 ∧ b0 < 2147483563)
  (hm_source : m (Str.ofString "source") = some (.ref src)) (hm_scope : m (Str.ofString "scope") = some (.ref S)) (hm_design : m (Str.ofString "design") = some (.ref D)) (hm_number : m (Str.ofString "number") = some (.int nb tnb))(hn : (nb = 0 ∨ nb = -1 ∨ nb = 2147483647 ∨ nb = 2147483648 ∨ nb = -2147483648 ∨ nb = -2147483649 ∨ nb = 549755813887 ∨ nb = -549755813888))
  (ret : ∀ h' tk m', Fr g L h' m' → Q (.ret (.bool true)) { s with heap := h', toks := tk }) :
  wpAny (model PySem.Challenge.rw_pq0479_01.prog w) (callerA.deeper (envOf "law" scope L fa cd)) (execs body (envOf "law" scope L fa cd)) Q E s := by
  rw [mapFix hm_source] at F
  rw [mapFix hm_scope] at F
  rw [mapFix hm_design] at F
  rw [mapFix hm_number] at F
  revert F X N; k_fill; intro F X N
  (refine' law_startN (k := 12) ?e2 ?e3 f2 f3 ?_; (case e2 => ((conv => lhs; whnf); try exact rfl)); (case e3 => ((conv => lhs; whnf); try exact rfl)))
  clear f2 f3
  have mD := U.inst
  have hd : (-2147483648 ≤ nb ∧ nb ≤ 2147483647) ∨ (nb < -2147483648 ∨ nb > 2147483647) := by omega
  rcases hd with hr | hr
  · k_steps
    all_goals first | (exfalso; exact absurd rfl (by assumption)) | (unfold Stop; refine' law_D ?gx ?gy ?gb ?gf ?gX ?gn ?gt ?gU ?o1 ?o2 ?o3 ?p1 ?p2 ?p3 ?gi ?gl ?ga ?gc ?gh0 ?gh1 ?gh2 ret; (case gx => rfl); (case gy => rfl); (case gb => assumption); (case gf => assumption); (case gX => assumption); (case gt => assumption); (case gU => assumption); (case gh0 => exact rfl); (case gh1 => exact rfl); (case gh2 => exact rfl); (case gn => (refine' newsSub ?gN ?gS; (case gN => assumption); (case gS => k_dflt ktr_rel))); (case o1 => assumption); (case o2 => assumption); (case o3 => assumption); (case p1 => assumption); (case p2 => assumption); (case p3 => assumption); (case gi => assumption); (case gl => assumption); (case ga => first | assumption | omega); (case gc => first | assumption | omega))
  · k_steps
    all_goals first | (exfalso; exact absurd rfl (by assumption)) | (unfold Stop; refine' law_D ?gx ?gy ?gb ?gf ?gX ?gn ?gt ?gU ?o1 ?o2 ?o3 ?p1 ?p2 ?p3 ?gi ?gl ?ga ?gc ?gh0 ?gh1 ?gh2 ret; (case gx => rfl); (case gy => rfl); (case gb => assumption); (case gf => assumption); (case gX => assumption); (case gt => assumption); (case gU => assumption); (case gh0 => exact rfl); (case gh1 => exact rfl); (case gh2 => exact rfl); (case gn => (refine' newsSub ?gN ?gS; (case gN => assumption); (case gS => k_dflt ktr_rel))); (case o1 => assumption); (case o2 => assumption); (case o3 => assumption); (case p1 => assumption); (case p2 => assumption); (case p3 => assumption); (case gi => assumption); (case gl => assumption); (case ga => first | assumption | omega); (case gc => first | assumption | omega))
end
theorem look30 {prog : Program} {w : World} {A : Around} {E Q : Value → Shared → Prop} {s : Shared} {t u : Tok} (h : wpAny (model prog w) A (binaryOp .Add (.int 1 t) (.int 2 u)) Q E s) : wpAny (model prog w) A (binaryOp .Add (.int 1 t) (.int 2 u)) Q E s := by first | (walk1; fail) | exact h
section
theorem pickN {r : Int} (h : 0 ≤ r ∧ r < 8) : (([0, -1, 2147483647, 2147483648, -2147483648, -2147483649, 549755813887, -549755813888].getD r.toNat 0 : Int) = 0 ∨ ([0, -1, 2147483647, 2147483648, -2147483648, -2147483649, 549755813887, -549755813888].getD r.toNat 0 : Int) = -1 ∨ ([0, -1, 2147483647, 2147483648, -2147483648, -2147483649, 549755813887, -549755813888].getD r.toNat 0 : Int) = 2147483647 ∨ ([0, -1, 2147483647, 2147483648, -2147483648, -2147483649, 549755813887, -549755813888].getD r.toNat 0 : Int) = 2147483648 ∨ ([0, -1, 2147483647, 2147483648, -2147483648, -2147483649, 549755813887, -549755813888].getD r.toNat 0 : Int) = -2147483648 ∨ ([0, -1, 2147483647, 2147483648, -2147483648, -2147483649, 549755813887, -549755813888].getD r.toNat 0 : Int) = -2147483649 ∨ ([0, -1, 2147483647, 2147483648, -2147483648, -2147483649, 549755813887, -549755813888].getD r.toNat 0 : Int) = 549755813887 ∨ ([0, -1, 2147483647, 2147483648, -2147483648, -2147483649, 549755813887, -549755813888].getD r.toNat 0 : Int) = -549755813888) := by
  obtain ⟨k, rfl⟩ := Int.eq_ofNat_of_zero_le h.1
  have hk : k < 8 := by omega
  match k, hk with
  | 0, _ => exact .inl rfl
  | 1, _ => exact .inr (.inl rfl)
  | 2, _ => exact .inr (.inr (.inl rfl))
  | 3, _ => exact .inr (.inr (.inr (.inl rfl)))
  | 4, _ => exact .inr (.inr (.inr (.inr (.inl rfl))))
  | 5, _ => exact .inr (.inr (.inr (.inr (.inr (.inl rfl)))))
  | 6, _ => exact .inr (.inr (.inr (.inr (.inr (.inr (.inl rfl))))))
  | 7, _ => exact .inr (.inr (.inr (.inr (.inr (.inr (.inr rfl))))))
local macro_rules | `(tactic| walk_at "execs cons") => `(tactic| k_extra "r94")
set_option maxRecDepth 100000 in
set_option maxHeartbeats 8000000 in
theorem law_C1 {w : World} {mean : ExcName → Option Value} {mg mb : Str → Option Value} {fa L src l dd D S : Addr} {cd : Value} {g : Heap} {s : Shared} {d : DV} {a0 b0 : Int} {ta tb tn : Tok} {n1 n2 : Nat} {its : List Value} {ws : List Int} {rest : List (Addr × Obj)} {m : Str → Option Value} {Q : Flow → Shared → Prop} {E : Value → Shared → Prop} {body : List Stmt} {scope : Scope}
  (f2 : (fB (st 163)).drop 11 = body) (f3 : fS (st 163) = scope)
  (Bl : Below callerA g [] g) (F : Fr g L s.heap m) (X : (K w.params).In g) (N : News g L s.heap ((dd, dst w.params d 0 tn) :: (src, listOf #[.ref l, .int a0 ta, .int b0 tb] n1) :: (l, listOf its.toArray n2) :: rest)) (T : Top q loose mean mg mb g)
  (U : SetUp w d dd D S rest) (o1 : @LT.lt Nat _ l src) (o2 : @LT.lt Nat _ src dd) (o3 : @LT.lt Nat _ l dd) (p1 : ∀ p ∈ rest, p.1 ≠ dd) (p2 : ∀ p ∈ rest, p.1 ≠ src) (p3 : ∀ p ∈ rest, p.1 ≠ l) (hi : IntsAre its ws) (hlen : its.length ≤ 40) (ha : 0 ≤ a0) (hb : 0 ≤ b0 ∧ b0 < 2147483563)
  (hm_source : m (Str.ofString "source") = some (.ref src)) (hm_scope : m (Str.ofString "scope") = some (.ref S)) (hm_design : m (Str.ofString "design") = some (.ref D))
  (ret : ∀ h' tk m', Fr g L h' m' → Q (.ret (.bool true)) { s with heap := h', toks := tk }) :
  wpAny (model PySem.Challenge.rw_pq0479_01.prog w) (callerA.deeper (envOf "law" scope L fa cd)) (execs body (envOf "law" scope L fa cd)) Q E s := by
  rw [mapFix hm_source] at F
  rw [mapFix hm_scope] at F
  rw [mapFix hm_design] at F
  revert F X N; k_fill; intro F X N
  (refine' law_startN (k := 11) ?e2 ?e3 f2 f3 ?_; (case e2 => ((conv => lhs; whnf); try exact rfl)); (case e3 => ((conv => lhs; whnf); try exact rfl)))
  clear f2 f3
  have mD := U.inst
  k_steps
  all_goals first | (unfold Stop; refine' law_C2 ?gx ?gy ?gb ?gf ?gX ?gn ?gt ?gU ?o1 ?o2 ?o3 ?p1 ?p2 ?p3 ?gi ?gl ?ga ?gc ?gh0 ?gh1 ?gh2 ?gh3 ?ge ret; (case gx => rfl); (case gy => rfl); (case gb => assumption); (case gf => assumption); (case gX => assumption); (case gt => assumption); (case gU => assumption); (case gh0 => exact rfl); (case gh1 => exact rfl); (case gh2 => exact rfl); (case gh3 => exact rfl); (case gn => (refine' newsSub ?gN ?gS; (case gN => assumption); (case gS => k_dflt ktr_rel))); (case o1 => assumption); (case o2 => assumption); (case o3 => assumption); (case p1 => assumption); (case p2 => assumption); (case p3 => assumption); (case gi => assumption); (case gl => assumption); (case ga => first | assumption | omega); (case gc => first | assumption | omega); (case ge => exact pickN (by assumption)))
end
theorem look31 {prog : Program} {w : World} {A : Around} {E Q : Value → Shared → Prop} {s : Shared} {t u : Tok} (h : wpAny (model prog w) A (binaryOp .Add (.int 1 t) (.int 2 u)) Q E s) : wpAny (model prog w) A (binaryOp .Add (.int 1 t) (.int 2 u)) Q E s := by first | (walk1; fail) | exact h
section
local macro_rules | `(tactic| walk_at "call ref") => `(tactic| k_extra "r95")
local macro_rules | `(tactic| walk_at "call ref") => `(tactic| k_extra "r96")
local macro_rules | `(tactic| walk_at "call ref") => `(tactic| k_extra "r97")
local macro_rules | `(tactic| walk_at "execs cons") => `(tactic| k_extra "r98")
set_option maxRecDepth 100000 in
set_option maxHeartbeats 8000000 in
theorem law_B2 {w : World} {mean : ExcName → Option Value} {mg mb : Str → Option Value} {fa L src l dd D S e : Addr} {cd : Value} {g : Heap} {s : Shared} {d : DV} {a0 b0 : Int} {ta tb tn tdp : Tok} {n1 n2 k : Nat} {its : List Value} {ws : List Int} {rest : List (Addr × Obj)} {m : Str → Option Value} {Q : Flow → Shared → Prop} {E : Value → Shared → Prop} {body : List Stmt} {scope : Scope}
  (f2 : (fB (st 163)).drop 8 = body) (f3 : fS (st 163) = scope)
  (Bl : Below callerA g [] g) (F : Fr g L s.heap m) (X : (K w.params).In g) (N : News g L s.heap ((dd, dst w.params d 0 tn) :: (src, listOf #[.ref l, .int a0 ta, .int b0 tb] n1) :: (l, listOf its.toArray n2) :: rest)) (T : Top q loose mean mg mb g)
  (U : SetUp w d dd D S rest) (o1 : @LT.lt Nat _ l src) (o2 : @LT.lt Nat _ src dd) (o3 : @LT.lt Nat _ l dd) (p1 : ∀ p ∈ rest, p.1 ≠ dd) (p2 : ∀ p ∈ rest, p.1 ≠ src) (p3 : ∀ p ∈ rest, p.1 ≠ l) (hi : IntsAre its ws) (hlen : its.length ≤ 40) (ha : 0 ≤ a0) (hb : 0 ≤ b0 ∧ b0 < 2147483563)
  (hm_source : m (Str.ofString "source") = some (.ref src)) (hm_scope : m (Str.ofString "scope") = some (.ref S)) (hm_design : m (Str.ofString "design") = some (.ref D)) (hm_deep : m (Str.ofString "deep") = some (.int (k : Int) tdp)) (hm_e : m (Str.ofString "e") = some (.ref e))(R : RC rest k e) (hk : k < 8 ∨ (8 ≤ k ∧ k ≤ 12))
  (ret : ∀ h' tk m', Fr g L h' m' → Q (.ret (.bool true)) { s with heap := h', toks := tk }) :
  wpAny (model PySem.Challenge.rw_pq0479_01.prog w) (callerA.deeper (envOf "law" scope L fa cd)) (execs body (envOf "law" scope L fa cd)) Q E s := by
  rw [mapFix hm_source] at F
  rw [mapFix hm_scope] at F
  rw [mapFix hm_design] at F
  rw [mapFix hm_deep] at F
  rw [mapFix hm_e] at F
  revert F X N; k_fill; intro F X N
  (refine' law_startN (k := 8) ?e2 ?e3 f2 f3 ?_; (case e2 => ((conv => lhs; whnf); try exact rfl)); (case e3 => ((conv => lhs; whnf); try exact rfl)))
  clear f2 f3
  have mD := U.inst
  rcases hk with hk | hk
  · k_steps
    all_goals first | (unfold Stop; refine' law_C1 ?gx ?gy ?gb ?gf ?gX ?gn ?gt ?gU ?o1 ?o2 ?o3 ?p1 ?p2 ?p3 ?gi ?gl ?ga ?gc ?gh0 ?gh1 ?gh2 ret; (case gx => rfl); (case gy => rfl); (case gb => assumption); (case gf => assumption); (case gX => assumption); (case gt => assumption); (case gU => assumption); (case gh0 => exact rfl); (case gh1 => exact rfl); (case gh2 => exact rfl); (case gn => (refine' newsSub ?gN ?gS; (case gN => assumption); (case gS => k_dflt ktr_rel))); (case o1 => assumption); (case o2 => assumption); (case o3 => assumption); (case p1 => assumption); (case p2 => assumption); (case p3 => assumption); (case gi => assumption); (case gl => assumption); (case ga => first | assumption | omega); (case gc => first | assumption | omega)) | (exfalso; exact absurd rfl (by assumption)) | (exfalso; omega)
  · k_steps
    all_goals first | (unfold Stop; refine' law_C1 ?gx ?gy ?gb ?gf ?gX ?gn ?gt ?gU ?o1 ?o2 ?o3 ?p1 ?p2 ?p3 ?gi ?gl ?ga ?gc ?gh0 ?gh1 ?gh2 ret; (case gx => rfl); (case gy => rfl); (case gb => assumption); (case gf => assumption); (case gX => assumption); (case gt => assumption); (case gU => assumption); (case gh0 => exact rfl); (case gh1 => exact rfl); (case gh2 => exact rfl); (case gn => (refine' newsSub ?gN ?gS; (case gN => assumption); (case gS => k_dflt ktr_rel))); (case o1 => assumption); (case o2 => assumption); (case o3 => assumption); (case p1 => assumption); (case p2 => assumption); (case p3 => assumption); (case gi => assumption); (case gl => assumption); (case ga => first | assumption | omega); (case gc => first | assumption | omega)) | (exfalso; exact absurd rfl (by assumption)) | (exfalso; omega)
end
theorem look32 {prog : Program} {w : World} {A : Around} {E Q : Value → Shared → Prop} {s : Shared} {t u : Tok} (h : wpAny (model prog w) A (binaryOp .Add (.int 1 t) (.int 2 u)) Q E s) : wpAny (model prog w) A (binaryOp .Add (.int 1 t) (.int 2 u)) Q E s := by first | (walk1; fail) | exact h
section
/-- what holds ahead of the loop's turn i -/
noncomputable def LoopJ (w : World) (d : DV) (dd D S src l : Addr) (a0 b0 : Int) (ta tb : Tok) (n1 n2 : Nat) (its : List Value) (k : Nat) (tdp : Tok) (rest : List (Addr × Obj)) (i : Nat) (m : Str → Option Value) (news : List (Addr × Obj)) : Prop :=
  ∃ e r tn, m (Str.ofString "source") = some (.ref src) ∧ m (Str.ofString "scope") = some (.ref S) ∧ m (Str.ofString "design") = some (.ref D) ∧ m (Str.ofString "deep") = some (.int (k : Int) tdp) ∧ m (Str.ofString "e") = some (.ref e) ∧
    RC r i e ∧ (∀ p ∈ rest, p ∈ r) ∧ ((∀ p ∈ r, p.1 ≠ dd) ∧ (∀ p ∈ r, p.1 ≠ src) ∧ (∀ p ∈ r, p.1 ≠ l)) ∧
    (dd, dst w.params d 0 tn) ∈ news ∧ (src, listOf #[.ref l, .int a0 ta, .int b0 tb] n1) ∈ news ∧ (l, listOf its.toArray n2) ∈ news ∧ (∀ p ∈ r, p ∈ news)
theorem offCons {x : Addr × Obj} {l : List (Addr × Obj)} {y : Addr} (h : y < x.1) (t : ∀ p ∈ l, p.1 ≠ y) : ∀ p ∈ x :: l, p.1 ≠ y := List.forall_mem_cons.mpr ⟨Nat.ne_of_gt h, t⟩
section
variable {w : World} {d : DV} {dd D S src l : Addr} {a0 b0 : Int} {ta tb : Tok} {n1 n2 : Nat} {its : List Value} {k : Nat} {tdp : Tok} {rest r news₁ news' : List (Addr × Obj)} {m : Str → Option Value}
theorem LoopJ.start {e v : Addr} {t1 t2 t3 t4 t5 tn : Tok} {ne nv : Nat} (hs : m (Str.ofString "source") = some (.ref src)) (hc : m (Str.ofString "scope") = some (.ref S)) (hd : m (Str.ofString "design") = some (.ref D)) (hp : m (Str.ofString "deep") = some (.int (k : Int) tdp)) (he : m (Str.ofString "e") = some (.ref e))
    (md : (dd, dst w.params d 0 tn) ∈ news') (ms : (src, listOf #[.ref l, .int a0 ta, .int b0 tb] n1) ∈ news') (ml : (l, listOf its.toArray n2) ∈ news')
    (me : (e, tupO [.str "num" t1, .int 100 t2, .ref v, .bool true, .bool false] ne) ∈ news') (mv : (v, tupO [.int 32 t3, .int 1 t4, .int 0 t5] nv) ∈ news') (mr : ∀ p ∈ rest, p ∈ news')
    (p1 : ∀ p ∈ rest, p.1 ≠ dd) (p2 : ∀ p ∈ rest, p.1 ≠ src) (p3 : ∀ p ∈ rest, p.1 ≠ l) (q1 : @LT.lt Nat _ dd e) (q2 : @LT.lt Nat _ src e) (q3 : @LT.lt Nat _ l e) (q4 : @LT.lt Nat _ dd v) (q5 : @LT.lt Nat _ src v) (q6 : @LT.lt Nat _ l v) :
    LoopJ w d dd D S src l a0 b0 ta tb n1 n2 its k tdp rest 0 m news' :=
  ⟨e, (e, _) :: (v, _) :: rest, _, hs, hc, hd, hp, he, .z List.mem_cons_self (List.mem_cons_of_mem _ List.mem_cons_self), tailSub (tailSub selfSub),
    ⟨offCons q1 (offCons q4 p1), offCons q2 (offCons q5 p2), offCons q3 (offCons q6 p3)⟩, md, ms, ml, consSub me (consSub mv mr)⟩
theorem LoopJ.step {i : Nat} {e e' p nm nv : Addr} {q1 q2 u1 u2 u3 u4 u5 tn : Tok} {k1 kp nn nz : Nat} (hs : m (Str.ofString "source") = some (.ref src)) (hc : m (Str.ofString "scope") = some (.ref S)) (hd : m (Str.ofString "design") = some (.ref D)) (hp : m (Str.ofString "deep") = some (.int (k : Int) tdp)) (he : m (Str.ofString "e") = some (.ref e'))
    (jR : RC r i e) (jS : ∀ p ∈ rest, p ∈ r) (jd : ∀ p ∈ r, p.1 ≠ dd) (js : ∀ p ∈ r, p.1 ≠ src) (jl : ∀ p ∈ r, p.1 ≠ l)
    (md : (dd, dst w.params d 0 tn) ∈ news₁) (ms : (src, listOf #[.ref l, .int a0 ta, .int b0 tb] n1) ∈ news₁) (ml : (l, listOf its.toArray n2) ∈ news₁) (mr : ∀ p ∈ r, p ∈ news₁)
    (mE : (e', tupO [.str "rep" q1, .int (101 + i) q2, .ref e, .ref p] k1) ∈ news') (mP : (p, tupO [.ref nm] kp) ∈ news') (mN : (nm, tupO [.str "num" u1, .int 50 u2, .ref nv, .bool false, .bool true] nn) ∈ news') (mV : (nv, tupO [.int 1 u3, .int 1 u4, .int 0 u5] nz) ∈ news') (sub : ∀ p ∈ news₁, p ∈ news')
    (a1 : ∀ p ∈ news₁, p.1 < e') (a2 : ∀ x ∈ news₁, x.1 < p) (a3 : ∀ p ∈ news₁, p.1 < nm) (a4 : ∀ p ∈ news₁, p.1 < nv) :
    LoopJ w d dd D S src l a0 b0 ta tb n1 n2 its k tdp rest (i + 1) m news' :=
  ⟨e', (e', _) :: (p, _) :: (nm, _) :: (nv, _) :: r, _, hs, hc, hd, hp, he,
    .s List.mem_cons_self (List.mem_cons_of_mem _ List.mem_cons_self) (List.mem_cons_of_mem _ (List.mem_cons_of_mem _ List.mem_cons_self)) (List.mem_cons_of_mem _ (List.mem_cons_of_mem _ (List.mem_cons_of_mem _ List.mem_cons_self))) (jR.sub (tailSub (tailSub (tailSub (tailSub selfSub))))),
    fun x hx => tailSub (tailSub (tailSub (tailSub selfSub))) x (jS x hx),
    ⟨offCons (a1 _ md) (offCons (a2 _ md) (offCons (a3 _ md) (offCons (a4 _ md) jd))), offCons (a1 _ ms) (offCons (a2 _ ms) (offCons (a3 _ ms) (offCons (a4 _ ms) js))), offCons (a1 _ ml) (offCons (a2 _ ml) (offCons (a3 _ ml) (offCons (a4 _ ml) jl)))⟩,
    sub _ md, sub _ ms, sub _ ml, consSub mE (consSub mP (consSub mN (consSub mV fun x hx => sub x (mr x hx))))⟩
end
local macro_rules | `(tactic| walk_at "call type:range") => `(tactic| k_extra "r99")
local macro_rules | `(tactic| walk_at "OneAt") => `(tactic| k_extra "r100")
local macro_rules | `(tactic| walk_at "execs cons") => `(tactic| k_extra "r101")
set_option maxRecDepth 100000 in
set_option maxHeartbeats 8000000 in
theorem law_B1 {w : World} {mean : ExcName → Option Value} {mg mb : Str → Option Value} {fa L src l dd D S : Addr} {cd : Value} {g : Heap} {s : Shared} {d : DV} {a0 b0 : Int} {ta tb tn tdp : Tok} {n1 n2 k : Nat} {its : List Value} {ws : List Int} {rest : List (Addr × Obj)} {m : Str → Option Value} {Q : Flow → Shared → Prop} {body : List Stmt} {scope : Scope}
  (f2 : (fB (st 163)).drop 6 = body) (f3 : fS (st 163) = scope)
  (Bl : Below callerA g [] g) (F : Fr g L s.heap m) (X : (K w.params).In g) (N : News g L s.heap ((dd, dst w.params d 0 tn) :: (src, listOf #[.ref l, .int a0 ta, .int b0 tb] n1) :: (l, listOf its.toArray n2) :: rest)) (T : Top q loose mean mg mb g)
  (U : SetUp w d dd D S rest) (o1 : @LT.lt Nat _ l src) (o2 : @LT.lt Nat _ src dd) (o3 : @LT.lt Nat _ l dd) (p1 : ∀ p ∈ rest, p.1 ≠ dd) (p2 : ∀ p ∈ rest, p.1 ≠ src) (p3 : ∀ p ∈ rest, p.1 ≠ l) (hi : IntsAre its ws) (hlen : its.length ≤ 40) (ha : 0 ≤ a0) (hb : 0 ≤ b0 ∧ b0 < 2147483563)
  (hm_source : m (Str.ofString "source") = some (.ref src)) (hm_scope : m (Str.ofString "scope") = some (.ref S)) (hm_design : m (Str.ofString "design") = some (.ref D)) (hm_deep : m (Str.ofString "deep") = some (.int (k : Int) tdp))(hk : k < 8 ∨ (8 ≤ k ∧ k ≤ 12))
  (ret : ∀ h' tk m', Fr g L h' m' → Q (.ret (.bool true)) { s with heap := h', toks := tk }) :
  wpAny (model PySem.Challenge.rw_pq0479_01.prog w) (callerA.deeper (envOf "law" scope L fa cd)) (execs body (envOf "law" scope L fa cd)) Q (fun _ _ => False) s := by
  rw [mapFix hm_source] at F
  rw [mapFix hm_scope] at F
  rw [mapFix hm_design] at F
  rw [mapFix hm_deep] at F
  revert F X N; k_fill; intro F X N
  (refine' law_startN (k := 6) ?e2 ?e3 f2 f3 ?_; (case e2 => ((conv => lhs; whnf); try exact rfl)); (case e3 => ((conv => lhs; whnf); try exact rfl)))
  clear f2 f3
  have mD := U.inst
  k_steps
  unfold Stop
  refine' OneAt.rng (k := k) (LoopJ w d dd D S src l a0 b0 ta tb n1 n2 its k tdp rest) ?oh ?ox ?op ?oE ?ok ?oF ?oN ?om ?oJ ?turn ?done
  case oh => exact rfl
  case ox => exact rfl
  case op => exact rfl
  case oE => exact PassesOwn.never
  case ok => omega
  case oF => k_asm
  case oN => k_asm
  case om => k_dflt k_mem
  case oJ =>
    refine' LoopJ.start rfl rfl rfl rfl rfl ?md ?ms ?ml ?me ?mv ?mr p1 p2 p3 ?q1 ?q2 ?q3 ?q4 ?q5 ?q6
    case md => k_dflt k_mem
    case ms => k_dflt k_mem
    case ml => k_dflt k_mem
    case me => k_dflt k_mem
    case mv => k_dflt k_mem
    case mr => ktr_rel
    case q1 => tb_rel
    case q2 => tb_rel
    case q3 => tb_rel
    case q4 => tb_rel
    case q5 => tb_rel
    case q6 => tb_rel
  case turn =>
    intro i I it m₁ news₁ h' tk tt hik hj hne F N
    obtain ⟨e, r, tn', j1, j2, j3, j4, j5, jR, jS, ⟨jd, js, jl⟩, md, ms, ml, mr⟩ := hj
    rw [mapFix j5] at F
    k_steps
    refine' TurnEnd.nx ?tF ?tN ?ti ?td ?tJ
    case tF => k_asm
    case tN => k_asm
    case ti => k_dflt k_mem
    case td => k_dflt k_updF
    case tJ =>
      refine' LoopJ.step j1 j2 j3 j4 rfl jR jS jd js jl md ms ml mr ?mE ?mP ?mN ?mV ?sub ?a1 ?a2 ?a3 ?a4
      case mE => k_dflt k_mem
      case mP => k_dflt k_mem
      case mN => k_dflt k_mem
      case mV => k_dflt k_mem
      case sub => k_dflt ktr_rel
      case a1 => tb_rel
      case a2 => tb_rel
      case a3 => tb_rel
      case a4 => tb_rel
  case done =>
    intro m₁ news₁ h' tk hj F N
    obtain ⟨e, r, tn', j1, j2, j3, j4, j5, jR, jS, ⟨jd, js, jl⟩, md, ms, ml, mr⟩ := hj
    have U' := U.sub jS
    k_steps
    unfold Stop
    refine' law_B2 ?gx ?gy Bl ?gf ?gX ?gn T U' o1 o2 o3 jd js jl hi hlen ha hb j1 j2 j3 j4 j5 jR hk ret
    case gx => rfl
    case gy => rfl
    case gf => assumption
    case gX => assumption
    case gn =>
      refine' newsSub ?gN ?gS
      case gN => assumption
      case gS => k_dflt ktr_rel
end
theorem look33 {prog : Program} {w : World} {A : Around} {E Q : Value → Shared → Prop} {s : Shared} {t u : Tok} (h : wpAny (model prog w) A (binaryOp .Add (.int 1 t) (.int 2 u)) Q E s) : wpAny (model prog w) A (binaryOp .Add (.int 1 t) (.int 2 u)) Q E s := by first | (walk1; fail) | exact h
section
theorem pickD {r : Int} (h : 0 ≤ r ∧ r < 8) : ∃ k : Nat, ([0, 1, 2, 3, 4, 8, 9, 12].getD r.toNat 0 : Int) = (k : Int) ∧ (k < 8 ∨ (8 ≤ k ∧ k ≤ 12)) := by
  obtain ⟨k, rfl⟩ := Int.eq_ofNat_of_zero_le h.1
  have hk : k < 8 := by omega
  match k, hk with
  | 0, _ => exact ⟨0, rfl, by decide⟩
  | 1, _ => exact ⟨1, rfl, by decide⟩
  | 2, _ => exact ⟨2, rfl, by decide⟩
  | 3, _ => exact ⟨3, rfl, by decide⟩
  | 4, _ => exact ⟨4, rfl, by decide⟩
  | 5, _ => exact ⟨8, rfl, by decide⟩
  | 6, _ => exact ⟨9, rfl, by decide⟩
  | 7, _ => exact ⟨12, rfl, by decide⟩
local macro_rules | `(tactic| walk_at "execs cons") => `(tactic| k_extra "r94")
set_option maxRecDepth 100000 in
set_option maxHeartbeats 8000000 in
theorem law_B0 {w : World} {mean : ExcName → Option Value} {mg mb : Str → Option Value} {fa L src l dd D S : Addr} {cd : Value} {g : Heap} {s : Shared} {d : DV} {a0 b0 : Int} {ta tb tn : Tok} {n1 n2 : Nat} {its : List Value} {ws : List Int} {rest : List (Addr × Obj)} {m : Str → Option Value} {Q : Flow → Shared → Prop} {body : List Stmt} {scope : Scope}
  (f2 : (fB (st 163)).drop 5 = body) (f3 : fS (st 163) = scope)
  (Bl : Below callerA g [] g) (F : Fr g L s.heap m) (X : (K w.params).In g) (N : News g L s.heap ((dd, dst w.params d 0 tn) :: (src, listOf #[.ref l, .int a0 ta, .int b0 tb] n1) :: (l, listOf its.toArray n2) :: rest)) (T : Top q loose mean mg mb g)
  (U : SetUp w d dd D S rest) (o1 : @LT.lt Nat _ l src) (o2 : @LT.lt Nat _ src dd) (o3 : @LT.lt Nat _ l dd) (p1 : ∀ p ∈ rest, p.1 ≠ dd) (p2 : ∀ p ∈ rest, p.1 ≠ src) (p3 : ∀ p ∈ rest, p.1 ≠ l) (hi : IntsAre its ws) (hlen : its.length ≤ 40) (ha : 0 ≤ a0) (hb : 0 ≤ b0 ∧ b0 < 2147483563)
  (hm_source : m (Str.ofString "source") = some (.ref src)) (hm_scope : m (Str.ofString "scope") = some (.ref S)) (hm_design : m (Str.ofString "design") = some (.ref D))
  (ret : ∀ h' tk m', Fr g L h' m' → Q (.ret (.bool true)) { s with heap := h', toks := tk }) :
  wpAny (model PySem.Challenge.rw_pq0479_01.prog w) (callerA.deeper (envOf "law" scope L fa cd)) (execs body (envOf "law" scope L fa cd)) Q (fun _ _ => False) s := by
  rw [mapFix hm_source] at F
  rw [mapFix hm_scope] at F
  rw [mapFix hm_design] at F
  revert F X N; k_fill; intro F X N
  (refine' law_startN (k := 5) ?e2 ?e3 f2 f3 ?_; (case e2 => ((conv => lhs; whnf); try exact rfl)); (case e3 => ((conv => lhs; whnf); try exact rfl)))
  clear f2 f3
  have mD := U.inst
  k_steps
  unfold Stop
  have hp := pickD (by assumption)
  obtain ⟨k, ek, hk⟩ := hp
  refine' law_B1 (k := k) ?gx ?gy ?gb ?gf ?gX ?gn ?gt ?gU ?o1 ?o2 ?o3 ?p1 ?p2 ?p3 ?gi ?gl ?ga ?gc ?gh0 ?gh1 ?gh2 ?gh3 hk ret
  case gx => rfl
  case gy => rfl
  case gb => assumption
  case gf => assumption
  case gX => assumption
  case gt => assumption
  case gU => assumption
  case gh0 => exact rfl
  case gh1 => exact rfl
  case gh2 => exact rfl
  case gh3 => rw [← ek]; exact rfl
  case gn =>
    refine' newsSub ?gN ?gS
    case gN => assumption
    case gS => k_dflt ktr_rel
  case o1 => assumption
  case o2 => assumption
  case o3 => assumption
  case p1 => assumption
  case p2 => assumption
  case p3 => assumption
  case gi => assumption
  case gl => assumption
  case ga => first | assumption | omega
  case gc => first | assumption | omega
end
end
theorem look34 {prog : Program} {w : World} {A : Around} {E Q : Value → Shared → Prop} {s : Shared} {t u : Tok} (h : wpAny (model prog w) A (binaryOp .Add (.int 1 t) (.int 2 u)) Q E s) : wpAny (model prog w) A (binaryOp .Add (.int 1 t) (.int 2 u)) Q E s := by first | (walk1; fail) | exact h
section
theorem setUpOf {w : World} {d : DV} {dd D S ds en sg sl s0 sd : Addr} {c : SV} {G : GV} {oE : Obj} {t4 y1 y2 : Tok} {nsg nsl : Nat} (lo : (en == sysModules) = false) (hE : oE.IsDictOf (PySem.strKind PySem.Challenge.rw_pq0479_01.prog w) [(Str.ofString "s", Value.ref sg)])
    (h8 : c.v8 = .ref en) (h1 : d.v1 = .ref sl) (h4 : c.v4 = .str "module" t4) : SetUp w d dd D S [(S, instObj 1315 ds), (ds, sst w.params c D), (D, instObj 1238 dd), (en, oE), (sg, tupO [.str "sig" y1, .int 0 y2] nsg), (sl, listOf #[.ref s0] nsl), (s0, instObj 1175 sd), (sd, gst w.params G)] :=
  ⟨ds, en, sg, sl, s0, sd, c, G, oE, t4, y1, y2, nsg, nsl, List.mem_cons_self, (List.mem_cons_of_mem _ List.mem_cons_self), (List.mem_cons_of_mem _ (List.mem_cons_of_mem _ List.mem_cons_self)), (List.mem_cons_of_mem _ (List.mem_cons_of_mem _ (List.mem_cons_of_mem _ List.mem_cons_self))), (List.mem_cons_of_mem _ (List.mem_cons_of_mem _ (List.mem_cons_of_mem _ (List.mem_cons_of_mem _ List.mem_cons_self)))), (List.mem_cons_of_mem _ (List.mem_cons_of_mem _ (List.mem_cons_of_mem _ (List.mem_cons_of_mem _ (List.mem_cons_of_mem _ List.mem_cons_self))))), (List.mem_cons_of_mem _ (List.mem_cons_of_mem _ (List.mem_cons_of_mem _ (List.mem_cons_of_mem _ (List.mem_cons_of_mem _ (List.mem_cons_of_mem _ List.mem_cons_self)))))), (List.mem_cons_of_mem _ (List.mem_cons_of_mem _ (List.mem_cons_of_mem _ (List.mem_cons_of_mem _ (List.mem_cons_of_mem _ (List.mem_cons_of_mem _ (List.mem_cons_of_mem _ List.mem_cons_self))))))), lo, hE, h8, h1, h4⟩
theorem takeLen {ws : List Value} {ns : List Int} (h : IntsAre ws (List.take 40 ns)) : ws.length ≤ 40 := by
  rw [IntsAre.length h, List.length_take]; omega
theorem seedB {x : Int} : 0 ≤ 1 + x.fmod 9973 ∧ 1 + x.fmod 9973 < 2147483563 := by
  have h := fmP (x := x) (k := 9973) (by decide)
  omega
local macro_rules | `(tactic| walk_at "call ref") => `(tactic| k_extra "r102")
local macro_rules | `(tactic| walk_at "call ref") => `(tactic| k_extra "r103")
local macro_rules | `(tactic| walk_at "call ref") => `(tactic| k_extra "r104")
local macro_rules | `(tactic| walk_at "call ref") => `(tactic| k_extra "r105")
local macro_rules | `(tactic| walk_at "execs cons") => `(tactic| k_extra "r106")
set_option maxRecDepth 100000 in
set_option maxHeartbeats 8000000 in
theorem law_A {w : World} {mean : ExcName → Option Value} {mg mb : Str → Option Value} {fa L sl : Addr} {cd : Value} {g : Heap} {s : Shared} {vs : List Value} {ns : List Int} {Q : Flow → Shared → Prop}
  (Bl : Below callerA g [] g) (X : (K w.params).In g) (T : Top q loose mean mg mb g) (F : Fr g L s.heap (fun x => List.lookup x [(Str.ofString "script", Value.ref sl)])) (N : News g L s.heap []) (hL : g.IsList sl vs.toArray) (hI : IntsAre vs ns) (hlen : ns.length ≤ 63)
  (ret : ∀ h' tk m', Fr g L h' m' → Q (.ret (.bool true)) { s with heap := h', toks := tk }) :
  wpAny (model PySem.Challenge.rw_pq0479_01.prog w) (callerA.deeper (envOf "law" (fS (st 163)) L fa cd)) (execs (fB (st 163)) (envOf "law" (fS (st 163)) L fa cd)) Q (fun _ _ => False) s := by
  revert X N F; k_fill; intro F X N
  (refine' law_start ?e2 ?e3 ?_; (case e2 => ((conv => lhs; whnf); try exact rfl)); (case e3 => ((conv => lhs; whnf); try exact rfl)))
  k_steps
  unfold Stop
  (with_reducible rename (∃ t, _ = Value.str (Str.ofString "module") t) => hE4)
  obtain ⟨t4, h4⟩ := hE4
  refine' law_B0 ?gx ?gy ?gb ?gf ?gX ?gn ?gt (setUpOf ?lo ?hE ?h8 ?h1 h4) ?o1 ?o2 ?o3 ?p1 ?p2 ?p3 ?gi ?gl ?ga ?gc ?gh0 ?gh1 ?gh2 ret
  case gx => rfl
  case gy => rfl
  case gb => assumption
  case gf => assumption
  case gX => assumption
  case gt => assumption
  case gh0 => exact rfl
  case gh1 => exact rfl
  case gh2 => exact rfl
  case hE => assumption
  case h8 => assumption
  case h1 => assumption
  case lo => assumption
  case gn =>
    refine' newsSub ?gN (consSub ?a0 (consSub ?a1 (consSub ?a2 (consSub ?a3 (consSub ?a4 (consSub ?a5 (consSub ?a6 (consSub ?a7 (consSub ?a8 (consSub ?a9 (consSub ?a10 nilSub)))))))))))
    case gN => assumption
    case a1 => k_dflt k_mem
    case a2 => k_dflt k_mem
    case a3 => k_dflt k_mem
    case a4 => k_dflt k_mem
    case a5 => k_dflt k_mem
    case a0 => k_dflt k_mem
    case a6 => k_dflt k_mem
    case a7 => k_dflt k_mem
    case a8 => k_dflt k_mem
    case a9 => k_dflt k_mem
    case a10 => k_dflt k_mem
  case o1 => tb_rel
  case o2 => tb_rel
  case o3 => tb_rel
  case p1 => k_all
  case p2 => k_all
  case p3 => k_all
  case gi => assumption
  case gl => exact takeLen (by assumption)
  case ga => exact Int.le_refl 0
  case gc => exact seedB
end
end
end
end
end
theorem look35 {prog : Program} {w : World} {A : Around} {E Q : Value → Shared → Prop} {s : Shared} {t u : Tok} (h : wpAny (model prog w) A (binaryOp .Add (.int 1 t) (.int 2 u)) Q E s) : wpAny (model prog w) A (binaryOp .Add (.int 1 t) (.int 2 u)) Q E s := by first | (walk1; fail) | exact h
section
local macro_rules | `(tactic| k_qdec) => `(tactic| k_extra "r107")
set_option maxRecDepth 100000 in
set_option maxHeartbeats 8000000 in
theorem walk : WalkO q loose (XL q []) (Hook.says HH) LW.row.toRowW dL [] (fun f vs => PySem.call f vs) := by
  k_go0
  (rename Heap.IsList _ _ _ => xL; rename IntsAre _ _ => xI; rename Below _ _ _ _ => xB; rename (K _).In _ => xX; rename Top _ _ _ _ _ _ => xT; rename Fr _ _ _ _ => xF; rename News _ _ _ _ => xN; rename ¬ _ < _ => xn)
  refine' wpAny_mono (law_A xB xX xT xF xN xL xI (by omega) ?ret) (fun f s' h => h) (fun _ _ h => h.elim)
  case ret =>
    intro h' tk m' F'
    k_steps
end
end Mine
theorem PySem.Challenge.cw_pq0479_01_holds : PySem.Challenge.rw_pq0479_01.Holds := by
  exact Mine.head Mine.said Mine.dL Mine.isDef Mine.isThe Mine.kwW Mine.walk
