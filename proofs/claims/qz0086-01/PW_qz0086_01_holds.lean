import PyProof.Rows.All
import Wide.All
import OpenK.AllK
import Wide.FinOn
import Lean
import PySem.Challenge.RW_qz0086_01
set_option Elab.async false
set_option linter.unusedVariables false
set_option linter.unusedSimpArgs false
set_option rowWalk.seconds 0
set_option compiler.extract_closed false
namespace Mine
theorem own_words : True := by
  k_with "z0" => ((try simp only [depth_under_make, depth_under_kw, depth_in1, depth_deeper, depth_caller]); (try dsimp only [ktrTop]); (simp only [recursionLimit] at *); omega)
  k_with "z1" => (
      (case k6 => k_is)
      (case k7 => k_is)
      (case k8 => k_room)
      (case k9 => exact BindsTo.of_eq rfl)
      (case c5 => decide)
      (case kB => exact locs rfl)
      (case c2 => exact rfl)
      (case c3 => exact rfl)
      (case c4 => exact rfl)
      intro g' L' h' FG' F' N' B' X' T'
      dsimp only
      (conv in fdB _ => whnf)
      k_fold)
  k_with "z2" => (k_here; k_dflt (refine' raise_bad rfl ?z9F ?z9X ?_; (case z9F => k_asm); (case z9X => k_asm)))
  k_with "z3" => (k_here; k_dflt (refine' call_bad ?z9B ?z9F ?z9X ?z9T rfl ?z9r ?_; (case z9B => k_asm); (case z9F => k_asm); (case z9X => k_asm); (case z9T => k_asm); (case z9r => k_room); intro h7 tk7 e7 dd7 t7 F7 N7; refine' ⟨_, _, _, rfl, F7, N7, ?_⟩; k_unfold; refine' leave_own ?z9B ?z9G F7 N7 ?_; (case z9B => k_asm); (case z9G => k_asm); intro h8 R8; exact err _ _ _ R8))
  k_with "z4" => (intro x8 h8 tk8 R8; k_unfold; refine' leave_pass ?z9B ?z9G R8 ?_; (case z9B => k_asm); (case z9G => k_asm); intro h9 R9; exact err _ _ _ R9)
  k_with "z5" => (
      (case k6 => k_is)
      (case k7 => k_is)
      (case k8 => k_room)
      (case k9 => exact BindsTo.of_eq rfl)
      (case kB => exact rfl)
      (case kD => decide +kernel)
      (case c2 => exact rfl)
      (case c3 => exact rfl)
      (case c4 => exact rfl)
      intro g' L' h' tk' cells' FG' F' N' Y' B' X' T' l1
      (try k_lt l1)
      k_cells Y'
      (try simp only [List.cons_append, List.nil_append] at N')
      dsimp only
      show wpAny _ _ _ _ _ _
      (conv in fdB _ => whnf)
      k_fold)
  k_with "z6" => first | (refine' allne_of ?z9h9 ?z9e9; (case z9h9 => assumption); (case z9e9 => omega)) | (refine' allne_of l1 ?z9e9; (case z9e9 => omega)) | fail "no order"
  k_with "z7" => (k_here; refine item_str (by kernel_rfl!) (by decide +kernel) (by decide +kernel) ?_; intro _)
  k_with "z8" => (k_here; (first | (with_reducible show wpAny _ _ (eval (Expr.Name _ _) (envOf _ _ _ _ _)) _ _ _) | (with_reducible show wpAny _ _ (eval (Expr.Name _ _) (envOfC _ _ _ _ _)) _ _ _)); k_dflt (first | (refine' nameX_L ?z9F ?z9v ?_ ?z9a ?z9b ?z9d; (case z9F => k_asm); (case z9a => kernel_rfl!); (case z9b => kernel_rfl!); (case z9d => kernel_rfl!); (case z9v => rfl); k_whole) | (refine' nameX_C ?z9N ?z9c ?z9m ?z9e ?_ ?z9a ?z9b ?z9d; (case z9a => kernel_rfl!); (case z9b => kernel_rfl!); (case z9d => kernel_rfl!); (case z9N => k_asm); (case z9c => rfl); (case z9m => k_mem); (case z9e => k_asm); k_whole) | (refine' nameX_K ?z9F ?z9X ?z9T ?z9e ?_ ?z9a ?z9b ?z9d; (case z9F => k_asm); (case z9X => k_asm); (case z9T => k_asm); (case z9a => kernel_rfl!); (case z9b => kernel_rfl!); (case z9d => kernel_rfl!); (case z9e => k_is); k_whole) | (refine' nameX_B ?z9F ?z9X ?z9T ?z9e ?z9v ?z9n ?_ ?z9a ?z9b ?z9d; (case z9F => k_asm); (case z9X => k_asm); (case z9T => k_asm); (case z9a => kernel_rfl!); (case z9b => kernel_rfl!); (case z9d => kernel_rfl!); (case z9e => k_is); (case z9v => boot_fast); (case z9n => decide +kernel); k_whole)))
  k_with "z9" => (k_here; (with_reducible show wpAny _ _ (callWith _ (Value.builtin _) (_ :: _) _ []) _ _ _); k_dflt (refine callWith_method1 ?_))
  k_with "z10" => (k_here; (rename Fr _ _ _ _ => lF'); (with_unfolding_all refine' For_invVF lF' ?z9k1 ?z9k2 ?_; (case z9k1 => exact rfl); (case z9k2 => exact rfl); k_whole))
  k_with "z11" => (k_closed; k_dflt (first | ((refine ite_pos ?z9c ?_); (case z9c => decide +kernel)) | ((refine ite_neg ?z9c ?_); (case z9c => decide +kernel))))
  k_with "z12" => (k_here; (with_reducible show wpAny _ _ (subscriptTail _ _ (Value.ref _) (Value.int _ _)) _ _ _); k_dflt (refine' tup_item ?z9N ?z9m ?z9a ?z9b ?z9c ?z9d ?_; (case z9N => k_asm); (case z9m => assumption); (case z9a => decide); (case z9b => decide); (case z9c => first | exact idx0 _ | rfl); (case z9d => rfl)))
  k_with "z13" => first | exact dict47 _ | exact dict178 _ | exact dict259 _ | exact dict260 _ | exact dict302 _
  k_with "z14" => first | with_reducible assumption | k_is
  k_with "z15" => (k_here; k_dflt (first | (refine' has_notIn ?z9D ?z9e ?z9o ?z9F ?z9X ?_; (case z9D => walk_at "DICT"); (case z9e => walk_at "FACT"); (case z9o => decide); (case z9F => k_asm); (case z9X => k_asm)) | (refine' has_notIn0 ?z9D ?z9e ?z9o ?z9F ?z9X ?_; (case z9D => walk_at "DICT"); (case z9e => walk_at "FACT"); (case z9o => decide); (case z9F => k_asm); (case z9X => k_asm))))
  k_with "z16" => (k_here; k_dflt (first | (refine' has_in ?z9D ?z9e ?z9o ?z9F ?z9X ?_; (case z9D => walk_at "DICT"); (case z9e => walk_at "FACT"); (case z9o => decide); (case z9F => k_asm); (case z9X => k_asm)) | (refine' has_in0 ?z9D ?z9e ?z9o ?z9F ?z9X ?_; (case z9D => walk_at "DICT"); (case z9e => walk_at "FACT"); (case z9o => decide); (case z9F => k_asm); (case z9X => k_asm))))
  k_with "z17" => (k_here; (with_reducible show wpAny _ _ (subscriptTail _ _ (Value.ref _) (Value.str _ _)) _ _ _); k_dflt (refine' has_item ?z9D ?z9e ?z9F ?z9X ?_; (case z9D => walk_at "DICT"); (case z9e => walk_at "FACT"); (case z9F => k_asm); (case z9X => k_asm)))
  k_with "z18" => (k_here; (with_reducible show wpAny _ _ (subscriptTail _ _ (Value.ref _) (Value.int _ _)) _ _ _); k_dflt (refine' topTup_K ?z9F ?z9X ?z9l ?z9a ?z9b ?z9c ?z9d ?_; (case z9F => k_asm); (case z9X => k_asm); (case z9l => with_reducible assumption); (case z9a => decide); (case z9b => decide); (case z9c => rfl); (case z9d => rfl)))
  k_with "z19" => (k_here; (with_reducible show wpAny _ _ (call _ [Value.ref _]) _ _ _); k_dflt (refine' tup_len ?z9N ?z9m ?z9f ?_; (case z9N => k_asm); (case z9m => assumption); (case z9f => first | decide | (simp only [List.length_cons, List.length_nil]; omega))))
  k_with "z20" => first | assumption | exact List.Mem.head _ | (refine List.Mem.tail _ ?_; walk_at "MEM")
  k_with "z21" => (k_here; (with_reducible show wpAny _ _ (subscriptTail _ _ (Value.ref _) (Value.int _ _)) _ _ _); k_dflt (refine' tup_item ?z9N ?z9m ?z9a ?z9b ?z9c ?z9d ?_; (case z9N => k_asm); (case z9m => walk_at "MEM"); (case z9a => decide); (case z9b => decide); (case z9c => first | exact idx0 _ | rfl); (case z9d => rfl)))
  k_with "z22" => with_reducible first | exact dict47 _ | exact dict178 _ | exact dict259 _ | exact dict260 _ | exact dict302 _
  k_with "z23" => (k_here; (with_reducible show wpAny _ _ (call _ [Value.ref _]) _ _ _); k_dflt (refine' tup_len ?z9N ?z9m ?z9f ?_; (case z9N => k_asm); (case z9m => walk_at "MEM"); (case z9f => first | decide | (simp only [List.length_cons, List.length_nil]; omega))))
  k_with "z24" => (k_here; k_dflt (refine' shape_of_ok ?z9W ?z9m ?z9l ?z9z ?z9B ?z9F ?z9X ?z9N ?z9T rfl ?z9r ?_; (case z9F => k_asm); (case z9N => k_asm); (case z9W => assumption); (case z9m => walk_at "MEM"); (case z9l => first | assumption | rfl | kernel_rfl | decide); (case z9z => first | assumption | decide | (simp only [List.length_cons, List.length_nil]; decide)); (case z9B => k_asm); (case z9X => k_asm); (case z9T => k_asm); (case z9r => k_room); intro h7 tk7 F7 N7; (try dsimp only)))
  k_with "z25" => (k_here; (with_reducible show wpAny _ _ (assign (Expr.Tuple _ _ _) _ (Value.ref _)) _ _ _); k_dflt (refine' unpackK ?z9F ?z9N ?z9X ?z9k ?z9c ?z9d ?z9k1 ?z9k2 ?z9k3 ?_; (case z9F => k_asm); (case z9N => k_asm); (case z9X => k_asm); (case z9k => with_reducible assumption); (case z9c => exact rfl); (case z9d => exact rfl); (case z9k1 => exact rfl); (case z9k2 => exact rfl); (case z9k3 => exact rfl); k_whole); intro h' F' N'; (try k_sweep))
  k_with "z26" => (k_here; k_dflt (refine unrEnd_own (by assumption) (by assumption) (by assumption) ?_))
  k_with "z27" => (exfalso; revert ‹_ ∨ _›; decide +kernel)
  k_with "z28" => (k_here; k_dflt (refine LCt.CompSrcT.range (by rfl) (by k_asm) (by k_asm) (by assumption) (by first | decide | rfl) (by first | rfl | decide) (by first | size_fits | exact Nat.le_of_ble_eq_true rfl) ?_; intro g'; lct_lit))
  k_with "z29" => (k_here; k_dflt (refine' compEnd_own ?z9F ?z9N ?z9o ?z9S ?_; (case z9F => k_asm); (case z9N => k_asm); (case z9o => assumption); (case z9S => lcg_src)))
  k_with "z30" => (k_here; k_dflt (refine' has_get ?z9D ?z9e ?z9o ?z9F ?z9X ?_; (case z9D => walk_at "DICT"); (case z9e => walk_at "FACT"); (case z9o => decide); (case z9F => k_asm); (case z9X => k_asm); dsimp only [Option.getD]))
  k_with "z31" => (k_here; (with_reducible show wpAny _ _ (pyIter (Value.ref _)) (fun it s₂ => LoopAtV _ _ _ _ _ _ _ _ _ it s₂) _ _); k_dflt (refine' iter_lst rfl ?z9F ?z9N ?z9m ?_; (case z9F => k_asm); (case z9N => k_asm); (case z9m => walk_at "MEM"); intro i' l1; (try k_lt l1)))
  k_with "z32" => (k_here; k_dflt (first | (refine' unrEnd_c0 ?z9F ?z9N ?z9o ?_; (case z9F => k_asm); (case z9N => k_asm); (case z9o => k_all)) | (refine' unrEnd_c1 ?z9F ?z9N ?z9o ?_; (case z9F => k_asm); (case z9N => k_asm); (case z9o => k_all))); (try refine ⟨by walk_at "MEM", ?_⟩))
  k_with "z33" => (k_here; k_dflt (refine' eff_use ?z9S ?z9m ?z9B ?z9F ?z9X ?z9N ?z9T rfl ?z9r ?_; (case z9F => k_asm); (case z9N => k_asm); (case z9S => assumption); (case z9m => walk_at "MEM"); (case z9B => k_asm); (case z9X => k_asm); (case z9T => k_asm); (case z9r => k_room); intro h7 tk7 b7 kt7 kl7 F7 N7 o7; (try k_lt o7); dsimp only))
  k_with "z34" => (k_here; k_dflt (refine' jmp_use ?z9S ?z9m ?z9B ?z9F ?z9X ?z9N ?z9T rfl ?z9r ?_; (case z9F => k_asm); (case z9N => k_asm); (case z9S => assumption); (case z9m => walk_at "MEM"); (case z9B => k_asm); (case z9X => k_asm); (case z9T => k_asm); (case z9r => k_room); intro h7 tk7 b7 F7 N7 o7; (replace o7 := off1_of o7); (try simp only [LCg.Off1, and_true] at o7); dsimp only))
  k_with "z35" => (k_here; k_dflt (refine' goes_use ?z9S ?z9m ?z9B ?z9F ?z9X ?z9N ?z9T rfl ?z9r ?_; (case z9F => k_asm); (case z9N => k_asm); (case z9S => assumption); (case z9m => walk_at "MEM"); (case z9B => k_asm); (case z9X => k_asm); (case z9T => k_asm); (case z9r => k_room); intro h7 tk7 F7 N7; dsimp only))
  k_with "z36" => first | (refine List.forall_mem_cons.mpr ⟨by walk_at "MEM", ?_⟩; walk_at "SUB") | (intro p9 hp9; repeat' (first | exact hp9 | refine List.Mem.tail _ ?_))
  k_with "z37" => k_all
  k_with "z38" => (first | exact List.forall_mem_nil _ | (refine List.forall_mem_cons.mpr ⟨by (dsimp only; walk_at "OFF"), ?_⟩; walk_at "OFFS"))
  k_with "z39" => (k_here; (rename Fr _ _ _ _ => F8'); (rename News _ _ _ _ => N8'); (with_unfolding_all refine range1_rows F8' N8' ?_); clear F8' N8'; intro _ _ _ _ _ _ _ _ _)
  k_with "z40" => (k_here; (with_reducible show wpAny _ _ (pyIter (Value.ref _)) (fun it s₂ => TurnsAt _ _ _ _ _ _ _ _ _ it s₂) _ _); k_dflt (refine' iter_tup rfl ?z9F ?z9N ?z9m ?_; (case z9F => k_asm); (case z9N => k_asm); (case z9m => walk_at "MEM"); intro i' l1; (try k_lt l1)))
  k_with "z41" => (k_here; k_dflt (refine' unrEndW_c0 ?z9F ?z9N ?z9o ?_; (case z9F => k_asm); (case z9N => k_asm); (case z9o => k_all)); refine ⟨⟨by walk_at "MEM", trivial⟩, ?_⟩)
  k_with "z42" => (k_here; (with_reducible show wpAny _ _ (call _ [Value.str _ _]) _ _ _); k_dflt (first | (refine str_lenN 0 (by decide +kernel) (by decide) ?_) | (refine str_lenN 1 (by decide +kernel) (by decide) ?_) | (refine str_lenN 2 (by decide +kernel) (by decide) ?_) | (refine str_lenN 3 (by decide +kernel) (by decide) ?_)))
  k_with "z43" => first | exact List.forall_mem_nil _ | (refine List.forall_mem_cons.mpr ⟨by assumption, ?_⟩; walk_at "ALLI")
  k_with "z44" => (k_here; k_dflt (refine' need_any ?z9v ?z9B ?z9F ?z9X ?z9N ?z9T rfl ?z9r ?_ ?z9err; (case z9v => assumption); (case z9F => k_asm); (case z9N => k_asm); (case z9B => k_asm); (case z9X => k_asm); (case z9T => k_asm); (case z9r => k_room); (case z9err => (intro hodd x8 h8 tk8 R8; k_unfold; refine' leave_pass ?z9B ?z9G R8 ?_; (case z9B => k_asm); (case z9G => k_asm); intro h9 R9; exact err ⟨_, by simp, hodd⟩ _ _ _ R9)); intro hint h7 tk7 F7 N7; (try dsimp only)))
  k_with "z45" => (k_here; k_dflt (refine' chk_good ?z9S ?z9hi ?z9m ?z9B ?z9F ?z9X ?z9N ?z9T rfl ?z9r ?_; (case z9F => k_asm); (case z9N => k_asm); (case z9S => assumption); (case z9hi => assumption); (case z9m => walk_at "MEM"); (case z9B => k_asm); (case z9X => k_asm); (case z9T => k_asm); (case z9r => k_room); intro h7 tk7 F7 N7; (try dsimp only)))
  k_with "z46" => (k_here; (with_reducible show wpAny _ _ (pyIter (Value.ref _)) (fun it s₂ => LoopAtV _ _ _ _ _ _ _ _ _ it s₂) _ _); k_dflt (refine' iter_lof rfl ?z9F ?z9N ?z9m ?_; (case z9F => k_asm); (case z9N => k_asm); (case z9m => walk_at "MEM"); intro i' l1; (try k_lt l1)))
  k_with "z47" => (k_here; k_dflt (refine' chk_odd ?z9S ?z9hi ?z9m ?z9B ?z9F ?z9X ?z9N ?z9T rfl ?z9r ?z9err; (case z9F => k_asm); (case z9N => k_asm); (case z9S => assumption); (case z9hi => assumption); (case z9m => walk_at "MEM"); (case z9B => k_asm); (case z9X => k_asm); (case z9T => k_asm); (case z9r => k_room); (case z9err => (intro x8 h8 tk8 R8; k_unfold; refine' leave_pass ?z9B ?z9G R8 ?_; (case z9B => k_asm); (case z9G => k_asm); intro h9 R9; exact err (fun h => h) _ _ _ R9))))
  k_with "z48" => (k_here; k_dflt (refine' subs_use ?z9S ?z9m ?z9B ?z9F ?z9X ?z9N ?z9T rfl ?z9r ?_; (case z9F => k_asm); (case z9N => k_asm); (case z9S => assumption); (case z9m => walk_at "MEM"); (case z9B => k_asm); (case z9X => k_asm); (case z9T => k_asm); (case z9r => k_room); intro h7 tk7 b7 n7 F7 N7 o7; (replace o7 := off1_of o7); (try simp only [LCg.Off1, and_true] at o7); (try dsimp only)))
  k_with "z49" => (k_here; k_dflt (refine' call_bad ?z9B ?z9F ?z9X ?z9T rfl ?z9r ?_; (case z9B => k_asm); (case z9F => k_asm); (case z9X => k_asm); (case z9T => k_asm); (case z9r => k_room); intro h7 tk7 e7 dd7 t7 F7 N7; refine' ⟨_, _, _, rfl, F7, N7, ?_⟩; k_unfold; refine' leave_own ?z9B ?z9G F7 N7 ?_; (case z9B => k_asm); (case z9G => k_asm); intro h8 R8; exact err (by omega) _ _ _ R8))
  k_with "z50" => ((try simp only [List.length_map, List.length_append, List.length_cons, List.length_nil, List.length_set, List.length_replicate]); omega)
  k_with "z51" => (k_here; (with_reducible show wpAny _ _ (call _ [Value.ref _]) _ _ _); k_dflt (refine' lof_len ?z9N ?z9m ?z9f ?_; (case z9N => k_asm); (case z9m => walk_at "MEM"); (case z9f => walk_at "LENS")))
  k_with "z52" => (k_here; k_dflt (refine' none_mul ?z9F ?z9N ?z9m ?z9f ?_; (case z9F => k_asm); (case z9N => k_asm); (case z9m => walk_at "MEM"); (case z9f => walk_at "LENS"); intro D' h' F' N' l1; (try k_lt l1)))
  k_with "z53" => (k_here; k_dflt (first | (refine' lof_truthy1 ?z9N1 ?z9m1 ?z9f1 ?_; (case z9N1 => k_asm); (case z9m1 => walk_at "MEM"); (case z9f1 => walk_at "LENS"); (try dsimp only)) | (refine' lof_truthy ?z9N ?z9m ?z9f ?_; (case z9N => k_asm); (case z9m => walk_at "MEM"); (case z9f => walk_at "LENS"); (try simp only [List.isEmpty_append, List.isEmpty_cons, List.isEmpty_nil, Bool.and_false, Bool.not_false, Bool.not_true]); (try dsimp only))))
  k_with "z54" => (k_here; k_dflt (refine' lof_pop ?z9F ?z9N ?z9U ?z9f ?_; (case z9F => k_asm); (case z9N => k_asm); (case z9U => k_upd); (case z9f => walk_at "LENS"); intro h' F' N'; (try dsimp only)))
  k_with "z55" => (k_here; (with_reducible show wpAny _ _ (subscriptTail _ _ (Value.ref _) (Value.int _ _)) _ _ _); k_dflt (refine' lof_item ?z9N ?z9m ?z9i ?z9f ?_; (case z9N => k_asm); (case z9m => walk_at "MEM"); (case z9i => assumption); (case z9f => walk_at "LENS")))
  k_with "z56" => (k_here; k_dflt (refine' lof_set ?z9F ?z9N ?z9U ?z9i ?z9f ?_; (case z9F => k_asm); (case z9N => k_asm); (case z9U => k_upd); (case z9i => first | assumption | walk_at "LENS"); (case z9f => walk_at "LENS"); intro h' F' N'; (try dsimp only)))
  k_with "z57" => (k_here; (with_reducible show wpAny _ _ (assign (Expr.Tuple _ _ _) _ (Value.ref _)) _ _ _); k_dflt (refine' unpackN_ ?z9F ?z9N ?z9k ?z9k1 ?z9k2 ?z9k3 ?_; (case z9F => k_asm); (case z9N => k_asm); (case z9k => exact tup_in (by assumption) (by walk_at "MEM")); (case z9k1 => exact rfl); (case z9k2 => exact rfl); (case z9k3 => exact rfl); intro h' F' N'; (try dsimp only)))
  k_with "z58" => (k_here; k_dflt (refine' hat_use ?z9S ?z9m ?z9B ?z9F ?z9X ?z9N ?z9T rfl ?z9r ?_; (case z9F => k_asm); (case z9N => k_asm); (case z9S => assumption); (case z9m => walk_at "MEM"); (case z9B => k_asm); (case z9X => k_asm); (case z9T => k_asm); (case z9r => k_room); intro h7 tk7 b7 n7 es7 e7 F7 N7 o7 oo7; walk_at "HATOPEN"; (try dsimp only)))
  k_with "z59" => (k_here; refine stopH ?_)
  k_with "z60" => (k_here; k_dflt (refine' unrEndW_c1 ?z9F ?z9N ?z9o ?_; (case z9F => k_asm); (case z9N => k_asm); (case z9o => k_all)); refine ⟨⟨by walk_at "MEM", trivial⟩, ?_⟩)
  k_with "z61" => (k_here; (rename Fr _ _ _ _ => lF'); (with_unfolding_all refine' For_turns lF' ?_))
  k_with "z62" => (k_here; (with_reducible show wpAny _ _ (pyIter (Value.ref _)) (fun it s₂ => TurnsAt _ _ _ _ _ _ _ _ _ it s₂) _ _); k_dflt (refine' iter_lofT rfl ?z9F ?z9N rfl ?z9m ?_; (case z9F => k_asm); (case z9N => k_asm); (case z9m => walk_at "MEM"); intro i' l1; (try k_lt l1)))
  k_with "z63" => assumption
  k_with "z64" => ((first | (obtain rfl := es0 e7) | (obtain ⟨a1, ka1, la1, rfl⟩ := es1 e7) | (obtain ⟨a1, ka1, la1, a2, ka2, la2, rfl⟩ := es2 e7) | (obtain ⟨a1, ka1, la1, a2, ka2, la2, a3, ka3, la3, rfl⟩ := es3 e7)); clear e7; (try simp only [tupsOf, List.map, List.cons_append, List.nil_append] at N7); (replace o7 := off1_of o7); (try simp only [LCg.Off1, and_true] at o7); (try (have oa1 := off1_of (oo7 _ (List.Mem.head _)); simp only [LCg.Off1, and_true] at oa1)); (try (have oa2 := off1_of (oo7 _ (List.Mem.tail _ (List.Mem.head _))); simp only [LCg.Off1, and_true] at oa2)); (try (have oa3 := off1_of (oo7 _ (List.Mem.tail _ (List.Mem.tail _ (List.Mem.head _)))); simp only [LCg.Off1, and_true] at oa3)); clear oo7)
  k_with "z65" => (funext y; (by_cases c1 : y = Str.ofString "change"; (subst c1; rfl)); (by_cases c2 : y = Str.ofString "place"; (subst c2; rfl)); (by_cases c3 : y = Str.ofString "height"; (subst c3; rfl)); (by_cases c4 : y = Str.ofString "at"; (subst c4; rfl)); (by_cases c5 : y = Str.ofString "line"; (subst c5; rfl)); (by_cases c6 : y = Str.ofString "heights"; (subst c6; rfl)); simp only [hMap, if_neg c1, if_neg c2, if_neg c3, if_neg c4, if_neg c5, if_neg c6])
  k_with "z66" => (k_here; walk_at "subscriptTail")
  k_with "z67" => (k_here; (first | k_dflt (refine' tup_item ?z9N ?z9m ?z9a ?z9b ?z9c ?z9d ?_; (case z9N => k_asm); (case z9m => walk_at "MEM"); (case z9a => decide); (case z9b => decide); (case z9c => first | exact idx0 _ | rfl); (case z9d => rfl)) | walk_at "subscriptTail"))
  k_with "z68" => (k_here; (with_reducible show wpAny _ _ (pyIter (Value.ref _)) (fun it s₂ => TurnsAt _ _ _ _ _ _ _ _ _ it s₂) _ _); refine stopH ?_)
  k_with "z69" => (k_here; k_dflt (refine' lof_append ?z9F ?z9N ?z9U ?z9f ?_; (case z9F => k_asm); (case z9N => k_asm); (case z9U => k_upd); (case z9f => walk_at "LENS"); intro h' F' N'; (try dsimp only)))
  k_with "z70" => (k_here; (with_reducible show wpAny _ _ (pyIter (Value.ref R)) (fun it s₂ => LoopAtV _ _ _ _ _ _ _ _ _ it s₂) _ _); refine stopH ?_)
  k_with "z71" => (intro p9 hp9; repeat' (first | exact hp9 | refine List.Mem.tail _ ?_))
  k_with "z72" => (k_here; k_dflt (first | ((with_reducible show wpAny _ _ (getAttr _ (PySem.Str.ofString "rows") _) _ _ _); refine' code_rows ?z9c ?z9F ?z9X ?z9N ?_; (case z9F => k_asm); (case z9X => k_asm); (case z9N => k_asm); (case z9c => exact CodeObj.mono hx8 (by walk_at "TAILS"))) | ((with_reducible show wpAny _ _ (getAttr _ (PySem.Str.ofString "subs") _) _ _ _); refine' code_subs ?z9c ?z9F ?z9X ?z9N ?_; (case z9F => k_asm); (case z9X => k_asm); (case z9N => k_asm); (case z9c => exact CodeObj.mono hx8 (by walk_at "TAILS")))))
  k_with "z73" => (k_here; k_dflt (refine' eq_nil ?z9u ?z9N ?z9m ?z9b ?z9n ?_; (case z9N => k_asm); (case z9m => walk_at "MEM"); (case z9b => walk_at "MEM"); (case z9n => simp); (case z9u => walk_at "UNITS")))
  k_with "z74" => ((simp only [units_in1, units_deeper, Around.mark_units, units_caller] at *); (try dsimp only [ktrTop] at *); omega)
  k_with "z75" => (k_here; (try dsimp only); (with_reducible show wpAny _ _ (subscriptTail _ _ (Value.ref _) (Value.int (-1) _)) _ _ _); k_dflt (refine' lof_last ?z9N ?z9m ?z9f ?_; (case z9N => k_asm); (case z9m => walk_at "MEM"); (case z9f => walk_at "LENS")))
  k_with "z76" => (k_here; (with_reducible show wpAny _ _ (subscriptTail _ _ (Value.ref _) (Value.int 1 _)) _ _ _); k_dflt (refine' tup_item ?z9N ?z9m ?z9a ?z9b ?z9c ?z9d ?_; (case z9N => k_asm); (case z9m => walk_at "MEM"); (case z9a => decide); (case z9b => decide); (case z9c => exact idx1 _); (case z9d => rfl)))
  k_with "z77" => (funext y; (by_cases c1 : y = Str.ofString "one"; (subst c1; rfl)); (by_cases c2 : y = Str.ofString "at"; (subst c2; rfl)); (by_cases c3 : y = Str.ofString "made"; (subst c3; rfl)); (by_cases c4 : y = Str.ofString "op"; (subst c4; rfl)); simp only [cMap, if_neg c1, if_neg c2, if_neg c3, if_neg c4])
  k_with "z78" => (k_here; k_dflt (refine' row_use ?z9S ?z9m ?z9B ?z9F ?z9X ?z9N ?z9T rfl ?z9r ?_ ?z9err; (case z9S => exact hRS); (case z9F => k_asm); (case z9N => k_asm); (case z9m => walk_at "MEM"); (case z9B => k_asm); (case z9X => k_asm); (case z9T => k_asm); (case z9r => k_room); (case z9err => (intro hodd x8 h8 tk8 R8; k_unfold; refine' leave_pass ?z9B ?z9G R8 ?_; (case z9B => k_asm); (case z9G => k_asm); intro h9 R9; exact err (fun ho => hodd (ho.2 i (by walk_at "IDX"))) _ _ _ R9)); intro hok h7 tk7 F7 N7; (try dsimp only)))
  k_with "z79" => (k_here; k_dflt (refine' heights_ok ?z9S ?z9m ?z9p ?z9q ?z9B ?z9F ?z9X ?z9N ?z9T rfl ?z9r ?_; (case z9S => exact hD8); (case z9F => k_asm); (case z9N => k_asm); (case z9m => exact hR9); (case z9p => simp); (case z9q => (simp only [List.length_append, List.length_singleton]; omega)); (case z9B => k_asm); (case z9X => k_asm); (case z9T => k_asm); (case z9r => k_room); intro v7 h7 tk7 F7 N7; (try dsimp only)))
  k_with "z80" => (have hi9 := (List.getElem?_eq_some_iff.mp hy).1; simp only [List.length_append, List.length_singleton] at hi9; exact hi9)
  k_with "z81" => (k_here; k_dflt (refine' need_any ?z9v ?z9B ?z9F ?z9X ?z9N ?z9T rfl ?z9r ?_ ?z9err; (case z9v => exact hpv); (case z9F => k_asm); (case z9N => k_asm); (case z9B => k_asm); (case z9X => k_asm); (case z9T => k_asm); (case z9r => k_room); (case z9err => (intro hodd x8 h8 tk8 R8; k_unfold; refine' leave_pass ?z9B ?z9G R8 ?_; (case z9B => k_asm); (case z9G => k_asm); intro h9 R9; exact err (fun ho => odd_int hodd ho.1) _ _ _ R9)); intro hint h7 tk7 F7 N7; (try dsimp only)))
  k_with "z82" => (k_here; k_dflt (refine' row_use ?z9S ?z9m ?z9B ?z9F ?z9X ?z9N ?z9T rfl ?z9r ?_ ?z9err; (case z9S => exact hRS); (case z9F => k_asm); (case z9N => k_asm); (case z9m => walk_at "MEM"); (case z9B => k_asm); (case z9X => k_asm); (case z9T => k_asm); (case z9r => k_room); (case z9err => (intro hodd x8 h8 tk8 R8; k_unfold; refine' leave_pass ?z9B ?z9G R8 ?_; (case z9B => k_asm); (case z9G => k_asm); intro h9 R9; exact err (fun ho => hodd (ho.2.1 i (by walk_at "IDX"))) _ _ _ R9)); intro hok h7 tk7 F7 N7; (try dsimp only)))
  k_with "z83" => (k_here; (with_reducible show wpAny _ _ (subscriptTail (Expr.Attribute _ _ _) _ (Value.ref _) (Value.int _ _)) _ _ _); k_dflt (refine' lof_itemA (i := 0) ?z9N ?z9m ?z9i ?z9f ?_; (case z9N => k_asm); (case z9m => walk_at "MEM"); (case z9i => rfl); (case z9f => walk_at "LENS")))
  k_with "z84" => (k_here; (with_reducible show wpAny _ _ (subscriptTail _ _ (Value.ref _) (Value.int (-1) _)) _ _ _); k_dflt (refine' lof_last ?z9N ?z9m ?z9f ?_; (case z9N => k_asm); (case z9m => walk_at "MEM"); (case z9f => walk_at "LENS")))
  k_with "z85" => (k_here; (with_reducible show wpAny _ _ (getAttr _ (PySem.Str.ofString "pad_size") _) _ _ _); k_dflt (refine' code_pad ?z9c ?z9v ?z9F ?z9X ?z9N ?_; (case z9F => k_asm); (case z9X => k_asm); (case z9N => k_asm); (case z9c => exact CodeObj.mono hx9 (by walk_at "TAILS")); (case z9v => exact hh9)))
  k_with "z86" => (k_here; (with_reducible show wpAny _ _ (call _ [Value.ref S]) _ _ _); k_dflt (refine' lof_len1 ?z9N ?z9m ?_; (case z9N => k_asm); (case z9m => walk_at "MEM")))
  k_with "z87" => (k_here; (with_reducible show wpAny _ _ (call _ [Value.ref _, Value.ref _]) _ _ _); k_dflt (refine' code_isinst ?z9c ?z9F ?z9X ?z9N ?_; (case z9F => k_asm); (case z9X => k_asm); (case z9N => k_asm); (case z9c => exact CodeObj.mono hx9 (by walk_at "TAILS")); intro tk7))
  k_with "z88" => (k_here; k_dflt (first | (refine' in_made0 ?z9N ?z9m ?_; (case z9N => k_asm); (case z9m => walk_at "MEM")) | (refine' in_made1 ?z9N ?z9r ?z9m ?_; (case z9N => k_asm); (case z9m => walk_at "MEM"); (case z9r => assumption))))
  k_with "z89" => (k_here; k_dflt (refine' pad_use ?z9S ?z9s ?z9B ?z9F ?z9X ?z9N ?z9T rfl ?z9r ?z9u ?_ ?z9err; (case z9S => exact hin); (case z9F => k_asm); (case z9N => k_asm); (case z9s => (intro p hp; have hp9 := hsub p hp; repeat' (first | exact hp9 | refine List.Mem.tail _ ?_))); (case z9B => k_asm); (case z9X => k_asm); (case z9T => k_asm); (case z9r => k_room); (case z9u => walk_at "UNITS"); (case z9err => (intro hodd x8 h8 tk8 R8; k_unfold; refine' leave_pass ?z9B ?z9G R8 ?_; (case z9B => k_asm); (case z9G => k_asm); intro h9 R9; exact err (fun ho => hodd ho.2.2) _ _ _ R9)); intro hok h7 tk7 F7 N7; (try dsimp only)))
  k_with "z90" => (k_here; k_dflt (refine' pad_use ?z9S ?z9s ?z9B ?z9F ?z9X ?z9N ?z9T rfl ?z9r ?z9u ?_ ?z9err; (case z9S => exact hin); (case z9F => k_asm); (case z9N => k_asm); (case z9s => (intro p hp; have hp9 := hsub p hp; repeat' (first | exact hp9 | refine List.Mem.tail _ ?_))); (case z9B => k_asm); (case z9X => k_asm); (case z9T => k_asm); (case z9r => k_room); (case z9u => walk_at "UNITS"); (case z9err => (intro hodd x8 h8 tk8 R8; k_unfold; refine' leave_pass ?z9B ?z9G R8 ?_; (case z9B => k_asm); (case z9G => k_asm); intro h9 R9; exact err (fun ho => hodd ho) _ _ _ R9)); intro hok h7 tk7 F7 N7; (try dsimp only)))
  k_with "z91" => ((simp only [units_in1, units_deeper, Around.mark_units, units_caller] at *); (try dsimp only [ktrTop]); omega)
  k_with "z92" => (k_here; (with_reducible show wpAny _ _ (subscriptTail (Expr.Subscript _ _ _) _ (Value.ref aS) (Value.int _ _)) _ _ _); k_dflt (refine' lof_itemI ?z9N ?z9m hI h0 ?z9l ?z9f ?_; (case z9N => k_asm); (case z9m => walk_at "MEM"); (case z9l => omega); (case z9f => omega); intro x8 t8))
  k_with "z93" => ((try k_lt l1); (try (first | (have zl : AllLt _ news := l1.2.2.2.2) | (have zl : AllLt _ news := l1.2.2.2) | (have zl : AllLt _ news := l1.2.2) | (have zl : AllLt _ news := l1.2))))
  k_with "z94" => (k_here; kup_bare; k_dflt (refine' kup_newTuple ?z9F ?z9N ?_ ?z9z; (case z9F => k_asm); (case z9N => k_asm); (case z9z => kmk_size)); intro D' h' F' N' l1; walk_at "ALLZ")
  k_with "z95" => (k_here; k_dflt (refine' newList_K ?z9F ?z9N ?_; (case z9F => k_asm); (case z9N => k_asm); k_whole); intro D' h' F' N' l1; walk_at "ALLZ")
  k_with "z96" => first | (refine lt_ne ?_; with_reducible assumption) | (refine allLt_mem (l := news) ?_; with_reducible assumption)
  k_with "z97" => with_reducible (first | exact RunRel.pad _ _ _ _ | exact RunRel.my _ _ _ _ | exact RunRel.bind _ _ _ _ | exact RunRel.jump _ _ | exact RunRel.iff _ _ _ _ | exact RunRel.app _ _ _ _ | exact RunRel.clo _ _ _ | exact RunRel.map _ _ _ _ | exact RunRel.byw _ _ _ _ | exact RunRel.sort _ _ _ _ _ | exact RunRel.func _ _ _ _ _)
  k_with "z98" => (k_here; (rename Fr _ _ _ _ => lF'); (with_unfolding_all refine' For_invVF lF' ?k6 ?k7 ?_; (case k6 => exact rfl); (case k7 => exact rfl); k_whole))
  k_with "z99" => (k_here; k_dflt (refine' whole_any ?z9v ?z9B ?z9F ?z9X ?z9N ?z9T rfl ?z9r ?_ ?_; (case z9v => with_reducible assumption); (case z9F => k_asm); (case z9N => k_asm); (case z9B => k_asm); (case z9X => k_asm); (case z9T => k_asm); (case z9r => k_room); (all_goals (intro hwv h7 tk7 F7 N7; (try (have hwi : IsI _ := hwv; clear hwv; obtain ⟨n9, k9, rfl⟩ := hwi)); (try dsimp only)))))
  k_with "z100" => first | exact hok.mp trivial | exact hok.mp ⟨_, _, rfl⟩ | exact hok.mp ⟨_, _, rfl, by omega, by omega⟩ | exact hok.mp ⟨_, _, rfl, by omega⟩ | exact hok.mp ⟨⟨_, _, rfl⟩, ⟨_, _, rfl⟩, ⟨_, _, rfl⟩⟩ | exact hok.mp ⟨⟨_, _, rfl⟩, ⟨_, _, rfl⟩⟩ | fail "PYES"
  k_with "z101" => (intro hp; have hq := hok.mpr hp; first | exact odd_int hwv hq | exact odd_int hwv hq.1 | exact odd_int hwv hq.2 | exact odd_int hwv hq.2.1 | exact odd_int hwv hq.2.2 | (obtain ⟨n8, k8, e8, q8⟩ := hq; first | exact odd_int hwv ⟨n8, k8, e8⟩ | (cases e8; omega)) | fail "PNO")
  k_with "z102" => (intro p hp; rcases List.mem_cons.mp hp with rfl | hp; (walk_at "MEM"); (repeat' (first | exact hp | refine List.Mem.tail _ ?_)))
  k_with "z103" => (funext y; (by_cases c1 : y = Str.ofString "place"; (subst c1; rfl)); (by_cases c2 : y = Str.ofString "op"; (subst c2; rfl)); simp only [lMap, if_neg c1, if_neg c2])
  k_with "z104" => (k_here; (with_reducible show wpAny _ _ (subscriptTail _ _ (Value.ref y) (Value.int n _)) _ _ _); k_dflt (refine' tup_item (j := n.toNat) ?z9N ?z9m ?z9a ?z9b ?z9c ?z9d ?_; (case z9N => k_asm); (case z9m => walk_at "MEM"); (case z9a => omega); (case z9b => omega); (case z9c => exact hidx); (case z9d => exact hx)))
  k_with "z105" => (k_here; (first | (with_reducible show wpAny _ _ (pyIter (Value.ref R)) (fun it s₂ => LoopAtV _ _ _ _ _ _ _ _ _ it s₂) _ _) | (with_reducible show wpAny _ _ (pyIter (Value.ref 303)) (fun it s₂ => LoopAtV _ _ _ _ _ _ _ _ _ it s₂) _ _) | (with_reducible show wpAny _ _ (pyIter (Value.ref 304)) (fun it s₂ => LoopAtV _ _ _ _ _ _ _ _ _ it s₂) _ _) | (with_reducible show wpAny _ _ (pyIter (Value.ref 305)) (fun it s₂ => LoopAtV _ _ _ _ _ _ _ _ _ it s₂) _ _) | (with_reducible show wpAny _ _ (pyIter (Value.ref 306)) (fun it s₂ => LoopAtV _ _ _ _ _ _ _ _ _ it s₂) _ _) | (with_reducible show wpAny _ _ (pyIter (Value.ref 307)) (fun it s₂ => LoopAtV _ _ _ _ _ _ _ _ _ it s₂) _ _) | (with_reducible show wpAny _ _ (pyIter (Value.ref 308)) (fun it s₂ => LoopAtV _ _ _ _ _ _ _ _ _ it s₂) _ _) | (with_reducible show wpAny _ _ (pyIter (Value.ref 309)) (fun it s₂ => LoopAtV _ _ _ _ _ _ _ _ _ it s₂) _ _) | (with_reducible show wpAny _ _ (pyIter (Value.ref 310)) (fun it s₂ => LoopAtV _ _ _ _ _ _ _ _ _ it s₂) _ _) | (with_reducible show wpAny _ _ (pyIter (Value.ref 311)) (fun it s₂ => LoopAtV _ _ _ _ _ _ _ _ _ it s₂) _ _) | (with_reducible show wpAny _ _ (pyIter (Value.ref 312)) (fun it s₂ => LoopAtV _ _ _ _ _ _ _ _ _ it s₂) _ _) | (with_reducible show wpAny _ _ (pyIter (Value.ref 313)) (fun it s₂ => LoopAtV _ _ _ _ _ _ _ _ _ it s₂) _ _)); refine stopH ?_)
  k_with "z106" => (k_here; (try dsimp only); (with_reducible show wpAny _ _ (subscriptTail _ _ (Value.ref _) (Value.int (-1) _)) _ _ _); k_dflt (refine' tup_item ?z9N ?z9m ?z9a ?z9b ?z9c ?z9d ?_; (case z9N => k_asm); (case z9m => walk_at "MEM"); (case z9a => decide); (case z9b => decide); (case z9c => exact idxm1 _); (case z9d => exact rfl)))
  k_with "z107" => first | (refine' Spl.head ?z9a; (case z9a => k_all)) | (refine' Spl.tail ?z9a ?z9b; (case z9a => k_ne); (case z9b => walk_at "SPL"))
  k_with "z108" => (k_here; k_dflt (refine' scoop_use ?z9N ?z9U ?z9S ?z9I ?z9l ?z9h0 ?z9h1 ?z9m0 ?z9m1 ?z9B ?z9F ?z9X ?z9T rfl ?z9r ?_; (case z9N => k_asm); (case z9U => walk_at "SPL"); (case z9F => k_asm); (case z9S => walk_at "MEM"); (case z9I => with_reducible assumption); (case z9l => exact len40 (by with_reducible assumption)); (case z9h0 => omega); (case z9h1 => omega); (case z9m0 => decide); (case z9m1 => decide); (case z9B => k_asm); (case z9X => k_asm); (case z9T => k_asm); (case z9r => k_room); intro r8 tr8 t8 h8 tk8 rl8 rh8 F8 N8; (try dsimp only)))
  k_with "z109" => first | exact List.forall_mem_nil _ | (refine List.forall_mem_cons.mpr ⟨by first | exact .inl ⟨_, _, rfl⟩ | exact .inr (.inl rfl) | exact .inr (.inr (.inl ⟨_, _, rfl⟩)) | exact .inr (.inr (.inr (.inl rfl))), ?_⟩; walk_at "MENUA")
  k_with "z110" => (k_here; (with_reducible show wpAny _ _ (subscriptTail (Expr.List _ _) _ (Value.ref _) (Value.int _ _)) _ _ _); k_dflt (refine' lof_any ?z9N ?z9m ?z9h ?z9l ?z9f (menu_any ?z9q ?_); (case z9N => k_asm); (case z9m => walk_at "MEM"); (case z9h => omega); (case z9l => (simp only [List.length_cons, List.length_nil]; omega)); (case z9f => (simp only [List.length_cons, List.length_nil]; omega)); (case z9q => walk_at "MENUA"); intro v8 hv8; (try dsimp only)))
  k_with "z111" => (funext y; (by_cases c1 : y = Str.ofString "way"; (subst c1; rfl)); (by_cases c2 : y = Str.ofString "turn"; (subst c2; rfl)); (by_cases c3 : y = Str.ofString "rows"; (subst c3; rfl)); (by_cases c4 : y = Str.ofString "own"; (subst c4; rfl)); (by_cases c5 : y = Str.ofString "outer"; (subst c5; rfl)); (by_cases c6 : y = Str.ofString "pail"; (subst c6; rfl)); simp only [wMap, if_neg c1, if_neg c2, if_neg c3, if_neg c4, if_neg c5, if_neg c6])
  k_with "z112" => (k_here; k_dflt (refine' run_use ?z9N ?z9U ?z9h0 ?z9h1 ?z9h2 ?z9h3 ?z9B ?z9F ?z9X ?z9T rfl ?z9r ?_; (case z9N => k_asm); (case z9U => walk_at "SPL"); (case z9F => k_asm); (case z9h0 => omega); (case z9h1 => walk_at "LENS"); (case z9h2 => omega); (case z9h3 => omega); (case z9B => k_asm); (case z9X => k_asm); (case z9T => k_asm); (case z9r => k_room); intro b7 n7 ts7 it7 nw7 rest7 h7 tk7 rel7 ri7 hb7 he7 ho7 F7 N7; (have hs7 : ∀ p ∈ _, p ∈ rest7 := fun p hp => by rw [he7]; exact List.mem_append.mpr (.inr hp)); (try dsimp only)))
  k_with "z113" => (k_here; k_dflt (refine' lof_add ?z9F ?z9N ?z9m ?z9b ?z9f ?_; (case z9F => k_asm); (case z9N => k_asm); (case z9m => exact .tail _ (hs7 _ (by walk_at "MEM"))); (case z9b => walk_at "MEM"); (case z9f => (have hl9 := run_len rel7; have hl8 := ri7.len; (simp only [List.length_map] at *); omega)); intro D' h' F' N' l1))
  k_with "z114" => (k_here; k_dflt (refine' code_ok hx9 hh9 hin hsub ?z9B ?z9F ?z9X ?z9N ?z9T rfl ?z9r ?z9u ?z9ok ?z9bad; (case z9F => k_asm); (case z9N => k_asm); (case z9B => k_asm); (case z9X => k_asm); (case z9T => k_asm); (case z9r => k_room); (case z9u => ((have hcL9 := cLine_is); (simp only [units_in1, units_deeper, Around.mark_units, units_caller, cLine] at hcL9 ⊢); first | omega | decide))))
  k_with "z115" => (k_here; k_dflt (refine' is_let_ok ?z9m ?z9q ?z9B ?z9F ?z9X ?z9N ?z9T rfl ?z9r ?_ ?_; (case z9F => k_asm); (case z9N => k_asm); (case z9m => walk_at "MEM"); (case z9q => first | exact hlet1 _ _ rfl | exact hlet2 _ _ rfl); (case z9B => k_asm); (case z9X => k_asm); (case z9T => k_asm); (case z9r => k_room); (all_goals (intro hlv h7 tk7 F7 N7; (try dsimp only)))))
  k_with "z116" => ((simp only [units_in1, units_deeper, Around.mark_units, units_caller] at hun ⊢); (try dsimp only [ktrTop] at hun ⊢); omega)
  k_with "z117" => (k_here; lcg_calm; k_dflt (refine Assign_ListComp_D (F₀ := by k_asm) (by rfl) (by rfl) (by with_unfolding_all rfl) (by with_unfolding_all rfl) (by decide) (by rfl) (by decide) (by rfl) (by rfl) (by decide) (by rfl) (by rfl) ?_))
  k_with "z118" => (k_here; (with_reducible show wpAny _ _ (eval (Expr.Name (Str.ofString "rows") _) (compEnvC _ _ _ _)) _ _ _); k_dflt (refine' lcf_cell ?z9N ?z9c ?z9m hcell8 ?_ ?z9a ?z9b; (case z9a => rfl); (case z9b => rfl); (case z9N => k_asm); (case z9c => rfl); (case z9m => walk_at "MEM"); k_whole))
  k_with "z119" => (k_here; k_dflt (refine' eq_nil2 ?z9u ?z9N ?z9m ?z9b ?_; (case z9N => k_asm); (case z9m => walk_at "MEM"); (case z9b => walk_at "MEM"); (case z9u => walk_at "UNITS")))
  k_with "z120" => (k_here; k_dflt (refine' eq_nil ?z9u ?z9N ?z9m ?z9b hyn ?_; (case z9N => k_asm); (case z9m => walk_at "MEM"); (case z9b => walk_at "MEM"); (case z9u => walk_at "UNITS")))
  k_with "z121" => (k_here; (with_reducible show wpAny _ _ (eval (Expr.Name (Str.ofString "rows") _) (envOfC _ _ _ _ _)) _ _ _); k_dflt (refine' nameX_C ?z9N ?z9c ?z9m hcell8 ?_ ?z9a ?z9b; (case z9a => rfl); (case z9b => rfl); (case z9N => k_asm); (case z9c => rfl); (case z9m => walk_at "MEM"); k_whole))
  k_with "z122" => (k_here; (with_reducible show wpAny _ _ (subscriptTail (Expr.Name (Str.ofString "spots") _) _ (Value.ref _) (Value.int _ _)) _ _ _); refine stopH ?_)
  k_with "z123" => ((case z9F => k_asm); (case z9N => k_asm); (case z9m => walk_at "MEM"); (case z9k => omega); (case z9i => walk_at "LENS"); (case z9l => walk_at "LENS"); intro D' h' F' N' l1; (try k_lt l1))
  k_with "z124" => (k_here; (with_reducible show wpAny _ _ (subscriptTail (Expr.Name _ _) (Expr.Slice none (some _) none _) (Value.ref _) (Value.ref _)) _ _ _); k_dflt (refine' lof_upto (i := i) ?z9F ?z9N ?z9m ?z9k ?z9i ?z9l ?_; walk_at "SLC"))
  k_with "z125" => (k_here; (with_reducible show wpAny _ _ (subscriptTail (Expr.Name _ _) (Expr.Slice (some _) none none _) (Value.ref _) (Value.ref _)) _ _ _); k_dflt (refine' lof_from (i := i + 1) ?z9F ?z9N ?z9m ?z9k ?z9i ?z9l ?_; walk_at "SLC"))
  k_with "z126" => ((case z9F => k_asm); (case z9N => k_asm); (case z9m => exact tup_in (by assumption) (by walk_at "MEM")); (case z9k => omega); (case z9i => omega); (case z9l => omega); intro D' h' F' N' l1; (try k_lt l1))
  k_with "z127" => (k_here; (with_reducible show wpAny _ _ (subscriptTail (Expr.Subscript _ _ _) (Expr.Slice none (some _) none _) (Value.ref _) (Value.ref _)) _ _ _); k_dflt (refine' tup_upto (b := qn) (l := its9) ?z9F ?z9N ?z9m ?z9k ?z9i ?z9l ?_; walk_at "SLT"))
  k_with "z128" => (k_here; (with_reducible show wpAny _ _ (subscriptTail (Expr.Subscript _ _ _) (Expr.Slice (some _) none none _) (Value.ref _) (Value.ref _)) _ _ _); k_dflt (refine' tup_from (b := qn + 1) (l := its9) ?z9F ?z9N ?z9m ?z9k (Nat.succ_le_succ (Nat.zero_le _)) ?z9i ?z9l ?_; walk_at "SLT"))
  k_with "z129" => (k_here; k_dflt (refine' lof_add ?z9F ?z9N ?z9m ?z9b ?z9f ?_; (case z9F => k_asm); (case z9N => k_asm); (case z9m => walk_at "MEM"); (case z9b => walk_at "MEM"); (case z9f => ((simp only [List.length_take, List.length_drop, List.length_append, List.length_map, List.length_cons, List.length_nil]); omega)); intro D' h' F' N' l1; (try k_lt l1)))
  k_with "z130" => (k_here; k_dflt (refine' tup_add2 ?z9F ?z9N ?z9m ?z9b ?z9n ?z9f ?_; (case z9F => k_asm); (case z9N => k_asm); (case z9m => walk_at "MEM"); (case z9b => walk_at "MEM"); (case z9n => first | exact htn | simp); (case z9f => ((simp only [List.length_take, List.length_drop, List.length_append, List.length_map, List.length_cons, List.length_nil]); omega)); intro D' h' F' N'))
  k_with "z131" => ((with_reducible show wpAny _ _ (execs (Stmt.Assign [Expr.Name (Str.ofString "is_let") _] _ _ :: _) _) _ _ _); refine stopH ?_)
  k_with "z132" => ((case z9F => k_asm); (case z9N => k_asm); (case z9B => k_asm); (case z9X => k_asm); (case z9T => k_asm); (case z9r => k_room); (case z9u => ((have hcL9 := cLine_is); (simp only [units_in1, units_deeper, Around.mark_units, units_caller, cLine] at hcL9 ⊢); first | omega | decide)); (try (have s6 := s7)); (try (have c6 := c7)); intro x7 nw7 h7 tk7 c7 s7 F7 N7; (try dsimp only))
  k_with "z133" => (k_here; k_dflt (refine' mk_ops ?z9B ?z9F ?z9X ?z9N ?z9T rfl ?z9r ?z9u ?_; walk_at "MKC"))
  k_with "z134" => (k_here; k_dflt (refine' mk_weighed ?z9B ?z9F ?z9X ?z9N ?z9T rfl ?z9r ?z9u ?_; walk_at "MKC"))
  k_with "z135" => ((have hcL9 := cLine_is); (simp only [units_in1, units_deeper, Around.mark_units, units_caller, cLine] at hcL9 ⊢); first | omega | decide)
  k_with "z136" => (k_here; k_dflt (refine' ne_nil0 ?z9u ?z9N ?z9m ?z9b ?_; (case z9N => k_asm); (case z9m => walk_at "MEM"); (case z9b => walk_at "MEM"); (case z9u => walk_at "UNITZ")))
  k_with "z137" => (k_here; k_dflt (refine' ne_nil1 ?z9u ?z9N ?z9m ?z9b hyn ?_; (case z9N => k_asm); (case z9m => walk_at "MEM"); (case z9b => walk_at "MEM"); (case z9u => walk_at "UNITZ")))
  k_with "z138" => ((with_reducible show wpAny _ _ (execs (Stmt.Assign [Expr.Name (Str.ofString "inner") _] _ _ :: _) _) _ _ _); refine stopH ?_)
  k_with "z139" => (k_here; (with_reducible show wpAny _ _ (subscriptTail (Expr.Name (Str.ofString "_law_odd") _) _ (Value.ref _) (Value.int _ _)) _ _ _); k_dflt (refine' odd_any ?z9F ?z9X ?z9h ?z9l ?_; (case z9F => k_asm); (case z9X => k_asm); (case z9h => omega); (case z9l => omega); intro v8 hv8; (try dsimp only)))
  k_with "z140" => (k_here; k_dflt (refine' bent_ok (w := w) (G := GB) (rs := ri ++ [rz]) (itss := itss ++ [[.str (Str.ofString "return0") kr]]) ?z9m ?z9i ?z9l ?z9h ?z9o ?z9w ?z9B ?z9F ?z9X ?z9N ?z9T rfl ?z9r ?z9u ?_; (case z9F => k_asm); (case z9N => k_asm); (case z9m => walk_at "MEM"); (case z9i => exact hri.mono fun p hp => .tail _ hp); (case z9l => exact hlen9); (case z9h => omega); (case z9o => with_reducible assumption); (case z9w => exact hbr9); (case z9B => k_asm); (case z9X => k_asm); (case z9T => k_asm); (case z9r => k_room); (case z9u => walk_at "UNITZ"); intro R8 rs8 it8 n8 nw8 h8 tk8 hb8 ri8 hm8 hs8 F8 N8; (try dsimp only)))
  k_with "z141" => ((with_reducible show wpAny _ _ (execs (Stmt.If _ _ _ _ :: _) _) _ _ _); refine stopH ?_)
  exact trivial
section
open PySem PySem.W PyProof.Rows PySem.Calls
set_option linter.unusedVariables false
set_option maxRecDepth 100000
noncomputable abbrev pr : Program := PySem.Challenge.rw_qz0086_01.row.prog
noncomputable def nth : List Stmt → Nat → Stmt
  | [], _ => .Pass ⟨0, 0, 0, 0⟩
  | s :: _, 0 => s
  | _ :: l, n + 1 => nth l n
noncomputable def csB : Stmt → List Stmt
  | .ClassDef _ _ _ b .. => b
  | _ => []
noncomputable def fdP : Stmt → Arguments
  | .FunctionDef _ a .. => a
  | _ => ⟨[], [], none, [], [], none, []⟩
noncomputable def fdB : Stmt → List Stmt
  | .FunctionDef _ _ b .. => b
  | _ => []
noncomputable def fdS : Stmt → Scope
  | .FunctionDef _ _ _ _ _ _ s .. => s
  | _ => ⟨.module, [], false, false, []⟩
noncomputable def st (i : Nat) : Stmt := nth PySem.Challenge.pw_qz0086_01.main.body i
noncomputable def cst (i j : Nat) : Stmt := nth (csB (st i)) j
noncomputable def o2 : Params → Obj := fun P => ⟨.none, none, .dict #[⟨PyData.keyHash P (.ofString "type.__subclasses__.Exception.0"), .str (.ofString "type.__subclasses__.Exception.0") 214, .int 31 0⟩, ⟨PyData.keyHash P (.ofString "type.__subclasses__.Exception.n"), .str (.ofString "type.__subclasses__.Exception.n") 215, .int 1 0⟩] 2, #[]⟩
noncomputable def o3 : Params → Obj := fun P => ⟨.type "dict", none, .dict #[⟨PyData.keyHash P (.ofString "__name__"), .str (.ofString "__name__") 165, .str (.ofString "law_qz0086_01") 1084⟩, ⟨PyData.keyHash P (.ofString "__doc__"), .str (.ofString "__doc__") 166, .none⟩, ⟨PyData.keyHash P (.ofString "__package__"), .str (.ofString "__package__") 167, .none⟩, ⟨PyData.keyHash P (.ofString "__loader__"), .str (.ofString "__loader__") 168, .builtin "__main__.__loader__#opaque"⟩, ⟨PyData.keyHash P (.ofString "__spec__"), .str (.ofString "__spec__") 169, .none⟩, ⟨PyData.keyHash P (.ofString "__annotations__"), .str (.ofString "__annotations__") 170, .ref 6⟩, ⟨PyData.keyHash P (.ofString "__builtins__"), .str (.ofString "__builtins__") 171, .ref 4⟩, ⟨PyData.keyHash P (.ofString "__file__"), .str (.ofString "__file__") 173, .str (.ofString "/claim/cut.py") 172⟩, ⟨PyData.keyHash P (.ofString "__cached__"), .str (.ofString "__cached__") 174, .none⟩, ⟨PyData.keyHash P (.ofString "PerlError"), .str (.ofString "PerlError") 217, .ref 31⟩, ⟨PyData.keyHash P (.ofString "BadOps"), .str (.ofString "BadOps") 233, .ref 44⟩, ⟨PyData.keyHash P (.ofString "VOID"), .str (.ofString "VOID") 237, .int 0 236⟩, ⟨PyData.keyHash P (.ofString "SHAPES"), .str (.ofString "SHAPES") 848, .ref 47⟩, ⟨PyData.keyHash P (.ofString "LEAVING"), .str (.ofString "LEAVING") 857, .ref 177⟩, ⟨PyData.keyHash P (.ofString "KEEPING"), .str (.ofString "KEEPING") 871, .ref 178⟩, ⟨PyData.keyHash P (.ofString "OpsCode"), .str (.ofString "OpsCode") 908, .ref 195⟩, ⟨PyData.keyHash P (.ofString "WeighedCode"), .str (.ofString "WeighedCode") 938, .ref 216⟩, ⟨PyData.keyHash P (.ofString "shape_of"), .str (.ofString "shape_of") 946, .ref 225⟩, ⟨PyData.keyHash P (.ofString "effect_of"), .str (.ofString "effect_of") 957, .ref 232⟩, ⟨PyData.keyHash P (.ofString "jumps_of"), .str (.ofString "jumps_of") 963, .ref 237⟩, ⟨PyData.keyHash P (.ofString "goes_on"), .str (.ofString "goes_on") 970, .ref 244⟩, ⟨PyData.keyHash P (.ofString "heights_at"), .str (.ofString "heights_at") 982, .ref 251⟩, ⟨PyData.keyHash P (.ofString "subs_used"), .str (.ofString "subs_used") 989, .ref 258⟩, ⟨PyData.keyHash P (.ofString "SLOTS"), .str (.ofString "SLOTS") 1001, .ref 259⟩, ⟨PyData.keyHash P (.ofString "CODES"), .str (.ofString "CODES") 1023, .ref 260⟩, ⟨PyData.keyHash P (.ofString "MAKERS"), .str (.ofString "MAKERS") 1026, .ref 261⟩, ⟨PyData.keyHash P (.ofString "need_number"), .str (.ofString "need_number") 1033, .ref 268⟩, ⟨PyData.keyHash P (.ofString "check_numbers"), .str (.ofString "check_numbers") 1043, .ref 275⟩, ⟨PyData.keyHash P (.ofString "check_row"), .str (.ofString "check_row") 1057, .ref 282⟩, ⟨PyData.keyHash P (.ofString "heights_of"), .str (.ofString "heights_of") 1070, .ref 289⟩, ⟨PyData.keyHash P (.ofString "check_on_pad"), .str (.ofString "check_on_pad") 1076, .ref 294⟩, ⟨PyData.keyHash P (.ofString "check_code"), .str (.ofString "check_code") 1083, .ref 301⟩, ⟨PyData.keyHash P (.ofString "_law_places"), .str (.ofString "_law_places") 1122, .ref 302⟩, ⟨PyData.keyHash P (.ofString "_law_odd"), .str (.ofString "_law_odd") 1126, .ref 316⟩, ⟨PyData.keyHash P (.ofString "_law_scoop"), .str (.ofString "_law_scoop") 1135, .ref 323⟩, ⟨PyData.keyHash P (.ofString "_law_run"), .str (.ofString "_law_run") 1144, .ref 330⟩, ⟨PyData.keyHash P (.ofString "_law_bent"), .str (.ofString "_law_bent") 1150, .ref 335⟩, ⟨PyData.keyHash P (.ofString "_law_is_whole"), .str (.ofString "_law_is_whole") 1157, .ref 342⟩, ⟨PyData.keyHash P (.ofString "_law_is_let"), .str (.ofString "_law_is_let") 1168, .ref 349⟩, ⟨PyData.keyHash P (.ofString "law"), .str (.ofString "law") 1174, .ref 354⟩] 40, #[]⟩
noncomputable def o15 : Params → Obj := fun P => ⟨.type "tuple", none, .seq #[.type "Exception"] 0, #[]⟩
noncomputable def o22 : Params → Obj := fun P => ⟨.type "tuple", none, .seq #[] 0, #[]⟩
noncomputable def o24 : Params → Obj := fun P => ⟨.type "tuple", none, .seq #[.str (.ofString "self") 204, .str (.ofString "text") 205] 0, #[]⟩
noncomputable def o25 : Params → Obj := fun P => ⟨.type "tuple", none, .seq #[] 0, #[]⟩
noncomputable def o27 : Params → Obj := fun P => ⟨.type "code", none, .fields #[.str (.ofString "__init__") 201, .str (.ofString "PerlError.__init__") 202, .str (.ofString "/claim/cut.py") 203, .int 4 0, .int 2 0, .int 0 0, .int 0 0, .int 3 0, .ref 22, .bool true, .int 181 0, .ref 23, .none, .ref 24, .ref 25, .ref 26, .int 206 0, .int 4 0, .str (.ofString "/claim/cut.py") 207], #[]⟩
noncomputable def o28 : Params → Obj := fun P => ⟨.type "function", none, .func ⟨(.ofString "__init__"), (.ofString "PerlError.__init__"), fdP (cst 1 0), .stmts (fdB (cst 1 0)), fdS (cst 1 0), 3, [], .none, .none, .none, .str (.ofString "perlcore.errors") 187, none, .ref 27, .none, 0⟩, #[]⟩
noncomputable def o29 : Params → Obj := fun P => ⟨.type "tuple", none, .seq #[.str (.ofString "text") 209] 0, #[]⟩
noncomputable def o30 : Params → Obj := fun P => ⟨.type "dict", none, .dict #[⟨PyData.keyHash P (.ofString "__module__"), .str (.ofString "__module__") 196, .str (.ofString "perlcore.errors") 187⟩, ⟨PyData.keyHash P (.ofString "__firstlineno__"), .str (.ofString "__firstlineno__") 200, .int 2 199⟩, ⟨PyData.keyHash P (.ofString "__init__"), .str (.ofString "__init__") 208, .ref 28⟩, ⟨PyData.keyHash P (.ofString "__static_attributes__"), .str (.ofString "__static_attributes__") 210, .ref 29⟩, ⟨PyData.keyHash P (.ofString "__weakref__"), .str (.ofString "__weakref__") 212, .ref 32⟩, ⟨PyData.keyHash P (.ofString "__doc__"), .str (.ofString "__doc__") 213, .none⟩] 3, #[]⟩
noncomputable def o31 : Params → Obj := fun P => ⟨.type "type", none, .cls ⟨(.ofString "PerlError"), [.type "Exception"], [.ref 31, .type "Exception", .type "BaseException", .type "object"], 30, (.ofString "PerlError"), true, [], [.ref 44], false, none, false⟩, #[some (.ref 15), none, some (.str (.ofString "PerlError") 189), some (.str (.ofString "PerlError") 197), some (.builtin "Exception.__new__"), some (.bool true)]⟩
noncomputable def o32 : Params → Obj := fun P => ⟨.type "getset_descriptor", none, .fields #[.str (.ofString "__weakref__") 211, .ref 31, .builtin "ExceptionGroup.__weakref__", .none], #[]⟩
noncomputable def o35 : Params → Obj := fun P => ⟨.type "tuple", none, .seq #[.ref 31] 0, #[]⟩
noncomputable def o42 : Params → Obj := fun P => ⟨.type "tuple", none, .seq #[] 0, #[]⟩
noncomputable def o43 : Params → Obj := fun P => ⟨.type "dict", none, .dict #[⟨PyData.keyHash P (.ofString "__module__"), .str (.ofString "__module__") 225, .str (.ofString "perlcore.errors") 187⟩, ⟨PyData.keyHash P (.ofString "__firstlineno__"), .str (.ofString "__firstlineno__") 229, .int 7 228⟩, ⟨PyData.keyHash P (.ofString "__static_attributes__"), .str (.ofString "__static_attributes__") 230, .ref 42⟩, ⟨PyData.keyHash P (.ofString "__doc__"), .str (.ofString "__doc__") 231, .none⟩] 2, #[]⟩
noncomputable def o44 : Params → Obj := fun P => ⟨.type "type", none, .cls ⟨(.ofString "BadOps"), [.ref 31], [.ref 44, .ref 31, .type "Exception", .type "BaseException", .type "object"], 43, (.ofString "BadOps"), true, [], [], false, none, false⟩, #[some (.ref 35), none, some (.str (.ofString "BadOps") 218), some (.str (.ofString "BadOps") 226), some (.builtin "Exception.__new__"), some (.bool true)]⟩
noncomputable def o47 : Params → Obj := fun P => ⟨.type "dict", none, .dict ((⟨PyData.keyHash P (.ofString "const"), .str (.ofString "const") 238, .ref 48⟩ :: ⟨PyData.keyHash P (.ofString "empty"), .str (.ofString "empty") 243, .ref 49⟩ :: ⟨PyData.keyHash P (.ofString "drop"), .str (.ofString "drop") 248, .ref 50⟩ :: ⟨PyData.keyHash P (.ofString "dup"), .str (.ofString "dup") 253, .ref 51⟩ :: ⟨PyData.keyHash P (.ofString "swap"), .str (.ofString "swap") 258, .ref 52⟩ :: ⟨PyData.keyHash P (.ofString "wrap"), .str (.ofString "wrap") 263, .ref 53⟩ :: ⟨PyData.keyHash P (.ofString "append"), .str (.ofString "append") 268, .ref 54⟩ :: ⟨PyData.keyHash P (.ofString "copy"), .str (.ofString "copy") 273, .ref 55⟩ :: ⟨PyData.keyHash P (.ofString "count"), .str (.ofString "count") 278, .ref 56⟩ :: ⟨PyData.keyHash P (.ofString "final"), .str (.ofString "final") 283, .ref 57⟩ :: ⟨PyData.keyHash P (.ofString "keep"), .str (.ofString "keep") 288, .ref 58⟩ :: ⟨PyData.keyHash P (.ofString "refcode"), .str (.ofString "refcode") 293, .ref 59⟩ :: ⟨PyData.keyHash P (.ofString "codetold"), .str (.ofString "codetold") 298, .ref 60⟩ :: ⟨PyData.keyHash P (.ofString "refuse"), .str (.ofString "refuse") 303, .ref 61⟩ :: ⟨PyData.keyHash P (.ofString "pad"), .str (.ofString "pad") 308, .ref 62⟩ :: ⟨PyData.keyHash P (.ofString "my"), .str (.ofString "my") 313, .ref 63⟩ :: ⟨PyData.keyHash P (.ofString "glob"), .str (.ofString "glob") 318, .ref 64⟩ :: ⟨PyData.keyHash P (.ofString "matchvar"), .str (.ofString "matchvar") 323, .ref 66⟩ :: ⟨PyData.keyHash P (.ofString "fetch"), .str (.ofString "fetch") 328, .ref 67⟩ :: ⟨PyData.keyHash P (.ofString "ascalar"), .str (.ofString "ascalar") 333, .ref 68⟩ :: ⟨PyData.keyHash P (.ofString "newscalar"), .str (.ofString "newscalar") 338, .ref 69⟩ :: ⟨PyData.keyHash P (.ofString "vivify"), .str (.ofString "vivify") 343, .ref 70⟩ :: ⟨PyData.keyHash P (.ofString "deref"), .str (.ofString "deref") 348, .ref 71⟩ :: ⟨PyData.keyHash P (.ofString "items"), .str (.ofString "items") 353, .ref 72⟩ :: ⟨PyData.keyHash P (.ofString "size"), .str (.ofString "size") 358, .ref 73⟩ :: ⟨PyData.keyHash P (.ofString "pairs"), .str (.ofString "pairs") 363, .ref 74⟩ :: ⟨PyData.keyHash P (.ofString "keycount"), .str (.ofString "keycount") 368, .ref 75⟩ :: ⟨PyData.keyHash P (.ofString "lastidx"), .str (.ofString "lastidx") 373, .ref 76⟩ :: ⟨PyData.keyHash P (.ofString "elem"), .str (.ofString "elem") 378, .ref 77⟩ :: ⟨PyData.keyHash P (.ofString "helem"), .str (.ofString "helem") 383, .ref 78⟩ :: ⟨PyData.keyHash P (.ofString "elemat"), .str (.ofString "elemat") 388, .ref 79⟩ :: ⟨PyData.keyHash P (.ofString "helemat"), .str (.ofString "helemat") 393, .ref 80⟩ :: ⟨PyData.keyHash P (.ofString "elemlv"), .str (.ofString "elemlv") 398, .ref 81⟩ :: ⟨PyData.keyHash P (.ofString "helemlv"), .str (.ofString "helemlv") 403, .ref 82⟩ :: ⟨PyData.keyHash P (.ofString "aslice"), .str (.ofString "aslice") 408, .ref 84⟩ :: ⟨PyData.keyHash P (.ofString "hslice"), .str (.ofString "hslice") 413, .ref 85⟩ :: ⟨PyData.keyHash P (.ofString "aslicelv"), .str (.ofString "aslicelv") 418, .ref 86⟩ :: ⟨PyData.keyHash P (.ofString "hslicelv"), .str (.ofString "hslicelv") 423, .ref 87⟩ :: ⟨PyData.keyHash P (.ofString "lslice"), .str (.ofString "lslice") 428, .ref 88⟩ :: ⟨PyData.keyHash P (.ofString "substrlv"), .str (.ofString "substrlv") 433, .ref 89⟩ :: ⟨PyData.keyHash P (.ofString "veclv"), .str (.ofString "veclv") 438, .ref 90⟩ :: ⟨PyData.keyHash P (.ofString "poslv"), .str (.ofString "poslv") 443, .ref 91⟩ :: ⟨PyData.keyHash P (.ofString "lastlv"), .str (.ofString "lastlv") 448, .ref 92⟩ :: ⟨PyData.keyHash P (.ofString "ref"), .str (.ofString "ref") 453, .ref 93⟩ :: ⟨PyData.keyHash P (.ofString "refvalue"), .str (.ofString "refvalue") 458, .ref 94⟩ :: ⟨PyData.keyHash P (.ofString "elemrefs"), .str (.ofString "elemrefs") 463, .ref 95⟩ :: ⟨PyData.keyHash P (.ofString "refeach"), .str (.ofString "refeach") 468, .ref 96⟩ :: ⟨PyData.keyHash P (.ofString "anona"), .str (.ofString "anona") 473, .ref 97⟩ :: ⟨PyData.keyHash P (.ofString "anonh"), .str (.ofString "anonh") 478, .ref 98⟩ :: ⟨PyData.keyHash P (.ofString "closure"), .str (.ofString "closure") 483, .ref 99⟩ :: ⟨PyData.keyHash P (.ofString "definesub"), .str (.ofString "definesub") 488, .ref 100⟩ :: ⟨PyData.keyHash P (.ofString "code"), .str (.ofString "code") 493, .ref 102⟩ :: ⟨PyData.keyHash P (.ofString "codefor"), .str (.ofString "codefor") 498, .ref 103⟩ :: ⟨PyData.keyHash P (.ofString "assign"), .str (.ofString "assign") 503, .ref 104⟩ :: ⟨PyData.keyHash P (.ofString "opassign"), .str (.ofString "opassign") 508, .ref 105⟩ :: ⟨PyData.keyHash P (.ofString "aassign"), .str (.ofString "aassign") 513, .ref 106⟩ :: ⟨PyData.keyHash P (.ofString "members"), .str (.ofString "members") 518, .ref 107⟩ :: ⟨PyData.keyHash P (.ofString "lasttarget"), .str (.ofString "lasttarget") 523, .ref 108⟩ :: ⟨PyData.keyHash P (.ofString "preinc"), .str (.ofString "preinc") 528, .ref 109⟩ :: ⟨PyData.keyHash P (.ofString "predec"), .str (.ofString "predec") 533, .ref 110⟩ :: ⟨PyData.keyHash P (.ofString "postinc"), .str (.ofString "postinc") 538, .ref 111⟩ :: ⟨PyData.keyHash P (.ofString "postdec"), .str (.ofString "postdec") 543, .ref 112⟩ :: ⟨PyData.keyHash P (.ofString "localglob"), .str (.ofString "localglob") 548, .ref 113⟩ :: ⟨PyData.keyHash P (.ofString "localelem"), .str (.ofString "localelem") 553, .ref 114⟩ :: ⟨PyData.keyHash P (.ofString "localhelem"), .str (.ofString "localhelem") 558, .ref 115⟩ :: ⟨PyData.keyHash P (.ofString "localaslice"), .str (.ofString "localaslice") 563, .ref 116⟩ :: ⟨PyData.keyHash P (.ofString "localhslice"), .str (.ofString "localhslice") 568, .ref 117⟩ :: ⟨PyData.keyHash P (.ofString "bin"), .str (.ofString "bin") 573, .ref 118⟩ :: ⟨PyData.keyHash P (.ofString "xor"), .str (.ofString "xor") 578, .ref 120⟩ :: ⟨PyData.keyHash P (.ofString "un"), .str (.ofString "un") 583, .ref 121⟩ :: ⟨PyData.keyHash P (.ofString "joinlist"), .str (.ofString "joinlist") 588, .ref 122⟩ :: ⟨PyData.keyHash P (.ofString "text"), .str (.ofString "text") 593, .ref 123⟩ :: ⟨PyData.keyHash P (.ofString "wanted"), .str (.ofString "wanted") 598, .ref 124⟩ :: ⟨PyData.keyHash P (.ofString "repeat"), .str (.ofString "repeat") 603, .ref 125⟩ :: ⟨PyData.keyHash P (.ofString "range"), .str (.ofString "range") 608, .ref 126⟩ :: ⟨PyData.keyHash P (.ofString "jump"), .str (.ofString "jump") 613, .ref 127⟩ :: ⟨PyData.keyHash P (.ofString "iffalse"), .str (.ofString "iffalse") 618, .ref 128⟩ :: ⟨PyData.keyHash P (.ofString "iftrue"), .str (.ofString "iftrue") 623, .ref 129⟩ :: ⟨PyData.keyHash P (.ofString "ifdef"), .str (.ofString "ifdef") 628, .ref 130⟩ :: ⟨PyData.keyHash P (.ofString "orjump"), .str (.ofString "orjump") 633, .ref 131⟩ :: ⟨PyData.keyHash P (.ofString "andjump"), .str (.ofString "andjump") 638, .ref 132⟩ :: ⟨PyData.keyHash P (.ofString "dorjump"), .str (.ofString "dorjump") 643, .ref 133⟩ :: ⟨PyData.keyHash P (.ofString "bywant"), .str (.ofString "bywant") 648, .ref 134⟩ :: ⟨PyData.keyHash P (.ofString "iter"), .str (.ofString "iter") 653, .ref 135⟩ :: ⟨PyData.keyHash P (.ofString "next"), .str (.ofString "next") 658, .ref 136⟩ :: ⟨PyData.keyHash P (.ofString "bindpad"), .str (.ofString "bindpad") 663, .ref 138⟩ :: ⟨PyData.keyHash P (.ofString "bindglob"), .str (.ofString "bindglob") 668, .ref 139⟩ :: ⟨PyData.keyHash P (.ofString "return0"), .str (.ofString "return0") 673, .ref 140⟩ :: ⟨PyData.keyHash P (.ofString "return1"), .str (.ofString "return1") 678, .ref 141⟩ :: ⟨PyData.keyHash P (.ofString "return2"), .str (.ofString "return2") 683, .ref 142⟩ :: ⟨PyData.keyHash P (.ofString "subreturn"), .str (.ofString "subreturn") 688, .ref 143⟩ :: ⟨PyData.keyHash P (.ofString "enter"), .str (.ofString "enter") 693, .ref 144⟩ :: ⟨PyData.keyHash P (.ofString "leave"), .str (.ofString "leave") 698, .ref 145⟩ :: ⟨PyData.keyHash P (.ofString "leavetest"), .str (.ofString "leavetest") 703, .ref 146⟩ :: ⟨PyData.keyHash P (.ofString "begin"), .str (.ofString "begin") 708, .ref 147⟩ :: ⟨PyData.keyHash P (.ofString "settle"), .str (.ofString "settle") 713, .ref 148⟩ :: ⟨PyData.keyHash P (.ofString "resettle"), .str (.ofString "resettle") 718, .ref 149⟩ :: ⟨PyData.keyHash P (.ofString "forget"), .str (.ofString "forget") 723, .ref 150⟩ :: ⟨PyData.keyHash P (.ofString "line"), .str (.ofString "line") 728, .ref 151⟩ :: ⟨PyData.keyHash P (.ofString "package"), .str (.ofString "package") 733, .ref 152⟩ :: ⟨PyData.keyHash P (.ofString "loop"), .str (.ofString "loop") 738, .ref 153⟩ :: ⟨PyData.keyHash P (.ofString "endloop"), .str (.ofString "endloop") 743, .ref 154⟩ :: ⟨PyData.keyHash P (.ofString "unwind"), .str (.ofString "unwind") 748, .ref 156⟩ :: ⟨PyData.keyHash P (.ofString "loopleave"), .str (.ofString "loopleave") 753, .ref 157⟩ :: ⟨PyData.keyHash P (.ofString "call"), .str (.ofString "call") 758, .ref 158⟩ :: ⟨PyData.keyHash P (.ofString "callsame"), .str (.ofString "callsame") 763, .ref 159⟩ :: ⟨PyData.keyHash P (.ofString "method"), .str (.ofString "method") 768, .ref 160⟩ :: ⟨PyData.keyHash P (.ofString "func"), .str (.ofString "func") 773, .ref 161⟩ :: ⟨PyData.keyHash P (.ofString "map"), .str (.ofString "map") 778, .ref 162⟩ :: ⟨PyData.keyHash P (.ofString "grep"), .str (.ofString "grep") 783, .ref 163⟩ :: ⟨PyData.keyHash P (.ofString "sort"), .str (.ofString "sort") 788, .ref 164⟩ :: ⟨PyData.keyHash P (.ofString "sortby"), .str (.ofString "sortby") 793, .ref 165⟩ :: ⟨PyData.keyHash P (.ofString "match"), .str (.ofString "match") 798, .ref 166⟩ :: ⟨PyData.keyHash P (.ofString "subst"), .str (.ofString "subst") 803, .ref 167⟩ :: ⟨PyData.keyHash P (.ofString "trans"), .str (.ofString "trans") 808, .ref 168⟩ :: ⟨PyData.keyHash P (.ofString "split"), .str (.ofString "split") 813, .ref 169⟩ :: ⟨PyData.keyHash P (.ofString "delete"), .str (.ofString "delete") 818, .ref 170⟩ :: ⟨PyData.keyHash P (.ofString "exists"), .str (.ofString "exists") 823, .ref 171⟩ :: ⟨PyData.keyHash P (.ofString "isdef"), .str (.ofString "isdef") 828, .ref 172⟩ :: ⟨PyData.keyHash P (.ofString "codethere"), .str (.ofString "codethere") 833, .ref 174⟩ :: ⟨PyData.keyHash P (.ofString "evalblock"), .str (.ofString "evalblock") 837, .ref 175⟩ :: ⟨PyData.keyHash P (.ofString "evalstr"), .str (.ofString "evalstr") 841, .ref 176⟩ :: []) : List DictEntry).toArray 122, #[]⟩
noncomputable def o48 : Params → Obj := fun P => ⟨.type "tuple", none, .seq #[.int 0 239, .int 1 240, .str (.ofString "-") 241] 0, #[]⟩
noncomputable def o49 : Params → Obj := fun P => ⟨.type "tuple", none, .seq #[.int 0 244, .int 1 245, .str (.ofString "") 246] 0, #[]⟩
noncomputable def o50 : Params → Obj := fun P => ⟨.type "tuple", none, .seq #[.int 1 249, .int 0 250, .str (.ofString "") 251] 0, #[]⟩
noncomputable def o54 : Params → Obj := fun P => ⟨.type "tuple", none, .seq #[.int 0 269, .int 1 270, .str (.ofString "n") 271] 0, #[]⟩
noncomputable def o62 : Params → Obj := fun P => ⟨.type "tuple", none, .seq #[.int 0 309, .int 1 310, .str (.ofString "--") 311] 0, #[]⟩
noncomputable def o63 : Params → Obj := fun P => ⟨.type "tuple", none, .seq #[.int 0 314, .int 1 315, .str (.ofString "--") 316] 0, #[]⟩
noncomputable def o99 : Params → Obj := fun P => ⟨.type "tuple", none, .seq #[.int 0 484, .int 1 485, .str (.ofString "-") 486] 0, #[]⟩
noncomputable def o127 : Params → Obj := fun P => ⟨.type "tuple", none, .seq #[.int 0 614, .int 0 615, .str (.ofString "j") 616] 0, #[]⟩
noncomputable def o128 : Params → Obj := fun P => ⟨.type "tuple", none, .seq #[.int 1 619, .int 0 620, .str (.ofString "j") 621] 0, #[]⟩
noncomputable def o134 : Params → Obj := fun P => ⟨.type "tuple", none, .seq #[.int 0 649, .int 0 650, .str (.ofString "jjj") 651] 0, #[]⟩
noncomputable def o138 : Params → Obj := fun P => ⟨.type "tuple", none, .seq #[.int 1 664, .int 0 665, .str (.ofString "-") 666] 0, #[]⟩
noncomputable def o140 : Params → Obj := fun P => ⟨.type "tuple", none, .seq #[.int 0 674, .int 0 675, .str (.ofString "") 676] 0, #[]⟩
noncomputable def o141 : Params → Obj := fun P => ⟨.type "tuple", none, .seq #[.int 1 679, .int 0 680, .str (.ofString "") 681] 0, #[]⟩
noncomputable def o161 : Params → Obj := fun P => ⟨.type "tuple", none, .seq #[.int 0 774, .int 1 775, .str (.ofString "-nw") 776] 0, #[]⟩
noncomputable def o162 : Params → Obj := fun P => ⟨.type "tuple", none, .seq #[.int 1 779, .int 1 780, .str (.ofString "-") 781] 0, #[]⟩
noncomputable def o164 : Params → Obj := fun P => ⟨.type "tuple", none, .seq #[.int 1 789, .int 1 790, .str (.ofString "--") 791] 0, #[]⟩
noncomputable def o177 : Params → Obj := fun P => ⟨.type "tuple", none, .seq #[.str (.ofString "jump") 849, .str (.ofString "bywant") 850, .str (.ofString "return0") 851, .str (.ofString "return1") 852, .str (.ofString "return2") 853, .str (.ofString "subreturn") 854, .str (.ofString "loopleave") 855, .str (.ofString "refuse") 856] 0, #[]⟩
noncomputable def o178 : Params → Obj := fun P => ⟨.type "dict", none, .dict #[⟨PyData.keyHash P (.ofString "orjump"), .str (.ofString "orjump") 858, .int 1 859⟩, ⟨PyData.keyHash P (.ofString "andjump"), .str (.ofString "andjump") 860, .int 1 861⟩, ⟨PyData.keyHash P (.ofString "dorjump"), .str (.ofString "dorjump") 862, .int 1 863⟩, ⟨PyData.keyHash P (.ofString "next"), .str (.ofString "next") 864, .int (-1) 866⟩] 4, #[]⟩
noncomputable def o186 : Params → Obj := fun P => ⟨.type "tuple", none, .seq #[] 0, #[]⟩
noncomputable def o188 : Params → Obj := fun P => ⟨.type "tuple", none, .seq #[.str (.ofString "self") 887, .str (.ofString "rows") 888, .str (.ofString "name") 889, .str (.ofString "pad_size") 890, .str (.ofString "captures") 891, .str (.ofString "subs") 892] 0, #[]⟩
noncomputable def o189 : Params → Obj := fun P => ⟨.type "tuple", none, .seq #[] 0, #[]⟩
noncomputable def o191 : Params → Obj := fun P => ⟨.type "code", none, .fields #[.str (.ofString "__init__") 884, .str (.ofString "OpsCode.__init__") 885, .str (.ofString "/claim/cut.py") 886, .int 16 0, .int 6 0, .int 0 0, .int 0 0, .int 3 0, .ref 186, .bool true, .int 181 0, .ref 187, .none, .ref 188, .ref 189, .ref 190, .int 893 0, .int 16 0, .str (.ofString "/claim/cut.py") 894], #[]⟩
noncomputable def o192 : Params → Obj := fun P => ⟨.type "function", none, .func ⟨(.ofString "__init__"), (.ofString "OpsCode.__init__"), fdP (cst 8 0), .stmts (fdB (cst 8 0)), fdS (cst 8 0), 3, [], .none, .none, .none, .str (.ofString "perlcore.ops") 234, none, .ref 191, .none, 0⟩, #[]⟩
noncomputable def o193 : Params → Obj := fun P => ⟨.type "tuple", none, .seq #[.str (.ofString "captures") 896, .str (.ofString "name") 897, .str (.ofString "pad_size") 898, .str (.ofString "rows") 899, .str (.ofString "subs") 900] 0, #[]⟩
noncomputable def o194 : Params → Obj := fun P => ⟨.type "dict", none, .dict #[⟨PyData.keyHash P (.ofString "__module__"), .str (.ofString "__module__") 879, .str (.ofString "perlcore.ops") 234⟩, ⟨PyData.keyHash P (.ofString "__firstlineno__"), .str (.ofString "__firstlineno__") 883, .int 14 882⟩, ⟨PyData.keyHash P (.ofString "__init__"), .str (.ofString "__init__") 895, .ref 192⟩, ⟨PyData.keyHash P (.ofString "__static_attributes__"), .str (.ofString "__static_attributes__") 901, .ref 193⟩, ⟨PyData.keyHash P (.ofString "__dict__"), .str (.ofString "__dict__") 903, .ref 196⟩, ⟨PyData.keyHash P (.ofString "__weakref__"), .str (.ofString "__weakref__") 905, .ref 197⟩, ⟨PyData.keyHash P (.ofString "__doc__"), .str (.ofString "__doc__") 906, .none⟩] 4, #[]⟩
noncomputable def o195 : Params → Obj := fun P => ⟨.type "type", none, .cls ⟨(.ofString "OpsCode"), [.type "object"], [.ref 195, .type "object"], 194, (.ofString "OpsCode"), true, [], [.ref 216], false, none, false⟩, #[none, none, some (.str (.ofString "OpsCode") 872), some (.str (.ofString "OpsCode") 880), some (.builtin "object.__new__"), some (.bool true)]⟩
noncomputable def o196 : Params → Obj := fun P => ⟨.type "getset_descriptor", none, .fields #[.str (.ofString "__dict__") 902, .ref 195, .builtin "function.__dict__", .builtin "function.__dict__#set"], #[]⟩
noncomputable def o197 : Params → Obj := fun P => ⟨.type "getset_descriptor", none, .fields #[.str (.ofString "__weakref__") 904, .ref 195, .builtin "ExceptionGroup.__weakref__", .none], #[]⟩
noncomputable def o200 : Params → Obj := fun P => ⟨.type "tuple", none, .seq #[.ref 195] 0, #[]⟩
noncomputable def o207 : Params → Obj := fun P => ⟨.type "tuple", none, .seq #[] 0, #[]⟩
noncomputable def o209 : Params → Obj := fun P => ⟨.type "tuple", none, .seq #[.str (.ofString "self") 924, .str (.ofString "rows") 925, .str (.ofString "name") 926, .str (.ofString "pad_size") 927, .str (.ofString "captures") 928, .str (.ofString "subs") 929, .str (.ofString "weights") 930] 0, #[]⟩
noncomputable def o210 : Params → Obj := fun P => ⟨.type "tuple", none, .seq #[] 0, #[]⟩
noncomputable def o212 : Params → Obj := fun P => ⟨.type "code", none, .fields #[.str (.ofString "__init__") 921, .str (.ofString "WeighedCode.__init__") 922, .str (.ofString "/claim/cut.py") 923, .int 24 0, .int 7 0, .int 0 0, .int 0 0, .int 3 0, .ref 207, .bool true, .int 181 0, .ref 208, .none, .ref 209, .ref 210, .ref 211, .int 931 0, .int 24 0, .str (.ofString "/claim/cut.py") 932], #[]⟩
noncomputable def o213 : Params → Obj := fun P => ⟨.type "function", none, .func ⟨(.ofString "__init__"), (.ofString "WeighedCode.__init__"), fdP (cst 9 0), .stmts (fdB (cst 9 0)), fdS (cst 9 0), 3, [], .none, .none, .none, .str (.ofString "perlcore.ops") 234, none, .ref 212, .none, 0⟩, #[]⟩
noncomputable def o214 : Params → Obj := fun P => ⟨.type "tuple", none, .seq #[.str (.ofString "weights") 934] 0, #[]⟩
noncomputable def o215 : Params → Obj := fun P => ⟨.type "dict", none, .dict #[⟨PyData.keyHash P (.ofString "__module__"), .str (.ofString "__module__") 916, .str (.ofString "perlcore.ops") 234⟩, ⟨PyData.keyHash P (.ofString "__firstlineno__"), .str (.ofString "__firstlineno__") 920, .int 22 919⟩, ⟨PyData.keyHash P (.ofString "__init__"), .str (.ofString "__init__") 933, .ref 213⟩, ⟨PyData.keyHash P (.ofString "__static_attributes__"), .str (.ofString "__static_attributes__") 935, .ref 214⟩, ⟨PyData.keyHash P (.ofString "__doc__"), .str (.ofString "__doc__") 936, .none⟩] 2, #[]⟩
noncomputable def o216 : Params → Obj := fun P => ⟨.type "type", none, .cls ⟨(.ofString "WeighedCode"), [.ref 195], [.ref 216, .ref 195, .type "object"], 215, (.ofString "WeighedCode"), true, [], [], false, none, false⟩, #[some (.ref 200), none, some (.str (.ofString "WeighedCode") 909), some (.str (.ofString "WeighedCode") 917), some (.builtin "object.__new__"), some (.bool true)]⟩
noncomputable def o219 : Params → Obj := fun P => ⟨.type "tuple", none, .seq #[] 0, #[]⟩
noncomputable def o221 : Params → Obj := fun P => ⟨.type "tuple", none, .seq #[.str (.ofString "op") 942, .str (.ofString "shape") 943] 0, #[]⟩
noncomputable def o222 : Params → Obj := fun P => ⟨.type "tuple", none, .seq #[] 0, #[]⟩
noncomputable def o224 : Params → Obj := fun P => ⟨.type "code", none, .fields #[.str (.ofString "shape_of") 939, .str (.ofString "shape_of") 940, .str (.ofString "/claim/cut.py") 941, .int 27 0, .int 1 0, .int 0 0, .int 0 0, .int 3 0, .ref 219, .bool true, .int 181 0, .ref 220, .none, .ref 221, .ref 222, .ref 223, .int 944 0, .int 27 0, .str (.ofString "/claim/cut.py") 945], #[]⟩
noncomputable def o225 : Params → Obj := fun P => ⟨.type "function", none, .func ⟨(.ofString "shape_of"), (.ofString "shape_of"), fdP (st 10), .stmts (fdB (st 10)), fdS (st 10), 3, [], .none, .none, .none, .str (.ofString "perlcore.ops") 234, none, .ref 224, .none, 0⟩, #[]⟩
noncomputable def o226 : Params → Obj := fun P => ⟨.type "tuple", none, .seq #[] 0, #[]⟩
noncomputable def o228 : Params → Obj := fun P => ⟨.type "tuple", none, .seq #[.str (.ofString "op") 950, .str (.ofString "taken") 951, .str (.ofString "left") 952, .str (.ofString "parts") 953, .str (.ofString "at") 954] 0, #[]⟩
noncomputable def o229 : Params → Obj := fun P => ⟨.type "tuple", none, .seq #[] 0, #[]⟩
noncomputable def o231 : Params → Obj := fun P => ⟨.type "code", none, .fields #[.str (.ofString "effect_of") 947, .str (.ofString "effect_of") 948, .str (.ofString "/claim/cut.py") 949, .int 34 0, .int 1 0, .int 0 0, .int 0 0, .int 3 0, .ref 226, .bool true, .int 181 0, .ref 227, .none, .ref 228, .ref 229, .ref 230, .int 955 0, .int 34 0, .str (.ofString "/claim/cut.py") 956], #[]⟩
noncomputable def o232 : Params → Obj := fun P => ⟨.type "function", none, .func ⟨(.ofString "effect_of"), (.ofString "effect_of"), fdP (st 11), .stmts (fdB (st 11)), fdS (st 11), 3, [], .none, .none, .none, .str (.ofString "perlcore.ops") 234, none, .ref 231, .none, 0⟩, #[]⟩
noncomputable def o233 : Params → Obj := fun P => ⟨.type "tuple", none, .seq #[] 0, #[]⟩
noncomputable def o236 : Params → Obj := fun P => ⟨.type "code", none, .fields #[.str (.ofString "jumps_of") 958, .str (.ofString "jumps_of") 959, .str (.ofString "/claim/cut.py") 960, .int 44 0, .int 1 0, .int 0 0, .int 0 0, .int 3 0, .ref 233, .bool true, .int 181 0, .ref 234, .none, .none, .none, .ref 235, .int 961 0, .int 44 0, .str (.ofString "/claim/cut.py") 962], #[]⟩
noncomputable def o237 : Params → Obj := fun P => ⟨.type "function", none, .func ⟨(.ofString "jumps_of"), (.ofString "jumps_of"), fdP (st 12), .stmts (fdB (st 12)), fdS (st 12), 3, [], .none, .none, .none, .str (.ofString "perlcore.ops") 234, none, .ref 236, .none, 0⟩, #[]⟩
noncomputable def o238 : Params → Obj := fun P => ⟨.type "tuple", none, .seq #[] 0, #[]⟩
noncomputable def o240 : Params → Obj := fun P => ⟨.type "tuple", none, .seq #[.str (.ofString "op") 967] 0, #[]⟩
noncomputable def o241 : Params → Obj := fun P => ⟨.type "tuple", none, .seq #[] 0, #[]⟩
noncomputable def o243 : Params → Obj := fun P => ⟨.type "code", none, .fields #[.str (.ofString "goes_on") 964, .str (.ofString "goes_on") 965, .str (.ofString "/claim/cut.py") 966, .int 47 0, .int 1 0, .int 0 0, .int 0 0, .int 3 0, .ref 238, .bool true, .int 181 0, .ref 239, .none, .ref 240, .ref 241, .ref 242, .int 968 0, .int 47 0, .str (.ofString "/claim/cut.py") 969], #[]⟩
noncomputable def o244 : Params → Obj := fun P => ⟨.type "function", none, .func ⟨(.ofString "goes_on"), (.ofString "goes_on"), fdP (st 13), .stmts (fdB (st 13)), fdS (st 13), 3, [], .none, .none, .none, .str (.ofString "perlcore.ops") 234, none, .ref 243, .none, 0⟩, #[]⟩
noncomputable def o245 : Params → Obj := fun P => ⟨.type "tuple", none, .seq #[] 0, #[]⟩
noncomputable def o247 : Params → Obj := fun P => ⟨.type "tuple", none, .seq #[.str (.ofString "op") 974, .str (.ofString "taken") 975, .str (.ofString "left") 976, .str (.ofString "change") 977, .str (.ofString "found") 978, .str (.ofString "place") 979] 0, #[]⟩
noncomputable def o248 : Params → Obj := fun P => ⟨.type "tuple", none, .seq #[] 0, #[]⟩
noncomputable def o250 : Params → Obj := fun P => ⟨.type "code", none, .fields #[.str (.ofString "heights_at") 971, .str (.ofString "heights_at") 972, .str (.ofString "/claim/cut.py") 973, .int 49 0, .int 1 0, .int 0 0, .int 0 0, .int 3 0, .ref 245, .bool true, .int 181 0, .ref 246, .none, .ref 247, .ref 248, .ref 249, .int 980 0, .int 49 0, .str (.ofString "/claim/cut.py") 981], #[]⟩
noncomputable def o251 : Params → Obj := fun P => ⟨.type "function", none, .func ⟨(.ofString "heights_at"), (.ofString "heights_at"), fdP (st 14), .stmts (fdB (st 14)), fdS (st 14), 3, [], .none, .none, .none, .str (.ofString "perlcore.ops") 234, none, .ref 250, .none, 0⟩, #[]⟩
noncomputable def o252 : Params → Obj := fun P => ⟨.type "tuple", none, .seq #[] 0, #[]⟩
noncomputable def o254 : Params → Obj := fun P => ⟨.type "tuple", none, .seq #[.str (.ofString "op") 986] 0, #[]⟩
noncomputable def o255 : Params → Obj := fun P => ⟨.type "tuple", none, .seq #[] 0, #[]⟩
noncomputable def o257 : Params → Obj := fun P => ⟨.type "code", none, .fields #[.str (.ofString "subs_used") 983, .str (.ofString "subs_used") 984, .str (.ofString "/claim/cut.py") 985, .int 58 0, .int 1 0, .int 0 0, .int 0 0, .int 3 0, .ref 252, .bool true, .int 181 0, .ref 253, .none, .ref 254, .ref 255, .ref 256, .int 987 0, .int 58 0, .str (.ofString "/claim/cut.py") 988], #[]⟩
noncomputable def o258 : Params → Obj := fun P => ⟨.type "function", none, .func ⟨(.ofString "subs_used"), (.ofString "subs_used"), fdP (st 15), .stmts (fdB (st 15)), fdS (st 15), 3, [], .none, .none, .none, .str (.ofString "perlcore.ops") 234, none, .ref 257, .none, 0⟩, #[]⟩
noncomputable def o259 : Params → Obj := fun P => ⟨.type "dict", none, .dict #[⟨PyData.keyHash P (.ofString "pad"), .str (.ofString "pad") 992, .int 2 993⟩, ⟨PyData.keyHash P (.ofString "my"), .str (.ofString "my") 994, .int 2 995⟩, ⟨PyData.keyHash P (.ofString "bindpad"), .str (.ofString "bindpad") 996, .int 1 997⟩] 3, #[]⟩
noncomputable def o260 : Params → Obj := fun P => ⟨.type "dict", none, .dict #[⟨PyData.keyHash P (.ofString "closure"), .str (.ofString "closure") 1002, .int 1 1003⟩, ⟨PyData.keyHash P (.ofString "definesub"), .str (.ofString "definesub") 1004, .int 1 1005⟩, ⟨PyData.keyHash P (.ofString "map"), .str (.ofString "map") 1006, .int 1 1007⟩, ⟨PyData.keyHash P (.ofString "grep"), .str (.ofString "grep") 1008, .int 1 1009⟩, ⟨PyData.keyHash P (.ofString "evalblock"), .str (.ofString "evalblock") 1010, .int 1 1011⟩, ⟨PyData.keyHash P (.ofString "subst"), .str (.ofString "subst") 1012, .int 2 1013⟩, ⟨PyData.keyHash P (.ofString "sort"), .str (.ofString "sort") 1014, .int 1 1015⟩] 7, #[]⟩
noncomputable def o261 : Params → Obj := fun P => ⟨.type "tuple", none, .seq #[.str (.ofString "closure") 1024, .str (.ofString "definesub") 1025] 0, #[]⟩
noncomputable def o262 : Params → Obj := fun P => ⟨.type "tuple", none, .seq #[] 0, #[]⟩
noncomputable def o264 : Params → Obj := fun P => ⟨.type "tuple", none, .seq #[.str (.ofString "part") 1030] 0, #[]⟩
noncomputable def o265 : Params → Obj := fun P => ⟨.type "tuple", none, .seq #[] 0, #[]⟩
noncomputable def o267 : Params → Obj := fun P => ⟨.type "code", none, .fields #[.str (.ofString "need_number") 1027, .str (.ofString "need_number") 1028, .str (.ofString "/claim/cut.py") 1029, .int 70 0, .int 1 0, .int 0 0, .int 0 0, .int 3 0, .ref 262, .bool true, .int 181 0, .ref 263, .none, .ref 264, .ref 265, .ref 266, .int 1031 0, .int 70 0, .str (.ofString "/claim/cut.py") 1032], #[]⟩
noncomputable def o268 : Params → Obj := fun P => ⟨.type "function", none, .func ⟨(.ofString "need_number"), (.ofString "need_number"), fdP (st 20), .stmts (fdB (st 20)), fdS (st 20), 3, [], .none, .none, .none, .str (.ofString "perlcore.opcheck") 990, none, .ref 267, .none, 0⟩, #[]⟩
noncomputable def o269 : Params → Obj := fun P => ⟨.type "tuple", none, .seq #[] 0, #[]⟩
noncomputable def o271 : Params → Obj := fun P => ⟨.type "tuple", none, .seq #[.str (.ofString "op") 1037, .str (.ofString "letters") 1038, .str (.ofString "at") 1039, .str (.ofString "table") 1040] 0, #[]⟩
noncomputable def o272 : Params → Obj := fun P => ⟨.type "tuple", none, .seq #[] 0, #[]⟩
noncomputable def o274 : Params → Obj := fun P => ⟨.type "code", none, .fields #[.str (.ofString "check_numbers") 1034, .str (.ofString "check_numbers") 1035, .str (.ofString "/claim/cut.py") 1036, .int 73 0, .int 1 0, .int 0 0, .int 0 0, .int 3 0, .ref 269, .bool true, .int 181 0, .ref 270, .none, .ref 271, .ref 272, .ref 273, .int 1041 0, .int 73 0, .str (.ofString "/claim/cut.py") 1042], #[]⟩
noncomputable def o275 : Params → Obj := fun P => ⟨.type "function", none, .func ⟨(.ofString "check_numbers"), (.ofString "check_numbers"), fdP (st 21), .stmts (fdB (st 21)), fdS (st 21), 3, [], .none, .none, .none, .str (.ofString "perlcore.opcheck") 990, none, .ref 274, .none, 0⟩, #[]⟩
noncomputable def o276 : Params → Obj := fun P => ⟨.type "tuple", none, .seq #[] 0, #[]⟩
noncomputable def o278 : Params → Obj := fun P => ⟨.type "tuple", none, .seq #[.str (.ofString "op") 1047, .str (.ofString "size") 1048, .str (.ofString "many") 1049, .str (.ofString "pad_size") 1050, .str (.ofString "taken") 1051, .str (.ofString "left") 1052, .str (.ofString "place") 1053, .str (.ofString "number") 1054] 0, #[]⟩
noncomputable def o279 : Params → Obj := fun P => ⟨.type "tuple", none, .seq #[] 0, #[]⟩
noncomputable def o281 : Params → Obj := fun P => ⟨.type "code", none, .fields #[.str (.ofString "check_row") 1044, .str (.ofString "check_row") 1045, .str (.ofString "/claim/cut.py") 1046, .int 81 0, .int 4 0, .int 0 0, .int 0 0, .int 3 0, .ref 276, .bool true, .int 181 0, .ref 277, .none, .ref 278, .ref 279, .ref 280, .int 1055 0, .int 81 0, .str (.ofString "/claim/cut.py") 1056], #[]⟩
noncomputable def o282 : Params → Obj := fun P => ⟨.type "function", none, .func ⟨(.ofString "check_row"), (.ofString "check_row"), fdP (st 22), .stmts (fdB (st 22)), fdS (st 22), 3, [], .none, .none, .none, .str (.ofString "perlcore.opcheck") 990, none, .ref 281, .none, 0⟩, #[]⟩
noncomputable def o283 : Params → Obj := fun P => ⟨.type "tuple", none, .seq #[] 0, #[]⟩
noncomputable def o285 : Params → Obj := fun P => ⟨.type "tuple", none, .seq #[.str (.ofString "rows") 1061, .str (.ofString "heights") 1062, .str (.ofString "line") 1063, .str (.ofString "at") 1064, .str (.ofString "height") 1065, .str (.ofString "place") 1066, .str (.ofString "change") 1067] 0, #[]⟩
noncomputable def o286 : Params → Obj := fun P => ⟨.type "tuple", none, .seq #[] 0, #[]⟩
noncomputable def o288 : Params → Obj := fun P => ⟨.type "code", none, .fields #[.str (.ofString "heights_of") 1058, .str (.ofString "heights_of") 1059, .str (.ofString "/claim/cut.py") 1060, .int 94 0, .int 1 0, .int 0 0, .int 0 0, .int 3 0, .ref 283, .bool true, .int 181 0, .ref 284, .none, .ref 285, .ref 286, .ref 287, .int 1068 0, .int 94 0, .str (.ofString "/claim/cut.py") 1069], #[]⟩
noncomputable def o289 : Params → Obj := fun P => ⟨.type "function", none, .func ⟨(.ofString "heights_of"), (.ofString "heights_of"), fdP (st 23), .stmts (fdB (st 23)), fdS (st 23), 3, [], .none, .none, .none, .str (.ofString "perlcore.opcheck") 990, none, .ref 288, .none, 0⟩, #[]⟩
noncomputable def o290 : Params → Obj := fun P => ⟨.type "tuple", none, .seq #[] 0, #[]⟩
noncomputable def o293 : Params → Obj := fun P => ⟨.type "code", none, .fields #[.str (.ofString "check_on_pad") 1071, .str (.ofString "check_on_pad") 1072, .str (.ofString "/claim/cut.py") 1073, .int 109 0, .int 2 0, .int 0 0, .int 0 0, .int 3 0, .ref 290, .bool true, .int 181 0, .ref 291, .none, .none, .none, .ref 292, .int 1074 0, .int 109 0, .str (.ofString "/claim/cut.py") 1075], #[]⟩
noncomputable def o294 : Params → Obj := fun P => ⟨.type "function", none, .func ⟨(.ofString "check_on_pad"), (.ofString "check_on_pad"), fdP (st 24), .stmts (fdB (st 24)), fdS (st 24), 3, [], .none, .none, .none, .str (.ofString "perlcore.opcheck") 990, none, .ref 293, .none, 0⟩, #[]⟩
noncomputable def o295 : Params → Obj := fun P => ⟨.type "tuple", none, .seq #[] 0, #[]⟩
noncomputable def o297 : Params → Obj := fun P => ⟨.type "tuple", none, .seq #[.str (.ofString "code") 1080] 0, #[]⟩
noncomputable def o298 : Params → Obj := fun P => ⟨.type "tuple", none, .seq #[] 0, #[]⟩
noncomputable def o300 : Params → Obj := fun P => ⟨.type "code", none, .fields #[.str (.ofString "check_code") 1077, .str (.ofString "check_code") 1078, .str (.ofString "/claim/cut.py") 1079, .int 120 0, .int 1 0, .int 0 0, .int 0 0, .int 3 0, .ref 295, .bool true, .int 181 0, .ref 296, .none, .ref 297, .ref 298, .ref 299, .int 1081 0, .int 120 0, .str (.ofString "/claim/cut.py") 1082], #[]⟩
noncomputable def o301 : Params → Obj := fun P => ⟨.type "function", none, .func ⟨(.ofString "check_code"), (.ofString "check_code"), fdP (st 25), .stmts (fdB (st 25)), fdS (st 25), 3, [], .none, .none, .none, .str (.ofString "perlcore.opcheck") 990, none, .ref 300, .none, 0⟩, #[]⟩
noncomputable def o302 : Params → Obj := fun P => ⟨.type "dict", none, .dict #[⟨PyData.keyHash P (.ofString "pad"), .str (.ofString "pad") 1086, .ref 303⟩, ⟨PyData.keyHash P (.ofString "my"), .str (.ofString "my") 1088, .ref 304⟩, ⟨PyData.keyHash P (.ofString "bindpad"), .str (.ofString "bindpad") 1090, .ref 305⟩, ⟨PyData.keyHash P (.ofString "jump"), .str (.ofString "jump") 1092, .ref 306⟩, ⟨PyData.keyHash P (.ofString "iffalse"), .str (.ofString "iffalse") 1094, .ref 307⟩, ⟨PyData.keyHash P (.ofString "append"), .str (.ofString "append") 1096, .ref 308⟩, ⟨PyData.keyHash P (.ofString "closure"), .str (.ofString "closure") 1098, .ref 309⟩, ⟨PyData.keyHash P (.ofString "map"), .str (.ofString "map") 1100, .ref 310⟩, ⟨PyData.keyHash P (.ofString "bywant"), .str (.ofString "bywant") 1102, .ref 311⟩, ⟨PyData.keyHash P (.ofString "sort"), .str (.ofString "sort") 1106, .ref 312⟩, ⟨PyData.keyHash P (.ofString "func"), .str (.ofString "func") 1108, .ref 313⟩] 11, #[]⟩
noncomputable def o303 : Params → Obj := fun P => ⟨.type "list", none, .seq #[.int 2 1087] 0, #[]⟩
noncomputable def o304 : Params → Obj := fun P => ⟨.type "list", none, .seq #[.int 2 1089] 0, #[]⟩
noncomputable def o305 : Params → Obj := fun P => ⟨.type "list", none, .seq #[.int 1 1091] 0, #[]⟩
noncomputable def o306 : Params → Obj := fun P => ⟨.type "list", none, .seq #[.int 1 1093] 0, #[]⟩
noncomputable def o307 : Params → Obj := fun P => ⟨.type "list", none, .seq #[.int 1 1095] 0, #[]⟩
noncomputable def o308 : Params → Obj := fun P => ⟨.type "list", none, .seq #[.int 1 1097] 0, #[]⟩
noncomputable def o309 : Params → Obj := fun P => ⟨.type "list", none, .seq #[.int 1 1099] 0, #[]⟩
noncomputable def o310 : Params → Obj := fun P => ⟨.type "list", none, .seq #[.int 1 1101] 0, #[]⟩
noncomputable def o311 : Params → Obj := fun P => ⟨.type "list", none, .seq #[.int 1 1103, .int 2 1104, .int 3 1105] 0, #[]⟩
noncomputable def o312 : Params → Obj := fun P => ⟨.type "list", none, .seq #[.int 1 1107] 0, #[]⟩
noncomputable def o313 : Params → Obj := fun P => ⟨.type "list", none, .seq #[.int 2 1109, .int 3 1110] 0, #[]⟩
noncomputable def o314 : Params → Obj := fun P => ⟨.type "tuple", none, .seq #[.int 1 1124] 0, #[]⟩
noncomputable def o315 : Params → Obj := fun P => ⟨.type "list", none, .seq #[.int 0 1125] 0, #[]⟩
noncomputable def o316 : Params → Obj := fun P => ⟨.type "list", none, .seq #[.none, .str (.ofString "1") 1123, .bool true, .ref 314, .ref 315] 0, #[]⟩
noncomputable def o317 : Params → Obj := fun P => ⟨.type "tuple", none, .seq #[] 0, #[]⟩
noncomputable def o319 : Params → Obj := fun P => ⟨.type "tuple", none, .seq #[.str (.ofString "bin_of") 1130, .str (.ofString "many") 1131, .str (.ofString "at") 1132] 0, #[]⟩
noncomputable def o320 : Params → Obj := fun P => ⟨.type "tuple", none, .seq #[] 0, #[]⟩
noncomputable def o322 : Params → Obj := fun P => ⟨.type "code", none, .fields #[.str (.ofString "_law_scoop") 1127, .str (.ofString "_law_scoop") 1128, .str (.ofString "/claim/cut.py") 1129, .int 125 0, .int 2 0, .int 0 0, .int 0 0, .int 3 0, .ref 317, .bool true, .int 181 0, .ref 318, .none, .ref 319, .ref 320, .ref 321, .int 1133 0, .int 125 0, .str (.ofString "/claim/cut.py") 1134], #[]⟩
noncomputable def o323 : Params → Obj := fun P => ⟨.type "function", none, .func ⟨(.ofString "_law_scoop"), (.ofString "_law_scoop"), fdP (st 29), .stmts (fdB (st 29)), fdS (st 29), 3, [], .none, .none, .none, .str (.ofString "law_qz0086_01") 1084, none, .ref 322, .none, 0⟩, #[]⟩
noncomputable def o324 : Params → Obj := fun P => ⟨.type "tuple", none, .seq #[] 0, #[]⟩
noncomputable def o326 : Params → Obj := fun P => ⟨.type "tuple", none, .seq #[.str (.ofString "way") 1139, .str (.ofString "at") 1140, .str (.ofString "slot") 1141] 0, #[]⟩
noncomputable def o327 : Params → Obj := fun P => ⟨.type "tuple", none, .seq #[] 0, #[]⟩
noncomputable def o329 : Params → Obj := fun P => ⟨.type "code", none, .fields #[.str (.ofString "_law_run") 1136, .str (.ofString "_law_run") 1137, .str (.ofString "/claim/cut.py") 1138, .int 129 0, .int 3 0, .int 0 0, .int 0 0, .int 3 0, .ref 324, .bool true, .int 181 0, .ref 325, .none, .ref 326, .ref 327, .ref 328, .int 1142 0, .int 129 0, .str (.ofString "/claim/cut.py") 1143], #[]⟩
noncomputable def o330 : Params → Obj := fun P => ⟨.type "function", none, .func ⟨(.ofString "_law_run"), (.ofString "_law_run"), fdP (st 30), .stmts (fdB (st 30)), fdS (st 30), 3, [], .none, .none, .none, .str (.ofString "law_qz0086_01") 1084, none, .ref 329, .none, 0⟩, #[]⟩
noncomputable def o331 : Params → Obj := fun P => ⟨.type "tuple", none, .seq #[] 0, #[]⟩
noncomputable def o334 : Params → Obj := fun P => ⟨.type "code", none, .fields #[.str (.ofString "_law_bent") 1145, .str (.ofString "_law_bent") 1146, .str (.ofString "/claim/cut.py") 1147, .int 151 0, .int 3 0, .int 0 0, .int 0 0, .int 3 0, .ref 331, .bool true, .int 181 0, .ref 332, .none, .none, .none, .ref 333, .int 1148 0, .int 151 0, .str (.ofString "/claim/cut.py") 1149], #[]⟩
noncomputable def o335 : Params → Obj := fun P => ⟨.type "function", none, .func ⟨(.ofString "_law_bent"), (.ofString "_law_bent"), fdP (st 31), .stmts (fdB (st 31)), fdS (st 31), 3, [], .none, .none, .none, .str (.ofString "law_qz0086_01") 1084, none, .ref 334, .none, 0⟩, #[]⟩
noncomputable def o336 : Params → Obj := fun P => ⟨.type "tuple", none, .seq #[] 0, #[]⟩
noncomputable def o338 : Params → Obj := fun P => ⟨.type "tuple", none, .seq #[.str (.ofString "part") 1154] 0, #[]⟩
noncomputable def o339 : Params → Obj := fun P => ⟨.type "tuple", none, .seq #[] 0, #[]⟩
noncomputable def o341 : Params → Obj := fun P => ⟨.type "code", none, .fields #[.str (.ofString "_law_is_whole") 1151, .str (.ofString "_law_is_whole") 1152, .str (.ofString "/claim/cut.py") 1153, .int 157 0, .int 1 0, .int 0 0, .int 0 0, .int 3 0, .ref 336, .bool true, .int 181 0, .ref 337, .none, .ref 338, .ref 339, .ref 340, .int 1155 0, .int 157 0, .str (.ofString "/claim/cut.py") 1156], #[]⟩
noncomputable def o342 : Params → Obj := fun P => ⟨.type "function", none, .func ⟨(.ofString "_law_is_whole"), (.ofString "_law_is_whole"), fdP (st 32), .stmts (fdB (st 32)), fdS (st 32), 3, [], .none, .none, .none, .str (.ofString "law_qz0086_01") 1084, none, .ref 341, .none, 0⟩, #[]⟩
noncomputable def o343 : Params → Obj := fun P => ⟨.type "tuple", none, .seq #[] 0, #[]⟩
noncomputable def o345 : Params → Obj := fun P => ⟨.type "tuple", none, .seq #[.str (.ofString "rows") 1161, .str (.ofString "pad_size") 1162, .str (.ofString "many") 1163, .str (.ofString "op") 1164, .str (.ofString "place") 1165] 0, #[]⟩
noncomputable def o346 : Params → Obj := fun P => ⟨.type "tuple", none, .seq #[] 0, #[]⟩
noncomputable def o348 : Params → Obj := fun P => ⟨.type "code", none, .fields #[.str (.ofString "_law_is_let") 1158, .str (.ofString "_law_is_let") 1159, .str (.ofString "/claim/cut.py") 1160, .int 159 0, .int 3 0, .int 0 0, .int 0 0, .int 3 0, .ref 343, .bool true, .int 181 0, .ref 344, .none, .ref 345, .ref 346, .ref 347, .int 1166 0, .int 159 0, .str (.ofString "/claim/cut.py") 1167], #[]⟩
noncomputable def o349 : Params → Obj := fun P => ⟨.type "function", none, .func ⟨(.ofString "_law_is_let"), (.ofString "_law_is_let"), fdP (st 33), .stmts (fdB (st 33)), fdS (st 33), 3, [], .none, .none, .none, .str (.ofString "law_qz0086_01") 1084, none, .ref 348, .none, 0⟩, #[]⟩
noncomputable def o350 : Params → Obj := fun P => ⟨.type "tuple", none, .seq #[] 0, #[]⟩
noncomputable def o353 : Params → Obj := fun P => ⟨.type "code", none, .fields #[.str (.ofString "law") 1169, .str (.ofString "law") 1170, .str (.ofString "/claim/cut.py") 1171, .int 169 0, .int 1 0, .int 0 0, .int 0 0, .int 3 0, .ref 350, .bool true, .int 181 0, .ref 351, .none, .none, .none, .ref 352, .int 1172 0, .int 169 0, .str (.ofString "/claim/cut.py") 1173], #[]⟩
noncomputable def o354 : Params → Obj := fun P => ⟨.type "function", none, .func ⟨(.ofString "law"), (.ofString "law"), fdP (st 34), .stmts (fdB (st 34)), fdS (st 34), 3, [], .none, .none, .none, .str (.ofString "law_qz0086_01") 1084, none, .ref 353, .none, 0⟩, #[]⟩
noncomputable def KK : Params → Frag := fun P => (nat_lit 2, o2 P) :: (nat_lit 3, o3 P) :: (nat_lit 15, o15 P) :: (nat_lit 22, o22 P) :: (nat_lit 24, o24 P) :: (nat_lit 25, o25 P) :: (nat_lit 27, o27 P) :: (nat_lit 28, o28 P) :: (nat_lit 29, o29 P) :: (nat_lit 30, o30 P) :: (nat_lit 31, o31 P) :: (nat_lit 32, o32 P) :: (nat_lit 35, o35 P) :: (nat_lit 42, o42 P) :: (nat_lit 43, o43 P) :: (nat_lit 44, o44 P) :: (nat_lit 47, o47 P) :: (nat_lit 48, o48 P) :: (nat_lit 49, o49 P) :: (nat_lit 50, o50 P) :: (nat_lit 54, o54 P) :: (nat_lit 62, o62 P) :: (nat_lit 63, o63 P) :: (nat_lit 99, o99 P) :: (nat_lit 127, o127 P) :: (nat_lit 128, o128 P) :: (nat_lit 134, o134 P) :: (nat_lit 138, o138 P) :: (nat_lit 140, o140 P) :: (nat_lit 141, o141 P) :: (nat_lit 161, o161 P) :: (nat_lit 162, o162 P) :: (nat_lit 164, o164 P) :: (nat_lit 177, o177 P) :: (nat_lit 178, o178 P) :: (nat_lit 186, o186 P) :: (nat_lit 188, o188 P) :: (nat_lit 189, o189 P) :: (nat_lit 191, o191 P) :: (nat_lit 192, o192 P) :: (nat_lit 193, o193 P) :: (nat_lit 194, o194 P) :: (nat_lit 195, o195 P) :: (nat_lit 196, o196 P) :: (nat_lit 197, o197 P) :: (nat_lit 200, o200 P) :: (nat_lit 207, o207 P) :: (nat_lit 209, o209 P) :: (nat_lit 210, o210 P) :: (nat_lit 212, o212 P) :: (nat_lit 213, o213 P) :: (nat_lit 214, o214 P) :: (nat_lit 215, o215 P) :: (nat_lit 216, o216 P) :: (nat_lit 219, o219 P) :: (nat_lit 221, o221 P) :: (nat_lit 222, o222 P) :: (nat_lit 224, o224 P) :: (nat_lit 225, o225 P) :: (nat_lit 226, o226 P) :: (nat_lit 228, o228 P) :: (nat_lit 229, o229 P) :: (nat_lit 231, o231 P) :: (nat_lit 232, o232 P) :: (nat_lit 233, o233 P) :: (nat_lit 236, o236 P) :: (nat_lit 237, o237 P) :: (nat_lit 238, o238 P) :: (nat_lit 240, o240 P) :: (nat_lit 241, o241 P) :: (nat_lit 243, o243 P) :: (nat_lit 244, o244 P) :: (nat_lit 245, o245 P) :: (nat_lit 247, o247 P) :: (nat_lit 248, o248 P) :: (nat_lit 250, o250 P) :: (nat_lit 251, o251 P) :: (nat_lit 252, o252 P) :: (nat_lit 254, o254 P) :: (nat_lit 255, o255 P) :: (nat_lit 257, o257 P) :: (nat_lit 258, o258 P) :: (nat_lit 259, o259 P) :: (nat_lit 260, o260 P) :: (nat_lit 261, o261 P) :: (nat_lit 262, o262 P) :: (nat_lit 264, o264 P) :: (nat_lit 265, o265 P) :: (nat_lit 267, o267 P) :: (nat_lit 268, o268 P) :: (nat_lit 269, o269 P) :: (nat_lit 271, o271 P) :: (nat_lit 272, o272 P) :: (nat_lit 274, o274 P) :: (nat_lit 275, o275 P) :: (nat_lit 276, o276 P) :: (nat_lit 278, o278 P) :: (nat_lit 279, o279 P) :: (nat_lit 281, o281 P) :: (nat_lit 282, o282 P) :: (nat_lit 283, o283 P) :: (nat_lit 285, o285 P) :: (nat_lit 286, o286 P) :: (nat_lit 288, o288 P) :: (nat_lit 289, o289 P) :: (nat_lit 290, o290 P) :: (nat_lit 293, o293 P) :: (nat_lit 294, o294 P) :: (nat_lit 295, o295 P) :: (nat_lit 297, o297 P) :: (nat_lit 298, o298 P) :: (nat_lit 300, o300 P) :: (nat_lit 301, o301 P) :: (nat_lit 302, o302 P) :: (nat_lit 303, o303 P) :: (nat_lit 304, o304 P) :: (nat_lit 305, o305 P) :: (nat_lit 306, o306 P) :: (nat_lit 307, o307 P) :: (nat_lit 308, o308 P) :: (nat_lit 309, o309 P) :: (nat_lit 310, o310 P) :: (nat_lit 311, o311 P) :: (nat_lit 312, o312 P) :: (nat_lit 313, o313 P) :: (nat_lit 314, o314 P) :: (nat_lit 315, o315 P) :: (nat_lit 316, o316 P) :: (nat_lit 317, o317 P) :: (nat_lit 319, o319 P) :: (nat_lit 320, o320 P) :: (nat_lit 322, o322 P) :: (nat_lit 323, o323 P) :: (nat_lit 324, o324 P) :: (nat_lit 326, o326 P) :: (nat_lit 327, o327 P) :: (nat_lit 329, o329 P) :: (nat_lit 330, o330 P) :: (nat_lit 331, o331 P) :: (nat_lit 334, o334 P) :: (nat_lit 335, o335 P) :: (nat_lit 336, o336 P) :: (nat_lit 338, o338 P) :: (nat_lit 339, o339 P) :: (nat_lit 341, o341 P) :: (nat_lit 342, o342 P) :: (nat_lit 343, o343 P) :: (nat_lit 345, o345 P) :: (nat_lit 346, o346 P) :: (nat_lit 348, o348 P) :: (nat_lit 349, o349 P) :: (nat_lit 350, o350 P) :: (nat_lit 353, o353 P) :: (nat_lit 354, o354 P) :: []
noncomputable def vw : Program := { PySem.Challenge.pw_qz0086_01 with main := { PySem.Challenge.pw_qz0086_01.main with body := [st 34] } }
noncomputable def lo : List Str := looseW vw ["PerlError", "BadOps", "VOID", "SHAPES", "LEAVING", "KEEPING", "OpsCode", "WeighedCode", "shape_of", "effect_of", "jumps_of", "goes_on", "heights_at", "subs_used", "SLOTS", "CODES", "MAKERS", "need_number", "check_numbers", "check_row", "heights_of", "check_on_pad", "check_code", "_law_places", "_law_odd", "_law_scoop", "_law_run", "_law_bent", "_law_is_whole", "_law_is_let"]
noncomputable abbrev tup (vs : List Value) (n : Nat) : Obj := { cls := .type "tuple", data := .seq vs.toArray n }
end
section
open PySem PySem.W PyProof.Rows PySem.Calls
set_option maxRecDepth 100000
theorem sem_assoc {α β γ : Type} (m : Sem α) (f : α → Sem β) (g : β → Sem γ) : (m.bind f).bind g = m.bind fun a => (f a).bind g := by
  rw [Sem.bind_eq_wrap m, Sem.bind_eq_wrap, Sem.wrap_wrap, Sem.bind_eq_wrap]
  refine Sem.wrap_congr _ _ _ (fun a => (Sem.bind_eq_wrap _ _).symm) fun e => rfl
theorem wrap_bind {α β γ : Type} (m : Sem α) (f : α → Sem β) (K : β → Sem γ) (H : Value → Sem γ) : (m.bind f).wrap K H id id = m.wrap (fun a => (f a).wrap K H id id) H id id := by
  rw [Sem.bind_eq_wrap, Sem.wrap_wrap]
  exact Sem.wrap_congr _ _ _ (fun a => rfl) fun e => rfl
section
variable {p : Program} {w : World} {m0 : Nat} {ann : Option Value} {q : Pos} {α β : Type}
/-- a tree's run at the top: it comes to a value and a state, whatever stands behind it -/
noncomputable def TopsTo (p : Program) (w : World) (m0 : Nat) (ann : Option Value) (q : Pos) (c : Code) (x : Sem α) (s : Shared) (pos : Pos) (a : α) (s' : Shared) (pos' : Pos) (n : Nat) : Prop :=
  ∀ (K : α → Sem Fin) (H : Value → Sem Fin) (N : Nat) (r : Shared), topRun treeTable p w m0 ann N s' ⟨K a, c, pos', [topFrame q]⟩ = some r → topRun treeTable p w m0 ann (n + N) s ⟨x.wrap K H id id, c, pos, [topFrame q]⟩ = some r
theorem TopsTo.seg {c : Code} {x : Sem α} {s s' : Shared} {pos pos' : Pos} {f : Flow} {n : Nat} (res : α → Flow) (a : α) (hinj : ∀ b, res b = f → b = a)
    (h : segRun treeTable p w m0 ann 1 n s ⟨x.wrap (fun b => .pure (.done (res b))) deadEnd id id, c, pos, [topFrame q]⟩ = some (f, s', c, pos')) : TopsTo p w m0 ann q c x s pos a s' pos' n := by
  intro K H N r hr
  obtain ⟨b, hb, hN⟩ := seg_top (res := res) (K' := K) (H' := H) (gd := id) (lv := id) (B := [topFrame q]) rfl n s ⟨x.wrap (fun b => .pure (.done (res b))) deadEnd id id, c, pos, [topFrame q]⟩ ⟨x.wrap K H id id, c, pos, [topFrame q]⟩ f s' c pos' ⟨rfl, rfl, .inl ⟨rfl, rfl, x, rfl, rfl⟩⟩ h
  obtain rfl := hinj b hb
  exact hN N r hr
theorem TopsTo.bind {c : Code} {x : Sem α} {f : α → Sem β} {s s1 s2 : Shared} {pos pos1 pos2 : Pos} {a : α} {b : β} {n n' : Nat} (hx : TopsTo p w m0 ann q c x s pos a s1 pos1 n) (hf : TopsTo p w m0 ann q c (f a) s1 pos1 b s2 pos2 n') :
    TopsTo p w m0 ann q c (x.bind f) s pos b s2 pos2 (n + n') := by
  intro K H N r hr
  rw [wrap_bind, Nat.add_assoc]
  exact hx _ _ _ _ (hf _ _ _ _ hr)
theorem TopsTo.cast {c : Code} {x y : Sem α} {s s1 : Shared} {pos pos1 : Pos} {a : α} {n : Nat} (hx : TopsTo p w m0 ann q c x s pos a s1 pos1 n) (e : y = x) : TopsTo p w m0 ann q c y s pos a s1 pos1 n := e ▸ hx
theorem TopsTo.stmts {c : Code} {sts rest : List Stmt} {env : Env} {s s1 r : Shared} {pos pos1 : Pos} {n N : Nat} (hx : TopsTo p w m0 ann q c (execs sts env) s pos .next s1 pos1 n)
    (k : topRun treeTable p w m0 ann N s1 (restOf rest env c pos1 [topFrame q]) = some r) : topRun treeTable p w m0 ann (n + N) s (restOf (sts ++ rest) env c pos [topFrame q]) = some r := by
  unfold restOf
  rw [execs_app_wrap]
  exact hx _ _ _ _ k
end
/-- the display of a dict: its loop, its flush -/
noncomputable def flushD (run : List (Sem Value × Sem Value)) (main : Option Addr) : Sem (Option Addr) :=
  if run.isEmpty = true then pure main
  else match main with
    | none => do
      let x ← subDict run
      pure (some x)
    | some d => do
      let sub ← holding [Value.ref d] (subDict run)
      (holding [Value.ref d, Value.ref sub] (mergeMapping d (Value.ref sub) false)).onRaise fun x => do
        let _ ← holding [Value.ref d, x] (runValue (Code.builtin "proto.let_go" {}))
        pure ()
      pure (some d)
noncomputable def bodyD (x : Option (Sem Value) × Sem Value) (s : Option Addr × List (Sem Value × Sem Value)) : Sem (ForInStep (Option Addr × List (Sem Value × Sem Value))) :=
  match x with
  | (some k, v) => if ((s.2 ++ [(k, v)]).length == 17) = true then (do
      let main ← flushD (s.2 ++ [(k, v)]) s.1
      pure (ForInStep.yield (main, []))) else pure (ForInStep.yield (s.1, s.2 ++ [(k, v)]))
  | (none, _) => pure (ForInStep.yield s)
noncomputable def sk (x : Sem Value × Sem Value) : Option (Sem Value) × Sem Value := (some x.1, x.2)
noncomputable def displayD (l : List (Sem Value × Sem Value)) : Sem Value := do
  let s ← forIn (l.map sk) ((none, []) : Option Addr × List (Sem Value × Sem Value)) bodyD
  let m ← flushD s.2 s.1
  match m with
  | some d => pure (Value.ref d)
  | none => newDict
theorem forIn_sem_congr {β γ : Type} (f g : β → γ → Sem (ForInStep γ)) : ∀ (l : List β) (b : γ), (∀ x ∈ l, ∀ s, f x s = g x s) → forIn l b f = forIn l b g := by
  intro l
  induction l with
  | nil => intro b _; rfl
  | cons x l ih =>
    intro b h
    rw [List.forIn_cons, List.forIn_cons, h x (.head _)]
    refine congrArg _ (funext fun r => ?_)
    cases r with
    | done b => rfl
    | yield b => exact ih b fun y hy => h y (.tail _ hy)
theorem display_eq (l : List (Sem Value × Sem Value)) : dictDisplay (l.map sk) = displayD l := by
  unfold dictDisplay displayD
  dsimp only
  rw [forIn_sem_congr _ bodyD _ _ ?_]
  · rfl
  · intro x hx s
    obtain ⟨y, _, rfl⟩ := List.mem_map.mp hx
    rfl
theorem loop_step (main : Option Addr) (run : List (Sem Value × Sem Value)) (a : Sem Value × Sem Value) (l : List (Sem Value × Sem Value)) : forIn ((a :: l).map sk) (main, run) bodyD =
    if ((run ++ [a]).length == 17) = true then (flushD (run ++ [a]) main).bind fun m => forIn (l.map sk) (m, []) bodyD else forIn (l.map sk) (main, run ++ [a]) bodyD := by
  rw [List.map_cons, List.forIn_cons]
  show (bodyD (some a.1, a.2) (main, run)).bind _ = _
  unfold bodyD
  show (if ((run ++ [a]).length == 17) = true then _ else _ : Sem (ForInStep _)).bind _ = _
  split
  · show ((flushD (run ++ [a]) main).bind _).bind _ = _
    rw [sem_assoc]
    rfl
  · rfl
theorem loop_flush (main : Option Addr) (r : List (Sem Value × Sem Value)) : ∀ (c run : List (Sem Value × Sem Value)), run.length + c.length = 17 → c ≠ [] → forIn ((c ++ r).map sk) (main, run) bodyD = (flushD (run ++ c) main).bind fun m => forIn (r.map sk) (m, []) bodyD
  | [], _, _, h => absurd rfl h
  | [a], run, h, _ => by
    rw [List.singleton_append, loop_step, if_pos (by simpa using h)]
  | a :: b :: c, run, h, _ => by
    rw [List.cons_append, loop_step, if_neg (by simp only [List.length_append, List.length_cons, List.length_nil] at h ⊢; simp; omega), loop_flush main r (b :: c) (run ++ [a]) (by simp only [List.length_append, List.length_cons, List.length_nil] at h ⊢; omega) (by simp)]
    rw [List.append_assoc]; rfl
theorem loop_end (main : Option Addr) : ∀ (c run : List (Sem Value × Sem Value)), run.length + c.length < 17 → forIn (c.map sk) (main, run) bodyD = pure (main, run ++ c)
  | [], run, _ => by rw [List.append_nil]; rfl
  | a :: c, run, h => by
    rw [loop_step, if_neg (by simp only [List.length_append, List.length_cons, List.length_nil] at h ⊢; simp; omega), loop_end main c (run ++ [a]) (by simp only [List.length_append, List.length_cons, List.length_nil] at h ⊢; omega), List.append_assoc]; rfl
/-- a long display, flush by flush -/
noncomputable def flushes : List (List (Sem Value × Sem Value)) → Option Addr → Sem (Option Addr)
  | [], m => pure m
  | c :: cs, m => (flushD c m).bind fun m' => flushes cs m'
theorem loop_flushes (cl : List (Sem Value × Sem Value)) (hl : cl.length < 17) : ∀ (cs : List (List (Sem Value × Sem Value))) (m : Option Addr), (∀ c ∈ cs, c.length = 17) →
    (forIn ((cs.flatten ++ cl).map sk) (m, []) bodyD).bind (fun s => flushD s.2 s.1) = flushes (cs ++ [cl]) m
  | [], m, _ => by
    rw [List.flatten_nil, List.nil_append, loop_end m cl [] (by simpa using hl)]
    show flushD ([] ++ cl) m = (flushD cl m).bind fun m' => pure m'
    rw [List.nil_append, Sem.bind_eq_wrap]
    have : ∀ (x : Sem (Option Addr)), x.wrap (fun a => .pure a) .raise id id = x := fun x => by induction x <;> simp only [Sem.wrap, id, *]
    exact (this _).symm
  | c :: cs, m, h => by
    rw [List.flatten_cons, List.append_assoc, loop_flush m _ c [] (by simpa using h c (.head _)) (by intro e; have := h c (.head _); rw [e] at this; cases this), List.nil_append, sem_assoc]
    show _ = (flushD c m).bind fun m' => flushes (cs ++ [cl]) m'
    exact congrArg _ (funext fun m' => loop_flushes cl hl cs m' fun c hc => h c (.tail _ hc))
theorem displayD_eq (cl : List (Sem Value × Sem Value)) (hl : cl.length < 17) (cs : List (List (Sem Value × Sem Value))) (h : ∀ c ∈ cs, c.length = 17) :
    displayD (cs.flatten ++ cl) = (flushes (cs ++ [cl]) none).bind fun m => match m with | some d => pure (Value.ref d) | none => newDict := by
  rw [← loop_flushes cl hl cs none h, sem_assoc]
  rfl
end
section
open PySem PySem.W PyProof.Rows PySem.Calls
set_option maxRecDepth 100000
noncomputable abbrev pw : Program := PySem.Challenge.pw_qz0086_01
noncomputable def bn (f : Params → Obj) (l r : Params → BT) : Params → BT := fun P => .node (f P) (l P) (r P)
noncomputable def bl (f : Params → Obj) : Params → BT := fun P => .node (f P) .nil .nil
noncomputable def bz : Params → BT := fun _ => .nil
noncomputable def life0 : Life := {}
noncomputable def q11_0 : Params → Obj := fun P => ⟨.type "tuple", none, .seq #[] 0, #[]⟩
noncomputable def q12_0 : Params → Obj := fun P => ⟨.none, none, .fields #[], #[]⟩
noncomputable def q13_0 : Params → Obj := fun P => ⟨.type "code", none, .fields #[.str (.ofString "<module>") 182, .str (.ofString "<module>") 183, .str (.ofString "/claim/cut.py") 184, .int 1 0, .int 0 0, .int 0 0, .int 0 0, .int 0 0, .ref 11, .bool false, .int 181 0, .ref 12, .none, .none, .none, .none, .int 185 0, .int 1 0, .str (.ofString "/claim/cut.py") 186], #[]⟩
noncomputable def q14_0 : Params → Obj := fun P => ⟨.type "frame", none, .plain, #[some (.ref 13), some (.ref 3), some (.ref 3), none, some (.str (.ofString "__main__") 164), none, some (.ref 0)]⟩
noncomputable def bt0 : Params → BT := (bn boot_o_0 (bn boot_o_1 (bn boot_o_3 (bl boot_o_7) (bl q11_0)) (bn boot_o_5 (bl boot_o_9) (bl q13_0))) (bn boot_o_2 (bn boot_o_4 (bl boot_o_8) (bl q12_0)) (bn boot_o_6 (bl boot_o_10) (bl q14_0))))
noncomputable def ss0 (w : World) (os : OsState) : SharedT := ⟨bt0 w.params, 15, life0, ⟨[]⟩, boot_drawn, 187, os⟩
noncomputable def q3_1 : Params → Obj := fun P => ⟨.type "dict", none, .dict #[⟨PyData.keyHash P (.ofString "__name__"), .str (.ofString "__name__") 165, .str (.ofString "perlcore.ops") 234⟩, ⟨PyData.keyHash P (.ofString "__doc__"), .str (.ofString "__doc__") 166, .none⟩, ⟨PyData.keyHash P (.ofString "__package__"), .str (.ofString "__package__") 167, .none⟩, ⟨PyData.keyHash P (.ofString "__loader__"), .str (.ofString "__loader__") 168, .builtin "__main__.__loader__#opaque"⟩, ⟨PyData.keyHash P (.ofString "__spec__"), .str (.ofString "__spec__") 169, .none⟩, ⟨PyData.keyHash P (.ofString "__annotations__"), .str (.ofString "__annotations__") 170, .ref 6⟩, ⟨PyData.keyHash P (.ofString "__builtins__"), .str (.ofString "__builtins__") 171, .ref 4⟩, ⟨PyData.keyHash P (.ofString "__file__"), .str (.ofString "__file__") 173, .str (.ofString "/claim/cut.py") 172⟩, ⟨PyData.keyHash P (.ofString "__cached__"), .str (.ofString "__cached__") 174, .none⟩, ⟨PyData.keyHash P (.ofString "PerlError"), .str (.ofString "PerlError") 217, .ref 31⟩, ⟨PyData.keyHash P (.ofString "BadOps"), .str (.ofString "BadOps") 233, .ref 44⟩, ⟨PyData.keyHash P (.ofString "VOID"), .str (.ofString "VOID") 237, .int 0 236⟩] 12, #[]⟩
noncomputable def q12_1 : Params → Obj := fun P => ⟨.none, none, .fields #[.int 2 0, .int 0 0, .ref 20, .int 7 0, .int 0 0, .ref 40], #[]⟩
noncomputable def q16_1 : Params → Obj := fun P => ⟨.type "builtin_function_or_method", none, .fields #[.builtin "type.__prepare__", .type "type"], #[]⟩
noncomputable def q17_1 : Params → Obj := fun P => ⟨.type "dict", none, .dict #[⟨PyData.keyHash P (.ofString "__module__"), .str (.ofString "__module__") 196, .str (.ofString "perlcore.errors") 187⟩, ⟨PyData.keyHash P (.ofString "__qualname__"), .str (.ofString "__qualname__") 198, .str (.ofString "PerlError") 197⟩, ⟨PyData.keyHash P (.ofString "__firstlineno__"), .str (.ofString "__firstlineno__") 200, .int 2 199⟩, ⟨PyData.keyHash P (.ofString "__init__"), .str (.ofString "__init__") 208, .ref 28⟩, ⟨PyData.keyHash P (.ofString "__static_attributes__"), .str (.ofString "__static_attributes__") 210, .ref 29⟩] 5, #[]⟩
noncomputable def q18_1 : Params → Obj := fun P => ⟨.type "tuple", none, .seq #[] 0, #[]⟩
noncomputable def q19_1 : Params → Obj := fun P => ⟨.none, none, .fields #[.int 4 0, .int 4 0, .ref 27], #[]⟩
noncomputable def q20_1 : Params → Obj := fun P => ⟨.type "code", none, .fields #[.str (.ofString "PerlError") 191, .str (.ofString "PerlError") 192, .str (.ofString "/claim/cut.py") 193, .int 2 0, .int 0 0, .int 0 0, .int 0 0, .int 0 0, .ref 18, .bool false, .int 181 0, .ref 19, .none, .none, .none, .none, .int 194 0, .int 2 0, .str (.ofString "/claim/cut.py") 195], #[]⟩
noncomputable def q21_1 : Params → Obj := fun P => ⟨.type "frame", none, .plain, #[some (.ref 20), some (.ref 3), some (.ref 17), none, some (.str (.ofString "perlcore.errors") 187), none, some (.ref 0)]⟩
noncomputable def q23_1 : Params → Obj := fun P => ⟨.none, none, .fields #[], #[]⟩
noncomputable def q26_1 : Params → Obj := fun P => ⟨.none, none, .func ⟨(.ofString "__init__"), (.ofString "PerlError.__init__"), fdP (cst 1 0), .stmts (fdB (cst 1 0)), fdS (cst 1 0), 0, [], .none, .none, .none, .none, none, .none, .none, 0⟩, #[]⟩
noncomputable def q33_1 : Params → Obj := fun P => ⟨.type "super", none, .fields #[.ref 31, .ref 31, .ref 31], #[]⟩
noncomputable def q34_1 : Params → Obj := fun P => ⟨.type "builtin_function_or_method", none, .fields #[.builtin "object.__init_subclass__", .ref 31], #[]⟩
noncomputable def q36_1 : Params → Obj := fun P => ⟨.type "builtin_function_or_method", none, .fields #[.builtin "type.__prepare__", .type "type"], #[]⟩
noncomputable def q37_1 : Params → Obj := fun P => ⟨.type "dict", none, .dict #[⟨PyData.keyHash P (.ofString "__module__"), .str (.ofString "__module__") 225, .str (.ofString "perlcore.errors") 187⟩, ⟨PyData.keyHash P (.ofString "__qualname__"), .str (.ofString "__qualname__") 227, .str (.ofString "BadOps") 226⟩, ⟨PyData.keyHash P (.ofString "__firstlineno__"), .str (.ofString "__firstlineno__") 229, .int 7 228⟩, ⟨PyData.keyHash P (.ofString "__static_attributes__"), .str (.ofString "__static_attributes__") 230, .ref 42⟩] 4, #[]⟩
noncomputable def q38_1 : Params → Obj := fun P => ⟨.type "tuple", none, .seq #[] 0, #[]⟩
noncomputable def q39_1 : Params → Obj := fun P => ⟨.none, none, .fields #[], #[]⟩
noncomputable def q40_1 : Params → Obj := fun P => ⟨.type "code", none, .fields #[.str (.ofString "BadOps") 220, .str (.ofString "BadOps") 221, .str (.ofString "/claim/cut.py") 222, .int 7 0, .int 0 0, .int 0 0, .int 0 0, .int 0 0, .ref 38, .bool false, .int 181 0, .ref 39, .none, .none, .none, .none, .int 223 0, .int 7 0, .str (.ofString "/claim/cut.py") 224], #[]⟩
noncomputable def q41_1 : Params → Obj := fun P => ⟨.type "frame", none, .plain, #[some (.ref 40), some (.ref 3), some (.ref 37), none, some (.str (.ofString "perlcore.errors") 187), none, some (.ref 0)]⟩
noncomputable def q45_1 : Params → Obj := fun P => ⟨.type "super", none, .fields #[.ref 44, .ref 44, .ref 44], #[]⟩
noncomputable def q46_1 : Params → Obj := fun P => ⟨.type "builtin_function_or_method", none, .fields #[.builtin "object.__init_subclass__", .ref 44], #[]⟩
noncomputable def bt1 : Params → BT := (bn boot_o_0 (bn boot_o_1 (bn q3_1 (bn boot_o_7 (bn o15 (bl o31) bz) (bn q23_1 (bl q39_1) bz)) (bn q11_0 (bn q19_1 (bl o35) bz) (bn o27 (bl o43) bz))) (bn boot_o_5 (bn boot_o_9 (bn q17_1 (bl q33_1) bz) (bn o25 (bl q41_1) bz)) (bn q13_0 (bn q21_1 (bl q37_1) bz) (bn o29 (bl q45_1) bz)))) (bn o2 (bn boot_o_4 (bn boot_o_8 (bn q16_1 (bl o32) bz) (bn o24 (bl q40_1) bz)) (bn q12_1 (bn q20_1 (bl q36_1) bz) (bn o28 (bl o44) bz))) (bn boot_o_6 (bn boot_o_10 (bn q18_1 (bl q34_1) bz) (bn q26_1 (bl o42) bz)) (bn q14_0 (bn o22 (bl q38_1) bz) (bn o30 (bl q46_1) bz)))))
noncomputable def ss1 (w : World) (os : OsState) : SharedT := ⟨bt1 w.params, 47, life0, ⟨[]⟩, boot_drawn, 238, os⟩
noncomputable def q47_2 : Params → Obj := fun P => ⟨.type "dict", none, .dict #[⟨PyData.keyHash P (.ofString "const"), .str (.ofString "const") 238, .ref 48⟩, ⟨PyData.keyHash P (.ofString "empty"), .str (.ofString "empty") 243, .ref 49⟩, ⟨PyData.keyHash P (.ofString "drop"), .str (.ofString "drop") 248, .ref 50⟩, ⟨PyData.keyHash P (.ofString "dup"), .str (.ofString "dup") 253, .ref 51⟩, ⟨PyData.keyHash P (.ofString "swap"), .str (.ofString "swap") 258, .ref 52⟩, ⟨PyData.keyHash P (.ofString "wrap"), .str (.ofString "wrap") 263, .ref 53⟩, ⟨PyData.keyHash P (.ofString "append"), .str (.ofString "append") 268, .ref 54⟩, ⟨PyData.keyHash P (.ofString "copy"), .str (.ofString "copy") 273, .ref 55⟩, ⟨PyData.keyHash P (.ofString "count"), .str (.ofString "count") 278, .ref 56⟩, ⟨PyData.keyHash P (.ofString "final"), .str (.ofString "final") 283, .ref 57⟩, ⟨PyData.keyHash P (.ofString "keep"), .str (.ofString "keep") 288, .ref 58⟩, ⟨PyData.keyHash P (.ofString "refcode"), .str (.ofString "refcode") 293, .ref 59⟩, ⟨PyData.keyHash P (.ofString "codetold"), .str (.ofString "codetold") 298, .ref 60⟩, ⟨PyData.keyHash P (.ofString "refuse"), .str (.ofString "refuse") 303, .ref 61⟩, ⟨PyData.keyHash P (.ofString "pad"), .str (.ofString "pad") 308, .ref 62⟩, ⟨PyData.keyHash P (.ofString "my"), .str (.ofString "my") 313, .ref 63⟩, ⟨PyData.keyHash P (.ofString "glob"), .str (.ofString "glob") 318, .ref 64⟩] 17, #[]⟩
noncomputable def q51_2 : Params → Obj := fun P => ⟨.type "tuple", none, .seq #[.int 1 254, .int 2 255, .str (.ofString "") 256] 0, #[]⟩
noncomputable def q52_2 : Params → Obj := fun P => ⟨.type "tuple", none, .seq #[.int 2 259, .int 2 260, .str (.ofString "") 261] 0, #[]⟩
noncomputable def q53_2 : Params → Obj := fun P => ⟨.type "tuple", none, .seq #[.int 1 264, .int 1 265, .str (.ofString "") 266] 0, #[]⟩
noncomputable def q55_2 : Params → Obj := fun P => ⟨.type "tuple", none, .seq #[.int 1 274, .int 1 275, .str (.ofString "") 276] 0, #[]⟩
noncomputable def q56_2 : Params → Obj := fun P => ⟨.type "tuple", none, .seq #[.int 1 279, .int 1 280, .str (.ofString "") 281] 0, #[]⟩
noncomputable def q57_2 : Params → Obj := fun P => ⟨.type "tuple", none, .seq #[.int 1 284, .int 1 285, .str (.ofString "") 286] 0, #[]⟩
noncomputable def q58_2 : Params → Obj := fun P => ⟨.type "tuple", none, .seq #[.int 1 289, .int 1 290, .str (.ofString "") 291] 0, #[]⟩
noncomputable def q59_2 : Params → Obj := fun P => ⟨.type "tuple", none, .seq #[.int 1 294, .int 1 295, .str (.ofString "") 296] 0, #[]⟩
noncomputable def q60_2 : Params → Obj := fun P => ⟨.type "tuple", none, .seq #[.int 1 299, .int 1 300, .str (.ofString "") 301] 0, #[]⟩
noncomputable def q61_2 : Params → Obj := fun P => ⟨.type "tuple", none, .seq #[.int 0 304, .int 1 305, .str (.ofString "-") 306] 0, #[]⟩
noncomputable def q64_2 : Params → Obj := fun P => ⟨.type "tuple", none, .seq #[.int 0 319, .int 1 320, .str (.ofString "--") 321] 0, #[]⟩
noncomputable def bt2 : Params → BT := (bn boot_o_0 (bn boot_o_1 (bn q3_1 (bn boot_o_7 (bn o15 (bn o31 (bl o63) bz) (bl q47_2)) (bn q23_1 (bl q39_1) (bl q55_2))) (bn q11_0 (bn q19_1 (bl o35) (bl q51_2)) (bn o27 (bl o43) (bl q59_2)))) (bn boot_o_5 (bn boot_o_9 (bn q17_1 (bl q33_1) (bl o49)) (bn o25 (bl q41_1) (bl q57_2))) (bn q13_0 (bn q21_1 (bl q37_1) (bl q53_2)) (bn o29 (bl q45_1) (bl q61_2))))) (bn o2 (bn boot_o_4 (bn boot_o_8 (bn q16_1 (bn o32 (bl q64_2) bz) (bl o48)) (bn o24 (bl q40_1) (bl q56_2))) (bn q12_1 (bn q20_1 (bl q36_1) (bl q52_2)) (bn o28 (bl o44) (bl q60_2)))) (bn boot_o_6 (bn boot_o_10 (bn q18_1 (bl q34_1) (bl o50)) (bn q26_1 (bl o42) (bl q58_2))) (bn q14_0 (bn o22 (bl q38_1) (bl o54)) (bn o30 (bl q46_1) (bl o62))))))
noncomputable def ss2 (w : World) (os : OsState) : SharedT := ⟨bt2 w.params, 65, life0, ⟨[]⟩, boot_drawn, 323, os⟩
noncomputable def q47_3 : Params → Obj := fun P => ⟨.type "dict", none, .dict #[⟨PyData.keyHash P (.ofString "const"), .str (.ofString "const") 238, .ref 48⟩, ⟨PyData.keyHash P (.ofString "empty"), .str (.ofString "empty") 243, .ref 49⟩, ⟨PyData.keyHash P (.ofString "drop"), .str (.ofString "drop") 248, .ref 50⟩, ⟨PyData.keyHash P (.ofString "dup"), .str (.ofString "dup") 253, .ref 51⟩, ⟨PyData.keyHash P (.ofString "swap"), .str (.ofString "swap") 258, .ref 52⟩, ⟨PyData.keyHash P (.ofString "wrap"), .str (.ofString "wrap") 263, .ref 53⟩, ⟨PyData.keyHash P (.ofString "append"), .str (.ofString "append") 268, .ref 54⟩, ⟨PyData.keyHash P (.ofString "copy"), .str (.ofString "copy") 273, .ref 55⟩, ⟨PyData.keyHash P (.ofString "count"), .str (.ofString "count") 278, .ref 56⟩, ⟨PyData.keyHash P (.ofString "final"), .str (.ofString "final") 283, .ref 57⟩, ⟨PyData.keyHash P (.ofString "keep"), .str (.ofString "keep") 288, .ref 58⟩, ⟨PyData.keyHash P (.ofString "refcode"), .str (.ofString "refcode") 293, .ref 59⟩, ⟨PyData.keyHash P (.ofString "codetold"), .str (.ofString "codetold") 298, .ref 60⟩, ⟨PyData.keyHash P (.ofString "refuse"), .str (.ofString "refuse") 303, .ref 61⟩, ⟨PyData.keyHash P (.ofString "pad"), .str (.ofString "pad") 308, .ref 62⟩, ⟨PyData.keyHash P (.ofString "my"), .str (.ofString "my") 313, .ref 63⟩, ⟨PyData.keyHash P (.ofString "glob"), .str (.ofString "glob") 318, .ref 64⟩, ⟨PyData.keyHash P (.ofString "matchvar"), .str (.ofString "matchvar") 323, .ref 66⟩, ⟨PyData.keyHash P (.ofString "fetch"), .str (.ofString "fetch") 328, .ref 67⟩, ⟨PyData.keyHash P (.ofString "ascalar"), .str (.ofString "ascalar") 333, .ref 68⟩, ⟨PyData.keyHash P (.ofString "newscalar"), .str (.ofString "newscalar") 338, .ref 69⟩, ⟨PyData.keyHash P (.ofString "vivify"), .str (.ofString "vivify") 343, .ref 70⟩, ⟨PyData.keyHash P (.ofString "deref"), .str (.ofString "deref") 348, .ref 71⟩, ⟨PyData.keyHash P (.ofString "items"), .str (.ofString "items") 353, .ref 72⟩, ⟨PyData.keyHash P (.ofString "size"), .str (.ofString "size") 358, .ref 73⟩, ⟨PyData.keyHash P (.ofString "pairs"), .str (.ofString "pairs") 363, .ref 74⟩, ⟨PyData.keyHash P (.ofString "keycount"), .str (.ofString "keycount") 368, .ref 75⟩, ⟨PyData.keyHash P (.ofString "lastidx"), .str (.ofString "lastidx") 373, .ref 76⟩, ⟨PyData.keyHash P (.ofString "elem"), .str (.ofString "elem") 378, .ref 77⟩, ⟨PyData.keyHash P (.ofString "helem"), .str (.ofString "helem") 383, .ref 78⟩, ⟨PyData.keyHash P (.ofString "elemat"), .str (.ofString "elemat") 388, .ref 79⟩, ⟨PyData.keyHash P (.ofString "helemat"), .str (.ofString "helemat") 393, .ref 80⟩, ⟨PyData.keyHash P (.ofString "elemlv"), .str (.ofString "elemlv") 398, .ref 81⟩, ⟨PyData.keyHash P (.ofString "helemlv"), .str (.ofString "helemlv") 403, .ref 82⟩] 34, #[]⟩
noncomputable def q65_3 : Params → Obj := fun P => ⟨.type "dict", none, .dict #[⟨PyData.keyHash P (.ofString "matchvar"), .str (.ofString "matchvar") 323, .ref 66⟩, ⟨PyData.keyHash P (.ofString "fetch"), .str (.ofString "fetch") 328, .ref 67⟩, ⟨PyData.keyHash P (.ofString "ascalar"), .str (.ofString "ascalar") 333, .ref 68⟩, ⟨PyData.keyHash P (.ofString "newscalar"), .str (.ofString "newscalar") 338, .ref 69⟩, ⟨PyData.keyHash P (.ofString "vivify"), .str (.ofString "vivify") 343, .ref 70⟩, ⟨PyData.keyHash P (.ofString "deref"), .str (.ofString "deref") 348, .ref 71⟩, ⟨PyData.keyHash P (.ofString "items"), .str (.ofString "items") 353, .ref 72⟩, ⟨PyData.keyHash P (.ofString "size"), .str (.ofString "size") 358, .ref 73⟩, ⟨PyData.keyHash P (.ofString "pairs"), .str (.ofString "pairs") 363, .ref 74⟩, ⟨PyData.keyHash P (.ofString "keycount"), .str (.ofString "keycount") 368, .ref 75⟩, ⟨PyData.keyHash P (.ofString "lastidx"), .str (.ofString "lastidx") 373, .ref 76⟩, ⟨PyData.keyHash P (.ofString "elem"), .str (.ofString "elem") 378, .ref 77⟩, ⟨PyData.keyHash P (.ofString "helem"), .str (.ofString "helem") 383, .ref 78⟩, ⟨PyData.keyHash P (.ofString "elemat"), .str (.ofString "elemat") 388, .ref 79⟩, ⟨PyData.keyHash P (.ofString "helemat"), .str (.ofString "helemat") 393, .ref 80⟩, ⟨PyData.keyHash P (.ofString "elemlv"), .str (.ofString "elemlv") 398, .ref 81⟩, ⟨PyData.keyHash P (.ofString "helemlv"), .str (.ofString "helemlv") 403, .ref 82⟩] 17, #[]⟩
noncomputable def q66_3 : Params → Obj := fun P => ⟨.type "tuple", none, .seq #[.int 0 324, .int 1 325, .str (.ofString "-") 326] 0, #[]⟩
noncomputable def q67_3 : Params → Obj := fun P => ⟨.type "tuple", none, .seq #[.int 1 329, .int 1 330, .str (.ofString "") 331] 0, #[]⟩
noncomputable def q68_3 : Params → Obj := fun P => ⟨.type "tuple", none, .seq #[.int 1 334, .int 1 335, .str (.ofString "") 336] 0, #[]⟩
noncomputable def q69_3 : Params → Obj := fun P => ⟨.type "tuple", none, .seq #[.int 1 339, .int 1 340, .str (.ofString "") 341] 0, #[]⟩
noncomputable def q70_3 : Params → Obj := fun P => ⟨.type "tuple", none, .seq #[.int 1 344, .int 1 345, .str (.ofString "-") 346] 0, #[]⟩
noncomputable def q71_3 : Params → Obj := fun P => ⟨.type "tuple", none, .seq #[.int 1 349, .int 1 350, .str (.ofString "-") 351] 0, #[]⟩
noncomputable def q72_3 : Params → Obj := fun P => ⟨.type "tuple", none, .seq #[.int 1 354, .int 1 355, .str (.ofString "") 356] 0, #[]⟩
noncomputable def q73_3 : Params → Obj := fun P => ⟨.type "tuple", none, .seq #[.int 1 359, .int 1 360, .str (.ofString "") 361] 0, #[]⟩
noncomputable def q74_3 : Params → Obj := fun P => ⟨.type "tuple", none, .seq #[.int 1 364, .int 1 365, .str (.ofString "") 366] 0, #[]⟩
noncomputable def q75_3 : Params → Obj := fun P => ⟨.type "tuple", none, .seq #[.int 1 369, .int 1 370, .str (.ofString "") 371] 0, #[]⟩
noncomputable def q76_3 : Params → Obj := fun P => ⟨.type "tuple", none, .seq #[.int 1 374, .int 1 375, .str (.ofString "") 376] 0, #[]⟩
noncomputable def q77_3 : Params → Obj := fun P => ⟨.type "tuple", none, .seq #[.int 2 379, .int 1 380, .str (.ofString "") 381] 0, #[]⟩
noncomputable def q78_3 : Params → Obj := fun P => ⟨.type "tuple", none, .seq #[.int 2 384, .int 1 385, .str (.ofString "") 386] 0, #[]⟩
noncomputable def q79_3 : Params → Obj := fun P => ⟨.type "tuple", none, .seq #[.int 2 389, .int 1 390, .str (.ofString "") 391] 0, #[]⟩
noncomputable def q80_3 : Params → Obj := fun P => ⟨.type "tuple", none, .seq #[.int 2 394, .int 1 395, .str (.ofString "") 396] 0, #[]⟩
noncomputable def q81_3 : Params → Obj := fun P => ⟨.type "tuple", none, .seq #[.int 2 399, .int 1 400, .str (.ofString "") 401] 0, #[]⟩
noncomputable def q82_3 : Params → Obj := fun P => ⟨.type "tuple", none, .seq #[.int 2 404, .int 1 405, .str (.ofString "") 406] 0, #[]⟩
noncomputable def bt3 : Params → BT := (bn boot_o_0 (bn boot_o_1 (bn q3_1 (bn boot_o_7 (bn o15 (bn o31 (bl o63) bz) (bn q47_3 (bl q79_3) bz)) (bn q23_1 (bn q39_1 (bl q71_3) bz) (bl q55_2))) (bn q11_0 (bn q19_1 (bn o35 (bl q67_3) bz) (bl q51_2)) (bn o27 (bn o43 (bl q75_3) bz) (bl q59_2)))) (bn boot_o_5 (bn boot_o_9 (bn q17_1 (bn q33_1 (bl q65_3) bz) (bn o49 (bl q81_3) bz)) (bn o25 (bn q41_1 (bl q73_3) bz) (bl q57_2))) (bn q13_0 (bn q21_1 (bn q37_1 (bl q69_3) bz) (bl q53_2)) (bn o29 (bn q45_1 (bl q77_3) bz) (bl q61_2))))) (bn o2 (bn boot_o_4 (bn boot_o_8 (bn q16_1 (bn o32 (bl q64_2) bz) (bn o48 (bl q80_3) bz)) (bn o24 (bn q40_1 (bl q72_3) bz) (bl q56_2))) (bn q12_1 (bn q20_1 (bn q36_1 (bl q68_3) bz) (bl q52_2)) (bn o28 (bn o44 (bl q76_3) bz) (bl q60_2)))) (bn boot_o_6 (bn boot_o_10 (bn q18_1 (bn q34_1 (bl q66_3) bz) (bn o50 (bl q82_3) bz)) (bn q26_1 (bn o42 (bl q74_3) bz) (bl q58_2))) (bn q14_0 (bn o22 (bn q38_1 (bl q70_3) bz) (bl o54)) (bn o30 (bn q46_1 (bl q78_3) bz) (bl o62))))))
noncomputable def ss3 (w : World) (os : OsState) : SharedT := ⟨bt3 w.params, 83, life0, ⟨[]⟩, boot_drawn, 408, os⟩
noncomputable def q47_4 : Params → Obj := fun P => ⟨.type "dict", none, .dict ((⟨PyData.keyHash P (.ofString "const"), .str (.ofString "const") 238, .ref 48⟩ :: ⟨PyData.keyHash P (.ofString "empty"), .str (.ofString "empty") 243, .ref 49⟩ :: ⟨PyData.keyHash P (.ofString "drop"), .str (.ofString "drop") 248, .ref 50⟩ :: ⟨PyData.keyHash P (.ofString "dup"), .str (.ofString "dup") 253, .ref 51⟩ :: ⟨PyData.keyHash P (.ofString "swap"), .str (.ofString "swap") 258, .ref 52⟩ :: ⟨PyData.keyHash P (.ofString "wrap"), .str (.ofString "wrap") 263, .ref 53⟩ :: ⟨PyData.keyHash P (.ofString "append"), .str (.ofString "append") 268, .ref 54⟩ :: ⟨PyData.keyHash P (.ofString "copy"), .str (.ofString "copy") 273, .ref 55⟩ :: ⟨PyData.keyHash P (.ofString "count"), .str (.ofString "count") 278, .ref 56⟩ :: ⟨PyData.keyHash P (.ofString "final"), .str (.ofString "final") 283, .ref 57⟩ :: ⟨PyData.keyHash P (.ofString "keep"), .str (.ofString "keep") 288, .ref 58⟩ :: ⟨PyData.keyHash P (.ofString "refcode"), .str (.ofString "refcode") 293, .ref 59⟩ :: ⟨PyData.keyHash P (.ofString "codetold"), .str (.ofString "codetold") 298, .ref 60⟩ :: ⟨PyData.keyHash P (.ofString "refuse"), .str (.ofString "refuse") 303, .ref 61⟩ :: ⟨PyData.keyHash P (.ofString "pad"), .str (.ofString "pad") 308, .ref 62⟩ :: ⟨PyData.keyHash P (.ofString "my"), .str (.ofString "my") 313, .ref 63⟩ :: ⟨PyData.keyHash P (.ofString "glob"), .str (.ofString "glob") 318, .ref 64⟩ :: ⟨PyData.keyHash P (.ofString "matchvar"), .str (.ofString "matchvar") 323, .ref 66⟩ :: ⟨PyData.keyHash P (.ofString "fetch"), .str (.ofString "fetch") 328, .ref 67⟩ :: ⟨PyData.keyHash P (.ofString "ascalar"), .str (.ofString "ascalar") 333, .ref 68⟩ :: ⟨PyData.keyHash P (.ofString "newscalar"), .str (.ofString "newscalar") 338, .ref 69⟩ :: ⟨PyData.keyHash P (.ofString "vivify"), .str (.ofString "vivify") 343, .ref 70⟩ :: ⟨PyData.keyHash P (.ofString "deref"), .str (.ofString "deref") 348, .ref 71⟩ :: ⟨PyData.keyHash P (.ofString "items"), .str (.ofString "items") 353, .ref 72⟩ :: ⟨PyData.keyHash P (.ofString "size"), .str (.ofString "size") 358, .ref 73⟩ :: ⟨PyData.keyHash P (.ofString "pairs"), .str (.ofString "pairs") 363, .ref 74⟩ :: ⟨PyData.keyHash P (.ofString "keycount"), .str (.ofString "keycount") 368, .ref 75⟩ :: ⟨PyData.keyHash P (.ofString "lastidx"), .str (.ofString "lastidx") 373, .ref 76⟩ :: ⟨PyData.keyHash P (.ofString "elem"), .str (.ofString "elem") 378, .ref 77⟩ :: ⟨PyData.keyHash P (.ofString "helem"), .str (.ofString "helem") 383, .ref 78⟩ :: ⟨PyData.keyHash P (.ofString "elemat"), .str (.ofString "elemat") 388, .ref 79⟩ :: ⟨PyData.keyHash P (.ofString "helemat"), .str (.ofString "helemat") 393, .ref 80⟩ :: ⟨PyData.keyHash P (.ofString "elemlv"), .str (.ofString "elemlv") 398, .ref 81⟩ :: ⟨PyData.keyHash P (.ofString "helemlv"), .str (.ofString "helemlv") 403, .ref 82⟩ :: ⟨PyData.keyHash P (.ofString "aslice"), .str (.ofString "aslice") 408, .ref 84⟩ :: ⟨PyData.keyHash P (.ofString "hslice"), .str (.ofString "hslice") 413, .ref 85⟩ :: ⟨PyData.keyHash P (.ofString "aslicelv"), .str (.ofString "aslicelv") 418, .ref 86⟩ :: ⟨PyData.keyHash P (.ofString "hslicelv"), .str (.ofString "hslicelv") 423, .ref 87⟩ :: ⟨PyData.keyHash P (.ofString "lslice"), .str (.ofString "lslice") 428, .ref 88⟩ :: ⟨PyData.keyHash P (.ofString "substrlv"), .str (.ofString "substrlv") 433, .ref 89⟩ :: ⟨PyData.keyHash P (.ofString "veclv"), .str (.ofString "veclv") 438, .ref 90⟩ :: ⟨PyData.keyHash P (.ofString "poslv"), .str (.ofString "poslv") 443, .ref 91⟩ :: ⟨PyData.keyHash P (.ofString "lastlv"), .str (.ofString "lastlv") 448, .ref 92⟩ :: ⟨PyData.keyHash P (.ofString "ref"), .str (.ofString "ref") 453, .ref 93⟩ :: ⟨PyData.keyHash P (.ofString "refvalue"), .str (.ofString "refvalue") 458, .ref 94⟩ :: ⟨PyData.keyHash P (.ofString "elemrefs"), .str (.ofString "elemrefs") 463, .ref 95⟩ :: ⟨PyData.keyHash P (.ofString "refeach"), .str (.ofString "refeach") 468, .ref 96⟩ :: ⟨PyData.keyHash P (.ofString "anona"), .str (.ofString "anona") 473, .ref 97⟩ :: ⟨PyData.keyHash P (.ofString "anonh"), .str (.ofString "anonh") 478, .ref 98⟩ :: ⟨PyData.keyHash P (.ofString "closure"), .str (.ofString "closure") 483, .ref 99⟩ :: ⟨PyData.keyHash P (.ofString "definesub"), .str (.ofString "definesub") 488, .ref 100⟩ :: []) : List DictEntry).toArray 51, #[]⟩
noncomputable def q83_4 : Params → Obj := fun P => ⟨.type "dict", none, .dict #[⟨PyData.keyHash P (.ofString "aslice"), .str (.ofString "aslice") 408, .ref 84⟩, ⟨PyData.keyHash P (.ofString "hslice"), .str (.ofString "hslice") 413, .ref 85⟩, ⟨PyData.keyHash P (.ofString "aslicelv"), .str (.ofString "aslicelv") 418, .ref 86⟩, ⟨PyData.keyHash P (.ofString "hslicelv"), .str (.ofString "hslicelv") 423, .ref 87⟩, ⟨PyData.keyHash P (.ofString "lslice"), .str (.ofString "lslice") 428, .ref 88⟩, ⟨PyData.keyHash P (.ofString "substrlv"), .str (.ofString "substrlv") 433, .ref 89⟩, ⟨PyData.keyHash P (.ofString "veclv"), .str (.ofString "veclv") 438, .ref 90⟩, ⟨PyData.keyHash P (.ofString "poslv"), .str (.ofString "poslv") 443, .ref 91⟩, ⟨PyData.keyHash P (.ofString "lastlv"), .str (.ofString "lastlv") 448, .ref 92⟩, ⟨PyData.keyHash P (.ofString "ref"), .str (.ofString "ref") 453, .ref 93⟩, ⟨PyData.keyHash P (.ofString "refvalue"), .str (.ofString "refvalue") 458, .ref 94⟩, ⟨PyData.keyHash P (.ofString "elemrefs"), .str (.ofString "elemrefs") 463, .ref 95⟩, ⟨PyData.keyHash P (.ofString "refeach"), .str (.ofString "refeach") 468, .ref 96⟩, ⟨PyData.keyHash P (.ofString "anona"), .str (.ofString "anona") 473, .ref 97⟩, ⟨PyData.keyHash P (.ofString "anonh"), .str (.ofString "anonh") 478, .ref 98⟩, ⟨PyData.keyHash P (.ofString "closure"), .str (.ofString "closure") 483, .ref 99⟩, ⟨PyData.keyHash P (.ofString "definesub"), .str (.ofString "definesub") 488, .ref 100⟩] 17, #[]⟩
noncomputable def q84_4 : Params → Obj := fun P => ⟨.type "tuple", none, .seq #[.int 2 409, .int 1 410, .str (.ofString "") 411] 0, #[]⟩
noncomputable def q85_4 : Params → Obj := fun P => ⟨.type "tuple", none, .seq #[.int 2 414, .int 1 415, .str (.ofString "") 416] 0, #[]⟩
noncomputable def q86_4 : Params → Obj := fun P => ⟨.type "tuple", none, .seq #[.int 2 419, .int 1 420, .str (.ofString "") 421] 0, #[]⟩
noncomputable def q87_4 : Params → Obj := fun P => ⟨.type "tuple", none, .seq #[.int 2 424, .int 1 425, .str (.ofString "") 426] 0, #[]⟩
noncomputable def q88_4 : Params → Obj := fun P => ⟨.type "tuple", none, .seq #[.int 2 429, .int 1 430, .str (.ofString "") 431] 0, #[]⟩
noncomputable def q89_4 : Params → Obj := fun P => ⟨.type "tuple", none, .seq #[.int 0 434, .int 1 435, .str (.ofString "n") 436] 0, #[]⟩
noncomputable def q90_4 : Params → Obj := fun P => ⟨.type "tuple", none, .seq #[.int 3 439, .int 1 440, .str (.ofString "") 441] 0, #[]⟩
noncomputable def q91_4 : Params → Obj := fun P => ⟨.type "tuple", none, .seq #[.int 1 444, .int 1 445, .str (.ofString "") 446] 0, #[]⟩
noncomputable def q92_4 : Params → Obj := fun P => ⟨.type "tuple", none, .seq #[.int 1 449, .int 1 450, .str (.ofString "") 451] 0, #[]⟩
noncomputable def q93_4 : Params → Obj := fun P => ⟨.type "tuple", none, .seq #[.int 1 454, .int 1 455, .str (.ofString "") 456] 0, #[]⟩
noncomputable def q94_4 : Params → Obj := fun P => ⟨.type "tuple", none, .seq #[.int 1 459, .int 1 460, .str (.ofString "") 461] 0, #[]⟩
noncomputable def q95_4 : Params → Obj := fun P => ⟨.type "tuple", none, .seq #[.int 1 464, .int 1 465, .str (.ofString "") 466] 0, #[]⟩
noncomputable def q96_4 : Params → Obj := fun P => ⟨.type "tuple", none, .seq #[.int 1 469, .int 1 470, .str (.ofString "") 471] 0, #[]⟩
noncomputable def q97_4 : Params → Obj := fun P => ⟨.type "tuple", none, .seq #[.int 1 474, .int 1 475, .str (.ofString "") 476] 0, #[]⟩
noncomputable def q98_4 : Params → Obj := fun P => ⟨.type "tuple", none, .seq #[.int 1 479, .int 1 480, .str (.ofString "") 481] 0, #[]⟩
noncomputable def q100_4 : Params → Obj := fun P => ⟨.type "tuple", none, .seq #[.int 0 489, .int 0 490, .str (.ofString "-") 491] 0, #[]⟩
noncomputable def bt4 : Params → BT := (bn boot_o_0 (bn boot_o_1 (bn q3_1 (bn boot_o_7 (bn o15 (bn o31 (bl o63) (bl q95_4)) (bn q47_4 (bl q79_3) bz)) (bn q23_1 (bn q39_1 (bl q71_3) bz) (bn q55_2 (bl q87_4) bz))) (bn q11_0 (bn q19_1 (bn o35 (bl q67_3) (bl o99)) (bn q51_2 (bl q83_4) bz)) (bn o27 (bn o43 (bl q75_3) bz) (bn q59_2 (bl q91_4) bz)))) (bn boot_o_5 (bn boot_o_9 (bn q17_1 (bn q33_1 (bl q65_3) (bl q97_4)) (bn o49 (bl q81_3) bz)) (bn o25 (bn q41_1 (bl q73_3) bz) (bn q57_2 (bl q89_4) bz))) (bn q13_0 (bn q21_1 (bn q37_1 (bl q69_3) bz) (bn q53_2 (bl q85_4) bz)) (bn o29 (bn q45_1 (bl q77_3) bz) (bn q61_2 (bl q93_4) bz))))) (bn o2 (bn boot_o_4 (bn boot_o_8 (bn q16_1 (bn o32 (bl q64_2) (bl q96_4)) (bn o48 (bl q80_3) bz)) (bn o24 (bn q40_1 (bl q72_3) bz) (bn q56_2 (bl q88_4) bz))) (bn q12_1 (bn q20_1 (bn q36_1 (bl q68_3) (bl q100_4)) (bn q52_2 (bl q84_4) bz)) (bn o28 (bn o44 (bl q76_3) bz) (bn q60_2 (bl q92_4) bz)))) (bn boot_o_6 (bn boot_o_10 (bn q18_1 (bn q34_1 (bl q66_3) (bl q98_4)) (bn o50 (bl q82_3) bz)) (bn q26_1 (bn o42 (bl q74_3) bz) (bn q58_2 (bl q90_4) bz))) (bn q14_0 (bn o22 (bn q38_1 (bl q70_3) bz) (bn o54 (bl q86_4) bz)) (bn o30 (bn q46_1 (bl q78_3) bz) (bn o62 (bl q94_4) bz))))))
noncomputable def ss4 (w : World) (os : OsState) : SharedT := ⟨bt4 w.params, 101, life0, ⟨[]⟩, boot_drawn, 493, os⟩
noncomputable def q47_5 : Params → Obj := fun P => ⟨.type "dict", none, .dict ((⟨PyData.keyHash P (.ofString "const"), .str (.ofString "const") 238, .ref 48⟩ :: ⟨PyData.keyHash P (.ofString "empty"), .str (.ofString "empty") 243, .ref 49⟩ :: ⟨PyData.keyHash P (.ofString "drop"), .str (.ofString "drop") 248, .ref 50⟩ :: ⟨PyData.keyHash P (.ofString "dup"), .str (.ofString "dup") 253, .ref 51⟩ :: ⟨PyData.keyHash P (.ofString "swap"), .str (.ofString "swap") 258, .ref 52⟩ :: ⟨PyData.keyHash P (.ofString "wrap"), .str (.ofString "wrap") 263, .ref 53⟩ :: ⟨PyData.keyHash P (.ofString "append"), .str (.ofString "append") 268, .ref 54⟩ :: ⟨PyData.keyHash P (.ofString "copy"), .str (.ofString "copy") 273, .ref 55⟩ :: ⟨PyData.keyHash P (.ofString "count"), .str (.ofString "count") 278, .ref 56⟩ :: ⟨PyData.keyHash P (.ofString "final"), .str (.ofString "final") 283, .ref 57⟩ :: ⟨PyData.keyHash P (.ofString "keep"), .str (.ofString "keep") 288, .ref 58⟩ :: ⟨PyData.keyHash P (.ofString "refcode"), .str (.ofString "refcode") 293, .ref 59⟩ :: ⟨PyData.keyHash P (.ofString "codetold"), .str (.ofString "codetold") 298, .ref 60⟩ :: ⟨PyData.keyHash P (.ofString "refuse"), .str (.ofString "refuse") 303, .ref 61⟩ :: ⟨PyData.keyHash P (.ofString "pad"), .str (.ofString "pad") 308, .ref 62⟩ :: ⟨PyData.keyHash P (.ofString "my"), .str (.ofString "my") 313, .ref 63⟩ :: ⟨PyData.keyHash P (.ofString "glob"), .str (.ofString "glob") 318, .ref 64⟩ :: ⟨PyData.keyHash P (.ofString "matchvar"), .str (.ofString "matchvar") 323, .ref 66⟩ :: ⟨PyData.keyHash P (.ofString "fetch"), .str (.ofString "fetch") 328, .ref 67⟩ :: ⟨PyData.keyHash P (.ofString "ascalar"), .str (.ofString "ascalar") 333, .ref 68⟩ :: ⟨PyData.keyHash P (.ofString "newscalar"), .str (.ofString "newscalar") 338, .ref 69⟩ :: ⟨PyData.keyHash P (.ofString "vivify"), .str (.ofString "vivify") 343, .ref 70⟩ :: ⟨PyData.keyHash P (.ofString "deref"), .str (.ofString "deref") 348, .ref 71⟩ :: ⟨PyData.keyHash P (.ofString "items"), .str (.ofString "items") 353, .ref 72⟩ :: ⟨PyData.keyHash P (.ofString "size"), .str (.ofString "size") 358, .ref 73⟩ :: ⟨PyData.keyHash P (.ofString "pairs"), .str (.ofString "pairs") 363, .ref 74⟩ :: ⟨PyData.keyHash P (.ofString "keycount"), .str (.ofString "keycount") 368, .ref 75⟩ :: ⟨PyData.keyHash P (.ofString "lastidx"), .str (.ofString "lastidx") 373, .ref 76⟩ :: ⟨PyData.keyHash P (.ofString "elem"), .str (.ofString "elem") 378, .ref 77⟩ :: ⟨PyData.keyHash P (.ofString "helem"), .str (.ofString "helem") 383, .ref 78⟩ :: ⟨PyData.keyHash P (.ofString "elemat"), .str (.ofString "elemat") 388, .ref 79⟩ :: ⟨PyData.keyHash P (.ofString "helemat"), .str (.ofString "helemat") 393, .ref 80⟩ :: ⟨PyData.keyHash P (.ofString "elemlv"), .str (.ofString "elemlv") 398, .ref 81⟩ :: ⟨PyData.keyHash P (.ofString "helemlv"), .str (.ofString "helemlv") 403, .ref 82⟩ :: ⟨PyData.keyHash P (.ofString "aslice"), .str (.ofString "aslice") 408, .ref 84⟩ :: ⟨PyData.keyHash P (.ofString "hslice"), .str (.ofString "hslice") 413, .ref 85⟩ :: ⟨PyData.keyHash P (.ofString "aslicelv"), .str (.ofString "aslicelv") 418, .ref 86⟩ :: ⟨PyData.keyHash P (.ofString "hslicelv"), .str (.ofString "hslicelv") 423, .ref 87⟩ :: ⟨PyData.keyHash P (.ofString "lslice"), .str (.ofString "lslice") 428, .ref 88⟩ :: ⟨PyData.keyHash P (.ofString "substrlv"), .str (.ofString "substrlv") 433, .ref 89⟩ :: ⟨PyData.keyHash P (.ofString "veclv"), .str (.ofString "veclv") 438, .ref 90⟩ :: ⟨PyData.keyHash P (.ofString "poslv"), .str (.ofString "poslv") 443, .ref 91⟩ :: ⟨PyData.keyHash P (.ofString "lastlv"), .str (.ofString "lastlv") 448, .ref 92⟩ :: ⟨PyData.keyHash P (.ofString "ref"), .str (.ofString "ref") 453, .ref 93⟩ :: ⟨PyData.keyHash P (.ofString "refvalue"), .str (.ofString "refvalue") 458, .ref 94⟩ :: ⟨PyData.keyHash P (.ofString "elemrefs"), .str (.ofString "elemrefs") 463, .ref 95⟩ :: ⟨PyData.keyHash P (.ofString "refeach"), .str (.ofString "refeach") 468, .ref 96⟩ :: ⟨PyData.keyHash P (.ofString "anona"), .str (.ofString "anona") 473, .ref 97⟩ :: ⟨PyData.keyHash P (.ofString "anonh"), .str (.ofString "anonh") 478, .ref 98⟩ :: ⟨PyData.keyHash P (.ofString "closure"), .str (.ofString "closure") 483, .ref 99⟩ :: ⟨PyData.keyHash P (.ofString "definesub"), .str (.ofString "definesub") 488, .ref 100⟩ :: ⟨PyData.keyHash P (.ofString "code"), .str (.ofString "code") 493, .ref 102⟩ :: ⟨PyData.keyHash P (.ofString "codefor"), .str (.ofString "codefor") 498, .ref 103⟩ :: ⟨PyData.keyHash P (.ofString "assign"), .str (.ofString "assign") 503, .ref 104⟩ :: ⟨PyData.keyHash P (.ofString "opassign"), .str (.ofString "opassign") 508, .ref 105⟩ :: ⟨PyData.keyHash P (.ofString "aassign"), .str (.ofString "aassign") 513, .ref 106⟩ :: ⟨PyData.keyHash P (.ofString "members"), .str (.ofString "members") 518, .ref 107⟩ :: ⟨PyData.keyHash P (.ofString "lasttarget"), .str (.ofString "lasttarget") 523, .ref 108⟩ :: ⟨PyData.keyHash P (.ofString "preinc"), .str (.ofString "preinc") 528, .ref 109⟩ :: ⟨PyData.keyHash P (.ofString "predec"), .str (.ofString "predec") 533, .ref 110⟩ :: ⟨PyData.keyHash P (.ofString "postinc"), .str (.ofString "postinc") 538, .ref 111⟩ :: ⟨PyData.keyHash P (.ofString "postdec"), .str (.ofString "postdec") 543, .ref 112⟩ :: ⟨PyData.keyHash P (.ofString "localglob"), .str (.ofString "localglob") 548, .ref 113⟩ :: ⟨PyData.keyHash P (.ofString "localelem"), .str (.ofString "localelem") 553, .ref 114⟩ :: ⟨PyData.keyHash P (.ofString "localhelem"), .str (.ofString "localhelem") 558, .ref 115⟩ :: ⟨PyData.keyHash P (.ofString "localaslice"), .str (.ofString "localaslice") 563, .ref 116⟩ :: ⟨PyData.keyHash P (.ofString "localhslice"), .str (.ofString "localhslice") 568, .ref 117⟩ :: ⟨PyData.keyHash P (.ofString "bin"), .str (.ofString "bin") 573, .ref 118⟩ :: []) : List DictEntry).toArray 68, #[]⟩
noncomputable def q101_5 : Params → Obj := fun P => ⟨.type "dict", none, .dict #[⟨PyData.keyHash P (.ofString "code"), .str (.ofString "code") 493, .ref 102⟩, ⟨PyData.keyHash P (.ofString "codefor"), .str (.ofString "codefor") 498, .ref 103⟩, ⟨PyData.keyHash P (.ofString "assign"), .str (.ofString "assign") 503, .ref 104⟩, ⟨PyData.keyHash P (.ofString "opassign"), .str (.ofString "opassign") 508, .ref 105⟩, ⟨PyData.keyHash P (.ofString "aassign"), .str (.ofString "aassign") 513, .ref 106⟩, ⟨PyData.keyHash P (.ofString "members"), .str (.ofString "members") 518, .ref 107⟩, ⟨PyData.keyHash P (.ofString "lasttarget"), .str (.ofString "lasttarget") 523, .ref 108⟩, ⟨PyData.keyHash P (.ofString "preinc"), .str (.ofString "preinc") 528, .ref 109⟩, ⟨PyData.keyHash P (.ofString "predec"), .str (.ofString "predec") 533, .ref 110⟩, ⟨PyData.keyHash P (.ofString "postinc"), .str (.ofString "postinc") 538, .ref 111⟩, ⟨PyData.keyHash P (.ofString "postdec"), .str (.ofString "postdec") 543, .ref 112⟩, ⟨PyData.keyHash P (.ofString "localglob"), .str (.ofString "localglob") 548, .ref 113⟩, ⟨PyData.keyHash P (.ofString "localelem"), .str (.ofString "localelem") 553, .ref 114⟩, ⟨PyData.keyHash P (.ofString "localhelem"), .str (.ofString "localhelem") 558, .ref 115⟩, ⟨PyData.keyHash P (.ofString "localaslice"), .str (.ofString "localaslice") 563, .ref 116⟩, ⟨PyData.keyHash P (.ofString "localhslice"), .str (.ofString "localhslice") 568, .ref 117⟩, ⟨PyData.keyHash P (.ofString "bin"), .str (.ofString "bin") 573, .ref 118⟩] 17, #[]⟩
noncomputable def q102_5 : Params → Obj := fun P => ⟨.type "tuple", none, .seq #[.int 0 494, .int 1 495, .str (.ofString "-") 496] 0, #[]⟩
noncomputable def q103_5 : Params → Obj := fun P => ⟨.type "tuple", none, .seq #[.int 0 499, .int 1 500, .str (.ofString "-") 501] 0, #[]⟩
noncomputable def q104_5 : Params → Obj := fun P => ⟨.type "tuple", none, .seq #[.int 2 504, .int 1 505, .str (.ofString "") 506] 0, #[]⟩
noncomputable def q105_5 : Params → Obj := fun P => ⟨.type "tuple", none, .seq #[.int 2 509, .int 1 510, .str (.ofString "-") 511] 0, #[]⟩
noncomputable def q106_5 : Params → Obj := fun P => ⟨.type "tuple", none, .seq #[.int 2 514, .int 1 515, .str (.ofString "w") 516] 0, #[]⟩
noncomputable def q107_5 : Params → Obj := fun P => ⟨.type "tuple", none, .seq #[.int 1 519, .int 1 520, .str (.ofString "") 521] 0, #[]⟩
noncomputable def q108_5 : Params → Obj := fun P => ⟨.type "tuple", none, .seq #[.int 1 524, .int 1 525, .str (.ofString "") 526] 0, #[]⟩
noncomputable def q109_5 : Params → Obj := fun P => ⟨.type "tuple", none, .seq #[.int 1 529, .int 1 530, .str (.ofString "") 531] 0, #[]⟩
noncomputable def q110_5 : Params → Obj := fun P => ⟨.type "tuple", none, .seq #[.int 1 534, .int 1 535, .str (.ofString "") 536] 0, #[]⟩
noncomputable def q111_5 : Params → Obj := fun P => ⟨.type "tuple", none, .seq #[.int 1 539, .int 1 540, .str (.ofString "") 541] 0, #[]⟩
noncomputable def q112_5 : Params → Obj := fun P => ⟨.type "tuple", none, .seq #[.int 1 544, .int 1 545, .str (.ofString "") 546] 0, #[]⟩
noncomputable def q113_5 : Params → Obj := fun P => ⟨.type "tuple", none, .seq #[.int 0 549, .int 1 550, .str (.ofString "--") 551] 0, #[]⟩
noncomputable def q114_5 : Params → Obj := fun P => ⟨.type "tuple", none, .seq #[.int 2 554, .int 1 555, .str (.ofString "") 556] 0, #[]⟩
noncomputable def q115_5 : Params → Obj := fun P => ⟨.type "tuple", none, .seq #[.int 2 559, .int 1 560, .str (.ofString "") 561] 0, #[]⟩
noncomputable def q116_5 : Params → Obj := fun P => ⟨.type "tuple", none, .seq #[.int 2 564, .int 1 565, .str (.ofString "") 566] 0, #[]⟩
noncomputable def q117_5 : Params → Obj := fun P => ⟨.type "tuple", none, .seq #[.int 2 569, .int 1 570, .str (.ofString "") 571] 0, #[]⟩
noncomputable def q118_5 : Params → Obj := fun P => ⟨.type "tuple", none, .seq #[.int 2 574, .int 1 575, .str (.ofString "-") 576] 0, #[]⟩
noncomputable def bt5 : Params → BT := (bn boot_o_0 (bn boot_o_1 (bn q3_1 (bn boot_o_7 (bn o15 (bn o31 (bl o63) (bl q95_4)) (bn q47_5 (bl q79_3) (bl q111_5))) (bn q23_1 (bn q39_1 (bl q71_3) (bl q103_5)) (bn q55_2 (bl q87_4) bz))) (bn q11_0 (bn q19_1 (bn o35 (bl q67_3) (bl o99)) (bn q51_2 (bl q83_4) (bl q115_5))) (bn o27 (bn o43 (bl q75_3) (bl q107_5)) (bn q59_2 (bl q91_4) bz)))) (bn boot_o_5 (bn boot_o_9 (bn q17_1 (bn q33_1 (bl q65_3) (bl q97_4)) (bn o49 (bl q81_3) (bl q113_5))) (bn o25 (bn q41_1 (bl q73_3) (bl q105_5)) (bn q57_2 (bl q89_4) bz))) (bn q13_0 (bn q21_1 (bn q37_1 (bl q69_3) (bl q101_5)) (bn q53_2 (bl q85_4) (bl q117_5))) (bn o29 (bn q45_1 (bl q77_3) (bl q109_5)) (bn q61_2 (bl q93_4) bz))))) (bn o2 (bn boot_o_4 (bn boot_o_8 (bn q16_1 (bn o32 (bl q64_2) (bl q96_4)) (bn o48 (bl q80_3) (bl q112_5))) (bn o24 (bn q40_1 (bl q72_3) (bl q104_5)) (bn q56_2 (bl q88_4) bz))) (bn q12_1 (bn q20_1 (bn q36_1 (bl q68_3) (bl q100_4)) (bn q52_2 (bl q84_4) (bl q116_5))) (bn o28 (bn o44 (bl q76_3) (bl q108_5)) (bn q60_2 (bl q92_4) bz)))) (bn boot_o_6 (bn boot_o_10 (bn q18_1 (bn q34_1 (bl q66_3) (bl q98_4)) (bn o50 (bl q82_3) (bl q114_5))) (bn q26_1 (bn o42 (bl q74_3) (bl q106_5)) (bn q58_2 (bl q90_4) bz))) (bn q14_0 (bn o22 (bn q38_1 (bl q70_3) (bl q102_5)) (bn o54 (bl q86_4) (bl q118_5))) (bn o30 (bn q46_1 (bl q78_3) (bl q110_5)) (bn o62 (bl q94_4) bz))))))
noncomputable def ss5 (w : World) (os : OsState) : SharedT := ⟨bt5 w.params, 119, life0, ⟨[]⟩, boot_drawn, 578, os⟩
noncomputable def q47_6 : Params → Obj := fun P => ⟨.type "dict", none, .dict ((⟨PyData.keyHash P (.ofString "const"), .str (.ofString "const") 238, .ref 48⟩ :: ⟨PyData.keyHash P (.ofString "empty"), .str (.ofString "empty") 243, .ref 49⟩ :: ⟨PyData.keyHash P (.ofString "drop"), .str (.ofString "drop") 248, .ref 50⟩ :: ⟨PyData.keyHash P (.ofString "dup"), .str (.ofString "dup") 253, .ref 51⟩ :: ⟨PyData.keyHash P (.ofString "swap"), .str (.ofString "swap") 258, .ref 52⟩ :: ⟨PyData.keyHash P (.ofString "wrap"), .str (.ofString "wrap") 263, .ref 53⟩ :: ⟨PyData.keyHash P (.ofString "append"), .str (.ofString "append") 268, .ref 54⟩ :: ⟨PyData.keyHash P (.ofString "copy"), .str (.ofString "copy") 273, .ref 55⟩ :: ⟨PyData.keyHash P (.ofString "count"), .str (.ofString "count") 278, .ref 56⟩ :: ⟨PyData.keyHash P (.ofString "final"), .str (.ofString "final") 283, .ref 57⟩ :: ⟨PyData.keyHash P (.ofString "keep"), .str (.ofString "keep") 288, .ref 58⟩ :: ⟨PyData.keyHash P (.ofString "refcode"), .str (.ofString "refcode") 293, .ref 59⟩ :: ⟨PyData.keyHash P (.ofString "codetold"), .str (.ofString "codetold") 298, .ref 60⟩ :: ⟨PyData.keyHash P (.ofString "refuse"), .str (.ofString "refuse") 303, .ref 61⟩ :: ⟨PyData.keyHash P (.ofString "pad"), .str (.ofString "pad") 308, .ref 62⟩ :: ⟨PyData.keyHash P (.ofString "my"), .str (.ofString "my") 313, .ref 63⟩ :: ⟨PyData.keyHash P (.ofString "glob"), .str (.ofString "glob") 318, .ref 64⟩ :: ⟨PyData.keyHash P (.ofString "matchvar"), .str (.ofString "matchvar") 323, .ref 66⟩ :: ⟨PyData.keyHash P (.ofString "fetch"), .str (.ofString "fetch") 328, .ref 67⟩ :: ⟨PyData.keyHash P (.ofString "ascalar"), .str (.ofString "ascalar") 333, .ref 68⟩ :: ⟨PyData.keyHash P (.ofString "newscalar"), .str (.ofString "newscalar") 338, .ref 69⟩ :: ⟨PyData.keyHash P (.ofString "vivify"), .str (.ofString "vivify") 343, .ref 70⟩ :: ⟨PyData.keyHash P (.ofString "deref"), .str (.ofString "deref") 348, .ref 71⟩ :: ⟨PyData.keyHash P (.ofString "items"), .str (.ofString "items") 353, .ref 72⟩ :: ⟨PyData.keyHash P (.ofString "size"), .str (.ofString "size") 358, .ref 73⟩ :: ⟨PyData.keyHash P (.ofString "pairs"), .str (.ofString "pairs") 363, .ref 74⟩ :: ⟨PyData.keyHash P (.ofString "keycount"), .str (.ofString "keycount") 368, .ref 75⟩ :: ⟨PyData.keyHash P (.ofString "lastidx"), .str (.ofString "lastidx") 373, .ref 76⟩ :: ⟨PyData.keyHash P (.ofString "elem"), .str (.ofString "elem") 378, .ref 77⟩ :: ⟨PyData.keyHash P (.ofString "helem"), .str (.ofString "helem") 383, .ref 78⟩ :: ⟨PyData.keyHash P (.ofString "elemat"), .str (.ofString "elemat") 388, .ref 79⟩ :: ⟨PyData.keyHash P (.ofString "helemat"), .str (.ofString "helemat") 393, .ref 80⟩ :: ⟨PyData.keyHash P (.ofString "elemlv"), .str (.ofString "elemlv") 398, .ref 81⟩ :: ⟨PyData.keyHash P (.ofString "helemlv"), .str (.ofString "helemlv") 403, .ref 82⟩ :: ⟨PyData.keyHash P (.ofString "aslice"), .str (.ofString "aslice") 408, .ref 84⟩ :: ⟨PyData.keyHash P (.ofString "hslice"), .str (.ofString "hslice") 413, .ref 85⟩ :: ⟨PyData.keyHash P (.ofString "aslicelv"), .str (.ofString "aslicelv") 418, .ref 86⟩ :: ⟨PyData.keyHash P (.ofString "hslicelv"), .str (.ofString "hslicelv") 423, .ref 87⟩ :: ⟨PyData.keyHash P (.ofString "lslice"), .str (.ofString "lslice") 428, .ref 88⟩ :: ⟨PyData.keyHash P (.ofString "substrlv"), .str (.ofString "substrlv") 433, .ref 89⟩ :: ⟨PyData.keyHash P (.ofString "veclv"), .str (.ofString "veclv") 438, .ref 90⟩ :: ⟨PyData.keyHash P (.ofString "poslv"), .str (.ofString "poslv") 443, .ref 91⟩ :: ⟨PyData.keyHash P (.ofString "lastlv"), .str (.ofString "lastlv") 448, .ref 92⟩ :: ⟨PyData.keyHash P (.ofString "ref"), .str (.ofString "ref") 453, .ref 93⟩ :: ⟨PyData.keyHash P (.ofString "refvalue"), .str (.ofString "refvalue") 458, .ref 94⟩ :: ⟨PyData.keyHash P (.ofString "elemrefs"), .str (.ofString "elemrefs") 463, .ref 95⟩ :: ⟨PyData.keyHash P (.ofString "refeach"), .str (.ofString "refeach") 468, .ref 96⟩ :: ⟨PyData.keyHash P (.ofString "anona"), .str (.ofString "anona") 473, .ref 97⟩ :: ⟨PyData.keyHash P (.ofString "anonh"), .str (.ofString "anonh") 478, .ref 98⟩ :: ⟨PyData.keyHash P (.ofString "closure"), .str (.ofString "closure") 483, .ref 99⟩ :: ⟨PyData.keyHash P (.ofString "definesub"), .str (.ofString "definesub") 488, .ref 100⟩ :: ⟨PyData.keyHash P (.ofString "code"), .str (.ofString "code") 493, .ref 102⟩ :: ⟨PyData.keyHash P (.ofString "codefor"), .str (.ofString "codefor") 498, .ref 103⟩ :: ⟨PyData.keyHash P (.ofString "assign"), .str (.ofString "assign") 503, .ref 104⟩ :: ⟨PyData.keyHash P (.ofString "opassign"), .str (.ofString "opassign") 508, .ref 105⟩ :: ⟨PyData.keyHash P (.ofString "aassign"), .str (.ofString "aassign") 513, .ref 106⟩ :: ⟨PyData.keyHash P (.ofString "members"), .str (.ofString "members") 518, .ref 107⟩ :: ⟨PyData.keyHash P (.ofString "lasttarget"), .str (.ofString "lasttarget") 523, .ref 108⟩ :: ⟨PyData.keyHash P (.ofString "preinc"), .str (.ofString "preinc") 528, .ref 109⟩ :: ⟨PyData.keyHash P (.ofString "predec"), .str (.ofString "predec") 533, .ref 110⟩ :: ⟨PyData.keyHash P (.ofString "postinc"), .str (.ofString "postinc") 538, .ref 111⟩ :: ⟨PyData.keyHash P (.ofString "postdec"), .str (.ofString "postdec") 543, .ref 112⟩ :: ⟨PyData.keyHash P (.ofString "localglob"), .str (.ofString "localglob") 548, .ref 113⟩ :: ⟨PyData.keyHash P (.ofString "localelem"), .str (.ofString "localelem") 553, .ref 114⟩ :: ⟨PyData.keyHash P (.ofString "localhelem"), .str (.ofString "localhelem") 558, .ref 115⟩ :: ⟨PyData.keyHash P (.ofString "localaslice"), .str (.ofString "localaslice") 563, .ref 116⟩ :: ⟨PyData.keyHash P (.ofString "localhslice"), .str (.ofString "localhslice") 568, .ref 117⟩ :: ⟨PyData.keyHash P (.ofString "bin"), .str (.ofString "bin") 573, .ref 118⟩ :: ⟨PyData.keyHash P (.ofString "xor"), .str (.ofString "xor") 578, .ref 120⟩ :: ⟨PyData.keyHash P (.ofString "un"), .str (.ofString "un") 583, .ref 121⟩ :: ⟨PyData.keyHash P (.ofString "joinlist"), .str (.ofString "joinlist") 588, .ref 122⟩ :: ⟨PyData.keyHash P (.ofString "text"), .str (.ofString "text") 593, .ref 123⟩ :: ⟨PyData.keyHash P (.ofString "wanted"), .str (.ofString "wanted") 598, .ref 124⟩ :: ⟨PyData.keyHash P (.ofString "repeat"), .str (.ofString "repeat") 603, .ref 125⟩ :: ⟨PyData.keyHash P (.ofString "range"), .str (.ofString "range") 608, .ref 126⟩ :: ⟨PyData.keyHash P (.ofString "jump"), .str (.ofString "jump") 613, .ref 127⟩ :: ⟨PyData.keyHash P (.ofString "iffalse"), .str (.ofString "iffalse") 618, .ref 128⟩ :: ⟨PyData.keyHash P (.ofString "iftrue"), .str (.ofString "iftrue") 623, .ref 129⟩ :: ⟨PyData.keyHash P (.ofString "ifdef"), .str (.ofString "ifdef") 628, .ref 130⟩ :: ⟨PyData.keyHash P (.ofString "orjump"), .str (.ofString "orjump") 633, .ref 131⟩ :: ⟨PyData.keyHash P (.ofString "andjump"), .str (.ofString "andjump") 638, .ref 132⟩ :: ⟨PyData.keyHash P (.ofString "dorjump"), .str (.ofString "dorjump") 643, .ref 133⟩ :: ⟨PyData.keyHash P (.ofString "bywant"), .str (.ofString "bywant") 648, .ref 134⟩ :: ⟨PyData.keyHash P (.ofString "iter"), .str (.ofString "iter") 653, .ref 135⟩ :: ⟨PyData.keyHash P (.ofString "next"), .str (.ofString "next") 658, .ref 136⟩ :: []) : List DictEntry).toArray 85, #[]⟩
noncomputable def q119_6 : Params → Obj := fun P => ⟨.type "dict", none, .dict #[⟨PyData.keyHash P (.ofString "xor"), .str (.ofString "xor") 578, .ref 120⟩, ⟨PyData.keyHash P (.ofString "un"), .str (.ofString "un") 583, .ref 121⟩, ⟨PyData.keyHash P (.ofString "joinlist"), .str (.ofString "joinlist") 588, .ref 122⟩, ⟨PyData.keyHash P (.ofString "text"), .str (.ofString "text") 593, .ref 123⟩, ⟨PyData.keyHash P (.ofString "wanted"), .str (.ofString "wanted") 598, .ref 124⟩, ⟨PyData.keyHash P (.ofString "repeat"), .str (.ofString "repeat") 603, .ref 125⟩, ⟨PyData.keyHash P (.ofString "range"), .str (.ofString "range") 608, .ref 126⟩, ⟨PyData.keyHash P (.ofString "jump"), .str (.ofString "jump") 613, .ref 127⟩, ⟨PyData.keyHash P (.ofString "iffalse"), .str (.ofString "iffalse") 618, .ref 128⟩, ⟨PyData.keyHash P (.ofString "iftrue"), .str (.ofString "iftrue") 623, .ref 129⟩, ⟨PyData.keyHash P (.ofString "ifdef"), .str (.ofString "ifdef") 628, .ref 130⟩, ⟨PyData.keyHash P (.ofString "orjump"), .str (.ofString "orjump") 633, .ref 131⟩, ⟨PyData.keyHash P (.ofString "andjump"), .str (.ofString "andjump") 638, .ref 132⟩, ⟨PyData.keyHash P (.ofString "dorjump"), .str (.ofString "dorjump") 643, .ref 133⟩, ⟨PyData.keyHash P (.ofString "bywant"), .str (.ofString "bywant") 648, .ref 134⟩, ⟨PyData.keyHash P (.ofString "iter"), .str (.ofString "iter") 653, .ref 135⟩, ⟨PyData.keyHash P (.ofString "next"), .str (.ofString "next") 658, .ref 136⟩] 17, #[]⟩
noncomputable def q120_6 : Params → Obj := fun P => ⟨.type "tuple", none, .seq #[.int 2 579, .int 1 580, .str (.ofString "") 581] 0, #[]⟩
noncomputable def q121_6 : Params → Obj := fun P => ⟨.type "tuple", none, .seq #[.int 1 584, .int 1 585, .str (.ofString "-") 586] 0, #[]⟩
noncomputable def q122_6 : Params → Obj := fun P => ⟨.type "tuple", none, .seq #[.int 1 589, .int 1 590, .str (.ofString "") 591] 0, #[]⟩
noncomputable def q123_6 : Params → Obj := fun P => ⟨.type "tuple", none, .seq #[.int 1 594, .int 1 595, .str (.ofString "") 596] 0, #[]⟩
noncomputable def q124_6 : Params → Obj := fun P => ⟨.type "tuple", none, .seq #[.int 0 599, .int 1 600, .str (.ofString "") 601] 0, #[]⟩
noncomputable def q125_6 : Params → Obj := fun P => ⟨.type "tuple", none, .seq #[.int 2 604, .int 1 605, .str (.ofString "") 606] 0, #[]⟩
noncomputable def q126_6 : Params → Obj := fun P => ⟨.type "tuple", none, .seq #[.int 2 609, .int 1 610, .str (.ofString "") 611] 0, #[]⟩
noncomputable def q129_6 : Params → Obj := fun P => ⟨.type "tuple", none, .seq #[.int 1 624, .int 0 625, .str (.ofString "j") 626] 0, #[]⟩
noncomputable def q130_6 : Params → Obj := fun P => ⟨.type "tuple", none, .seq #[.int 1 629, .int 0 630, .str (.ofString "j") 631] 0, #[]⟩
noncomputable def q131_6 : Params → Obj := fun P => ⟨.type "tuple", none, .seq #[.int 1 634, .int 0 635, .str (.ofString "j") 636] 0, #[]⟩
noncomputable def q132_6 : Params → Obj := fun P => ⟨.type "tuple", none, .seq #[.int 1 639, .int 0 640, .str (.ofString "j") 641] 0, #[]⟩
noncomputable def q133_6 : Params → Obj := fun P => ⟨.type "tuple", none, .seq #[.int 1 644, .int 0 645, .str (.ofString "j") 646] 0, #[]⟩
noncomputable def q135_6 : Params → Obj := fun P => ⟨.type "tuple", none, .seq #[.int 1 654, .int 1 655, .str (.ofString "") 656] 0, #[]⟩
noncomputable def q136_6 : Params → Obj := fun P => ⟨.type "tuple", none, .seq #[.int 1 659, .int 2 660, .str (.ofString "j") 661] 0, #[]⟩
noncomputable def bt6 : Params → BT := (bn boot_o_0 (bn boot_o_1 (bn q3_1 (bn boot_o_7 (bn o15 (bn o31 (bn o63 (bl o127) bz) (bl q95_4)) (bn q47_6 (bl q79_3) (bl q111_5))) (bn q23_1 (bn q39_1 (bn q71_3 (bl q135_6) bz) (bl q103_5)) (bn q55_2 (bl q87_4) (bl q119_6)))) (bn q11_0 (bn q19_1 (bn o35 (bn q67_3 (bl q131_6) bz) (bl o99)) (bn q51_2 (bl q83_4) (bl q115_5))) (bn o27 (bn o43 (bl q75_3) (bl q107_5)) (bn q59_2 (bl q91_4) (bl q123_6))))) (bn boot_o_5 (bn boot_o_9 (bn q17_1 (bn q33_1 (bn q65_3 (bl q129_6) bz) (bl q97_4)) (bn o49 (bl q81_3) (bl q113_5))) (bn o25 (bn q41_1 (bl q73_3) (bl q105_5)) (bn q57_2 (bl q89_4) (bl q121_6)))) (bn q13_0 (bn q21_1 (bn q37_1 (bn q69_3 (bl q133_6) bz) (bl q101_5)) (bn q53_2 (bl q85_4) (bl q117_5))) (bn o29 (bn q45_1 (bl q77_3) (bl q109_5)) (bn q61_2 (bl q93_4) (bl q125_6)))))) (bn o2 (bn boot_o_4 (bn boot_o_8 (bn q16_1 (bn o32 (bn q64_2 (bl o128) bz) (bl q96_4)) (bn o48 (bl q80_3) (bl q112_5))) (bn o24 (bn q40_1 (bn q72_3 (bl q136_6) bz) (bl q104_5)) (bn q56_2 (bl q88_4) (bl q120_6)))) (bn q12_1 (bn q20_1 (bn q36_1 (bn q68_3 (bl q132_6) bz) (bl q100_4)) (bn q52_2 (bl q84_4) (bl q116_5))) (bn o28 (bn o44 (bl q76_3) (bl q108_5)) (bn q60_2 (bl q92_4) (bl q124_6))))) (bn boot_o_6 (bn boot_o_10 (bn q18_1 (bn q34_1 (bn q66_3 (bl q130_6) bz) (bl q98_4)) (bn o50 (bl q82_3) (bl q114_5))) (bn q26_1 (bn o42 (bl q74_3) (bl q106_5)) (bn q58_2 (bl q90_4) (bl q122_6)))) (bn q14_0 (bn o22 (bn q38_1 (bn q70_3 (bl o134) bz) (bl q102_5)) (bn o54 (bl q86_4) (bl q118_5))) (bn o30 (bn q46_1 (bl q78_3) (bl q110_5)) (bn o62 (bl q94_4) (bl q126_6)))))))
noncomputable def ss6 (w : World) (os : OsState) : SharedT := ⟨bt6 w.params, 137, life0, ⟨[]⟩, boot_drawn, 663, os⟩
noncomputable def q47_7 : Params → Obj := fun P => ⟨.type "dict", none, .dict ((⟨PyData.keyHash P (.ofString "const"), .str (.ofString "const") 238, .ref 48⟩ :: ⟨PyData.keyHash P (.ofString "empty"), .str (.ofString "empty") 243, .ref 49⟩ :: ⟨PyData.keyHash P (.ofString "drop"), .str (.ofString "drop") 248, .ref 50⟩ :: ⟨PyData.keyHash P (.ofString "dup"), .str (.ofString "dup") 253, .ref 51⟩ :: ⟨PyData.keyHash P (.ofString "swap"), .str (.ofString "swap") 258, .ref 52⟩ :: ⟨PyData.keyHash P (.ofString "wrap"), .str (.ofString "wrap") 263, .ref 53⟩ :: ⟨PyData.keyHash P (.ofString "append"), .str (.ofString "append") 268, .ref 54⟩ :: ⟨PyData.keyHash P (.ofString "copy"), .str (.ofString "copy") 273, .ref 55⟩ :: ⟨PyData.keyHash P (.ofString "count"), .str (.ofString "count") 278, .ref 56⟩ :: ⟨PyData.keyHash P (.ofString "final"), .str (.ofString "final") 283, .ref 57⟩ :: ⟨PyData.keyHash P (.ofString "keep"), .str (.ofString "keep") 288, .ref 58⟩ :: ⟨PyData.keyHash P (.ofString "refcode"), .str (.ofString "refcode") 293, .ref 59⟩ :: ⟨PyData.keyHash P (.ofString "codetold"), .str (.ofString "codetold") 298, .ref 60⟩ :: ⟨PyData.keyHash P (.ofString "refuse"), .str (.ofString "refuse") 303, .ref 61⟩ :: ⟨PyData.keyHash P (.ofString "pad"), .str (.ofString "pad") 308, .ref 62⟩ :: ⟨PyData.keyHash P (.ofString "my"), .str (.ofString "my") 313, .ref 63⟩ :: ⟨PyData.keyHash P (.ofString "glob"), .str (.ofString "glob") 318, .ref 64⟩ :: ⟨PyData.keyHash P (.ofString "matchvar"), .str (.ofString "matchvar") 323, .ref 66⟩ :: ⟨PyData.keyHash P (.ofString "fetch"), .str (.ofString "fetch") 328, .ref 67⟩ :: ⟨PyData.keyHash P (.ofString "ascalar"), .str (.ofString "ascalar") 333, .ref 68⟩ :: ⟨PyData.keyHash P (.ofString "newscalar"), .str (.ofString "newscalar") 338, .ref 69⟩ :: ⟨PyData.keyHash P (.ofString "vivify"), .str (.ofString "vivify") 343, .ref 70⟩ :: ⟨PyData.keyHash P (.ofString "deref"), .str (.ofString "deref") 348, .ref 71⟩ :: ⟨PyData.keyHash P (.ofString "items"), .str (.ofString "items") 353, .ref 72⟩ :: ⟨PyData.keyHash P (.ofString "size"), .str (.ofString "size") 358, .ref 73⟩ :: ⟨PyData.keyHash P (.ofString "pairs"), .str (.ofString "pairs") 363, .ref 74⟩ :: ⟨PyData.keyHash P (.ofString "keycount"), .str (.ofString "keycount") 368, .ref 75⟩ :: ⟨PyData.keyHash P (.ofString "lastidx"), .str (.ofString "lastidx") 373, .ref 76⟩ :: ⟨PyData.keyHash P (.ofString "elem"), .str (.ofString "elem") 378, .ref 77⟩ :: ⟨PyData.keyHash P (.ofString "helem"), .str (.ofString "helem") 383, .ref 78⟩ :: ⟨PyData.keyHash P (.ofString "elemat"), .str (.ofString "elemat") 388, .ref 79⟩ :: ⟨PyData.keyHash P (.ofString "helemat"), .str (.ofString "helemat") 393, .ref 80⟩ :: ⟨PyData.keyHash P (.ofString "elemlv"), .str (.ofString "elemlv") 398, .ref 81⟩ :: ⟨PyData.keyHash P (.ofString "helemlv"), .str (.ofString "helemlv") 403, .ref 82⟩ :: ⟨PyData.keyHash P (.ofString "aslice"), .str (.ofString "aslice") 408, .ref 84⟩ :: ⟨PyData.keyHash P (.ofString "hslice"), .str (.ofString "hslice") 413, .ref 85⟩ :: ⟨PyData.keyHash P (.ofString "aslicelv"), .str (.ofString "aslicelv") 418, .ref 86⟩ :: ⟨PyData.keyHash P (.ofString "hslicelv"), .str (.ofString "hslicelv") 423, .ref 87⟩ :: ⟨PyData.keyHash P (.ofString "lslice"), .str (.ofString "lslice") 428, .ref 88⟩ :: ⟨PyData.keyHash P (.ofString "substrlv"), .str (.ofString "substrlv") 433, .ref 89⟩ :: ⟨PyData.keyHash P (.ofString "veclv"), .str (.ofString "veclv") 438, .ref 90⟩ :: ⟨PyData.keyHash P (.ofString "poslv"), .str (.ofString "poslv") 443, .ref 91⟩ :: ⟨PyData.keyHash P (.ofString "lastlv"), .str (.ofString "lastlv") 448, .ref 92⟩ :: ⟨PyData.keyHash P (.ofString "ref"), .str (.ofString "ref") 453, .ref 93⟩ :: ⟨PyData.keyHash P (.ofString "refvalue"), .str (.ofString "refvalue") 458, .ref 94⟩ :: ⟨PyData.keyHash P (.ofString "elemrefs"), .str (.ofString "elemrefs") 463, .ref 95⟩ :: ⟨PyData.keyHash P (.ofString "refeach"), .str (.ofString "refeach") 468, .ref 96⟩ :: ⟨PyData.keyHash P (.ofString "anona"), .str (.ofString "anona") 473, .ref 97⟩ :: ⟨PyData.keyHash P (.ofString "anonh"), .str (.ofString "anonh") 478, .ref 98⟩ :: ⟨PyData.keyHash P (.ofString "closure"), .str (.ofString "closure") 483, .ref 99⟩ :: ⟨PyData.keyHash P (.ofString "definesub"), .str (.ofString "definesub") 488, .ref 100⟩ :: ⟨PyData.keyHash P (.ofString "code"), .str (.ofString "code") 493, .ref 102⟩ :: ⟨PyData.keyHash P (.ofString "codefor"), .str (.ofString "codefor") 498, .ref 103⟩ :: ⟨PyData.keyHash P (.ofString "assign"), .str (.ofString "assign") 503, .ref 104⟩ :: ⟨PyData.keyHash P (.ofString "opassign"), .str (.ofString "opassign") 508, .ref 105⟩ :: ⟨PyData.keyHash P (.ofString "aassign"), .str (.ofString "aassign") 513, .ref 106⟩ :: ⟨PyData.keyHash P (.ofString "members"), .str (.ofString "members") 518, .ref 107⟩ :: ⟨PyData.keyHash P (.ofString "lasttarget"), .str (.ofString "lasttarget") 523, .ref 108⟩ :: ⟨PyData.keyHash P (.ofString "preinc"), .str (.ofString "preinc") 528, .ref 109⟩ :: ⟨PyData.keyHash P (.ofString "predec"), .str (.ofString "predec") 533, .ref 110⟩ :: ⟨PyData.keyHash P (.ofString "postinc"), .str (.ofString "postinc") 538, .ref 111⟩ :: ⟨PyData.keyHash P (.ofString "postdec"), .str (.ofString "postdec") 543, .ref 112⟩ :: ⟨PyData.keyHash P (.ofString "localglob"), .str (.ofString "localglob") 548, .ref 113⟩ :: ⟨PyData.keyHash P (.ofString "localelem"), .str (.ofString "localelem") 553, .ref 114⟩ :: ⟨PyData.keyHash P (.ofString "localhelem"), .str (.ofString "localhelem") 558, .ref 115⟩ :: ⟨PyData.keyHash P (.ofString "localaslice"), .str (.ofString "localaslice") 563, .ref 116⟩ :: ⟨PyData.keyHash P (.ofString "localhslice"), .str (.ofString "localhslice") 568, .ref 117⟩ :: ⟨PyData.keyHash P (.ofString "bin"), .str (.ofString "bin") 573, .ref 118⟩ :: ⟨PyData.keyHash P (.ofString "xor"), .str (.ofString "xor") 578, .ref 120⟩ :: ⟨PyData.keyHash P (.ofString "un"), .str (.ofString "un") 583, .ref 121⟩ :: ⟨PyData.keyHash P (.ofString "joinlist"), .str (.ofString "joinlist") 588, .ref 122⟩ :: ⟨PyData.keyHash P (.ofString "text"), .str (.ofString "text") 593, .ref 123⟩ :: ⟨PyData.keyHash P (.ofString "wanted"), .str (.ofString "wanted") 598, .ref 124⟩ :: ⟨PyData.keyHash P (.ofString "repeat"), .str (.ofString "repeat") 603, .ref 125⟩ :: ⟨PyData.keyHash P (.ofString "range"), .str (.ofString "range") 608, .ref 126⟩ :: ⟨PyData.keyHash P (.ofString "jump"), .str (.ofString "jump") 613, .ref 127⟩ :: ⟨PyData.keyHash P (.ofString "iffalse"), .str (.ofString "iffalse") 618, .ref 128⟩ :: ⟨PyData.keyHash P (.ofString "iftrue"), .str (.ofString "iftrue") 623, .ref 129⟩ :: ⟨PyData.keyHash P (.ofString "ifdef"), .str (.ofString "ifdef") 628, .ref 130⟩ :: ⟨PyData.keyHash P (.ofString "orjump"), .str (.ofString "orjump") 633, .ref 131⟩ :: ⟨PyData.keyHash P (.ofString "andjump"), .str (.ofString "andjump") 638, .ref 132⟩ :: ⟨PyData.keyHash P (.ofString "dorjump"), .str (.ofString "dorjump") 643, .ref 133⟩ :: ⟨PyData.keyHash P (.ofString "bywant"), .str (.ofString "bywant") 648, .ref 134⟩ :: ⟨PyData.keyHash P (.ofString "iter"), .str (.ofString "iter") 653, .ref 135⟩ :: ⟨PyData.keyHash P (.ofString "next"), .str (.ofString "next") 658, .ref 136⟩ :: ⟨PyData.keyHash P (.ofString "bindpad"), .str (.ofString "bindpad") 663, .ref 138⟩ :: ⟨PyData.keyHash P (.ofString "bindglob"), .str (.ofString "bindglob") 668, .ref 139⟩ :: ⟨PyData.keyHash P (.ofString "return0"), .str (.ofString "return0") 673, .ref 140⟩ :: ⟨PyData.keyHash P (.ofString "return1"), .str (.ofString "return1") 678, .ref 141⟩ :: ⟨PyData.keyHash P (.ofString "return2"), .str (.ofString "return2") 683, .ref 142⟩ :: ⟨PyData.keyHash P (.ofString "subreturn"), .str (.ofString "subreturn") 688, .ref 143⟩ :: ⟨PyData.keyHash P (.ofString "enter"), .str (.ofString "enter") 693, .ref 144⟩ :: ⟨PyData.keyHash P (.ofString "leave"), .str (.ofString "leave") 698, .ref 145⟩ :: ⟨PyData.keyHash P (.ofString "leavetest"), .str (.ofString "leavetest") 703, .ref 146⟩ :: ⟨PyData.keyHash P (.ofString "begin"), .str (.ofString "begin") 708, .ref 147⟩ :: ⟨PyData.keyHash P (.ofString "settle"), .str (.ofString "settle") 713, .ref 148⟩ :: ⟨PyData.keyHash P (.ofString "resettle"), .str (.ofString "resettle") 718, .ref 149⟩ :: ⟨PyData.keyHash P (.ofString "forget"), .str (.ofString "forget") 723, .ref 150⟩ :: ⟨PyData.keyHash P (.ofString "line"), .str (.ofString "line") 728, .ref 151⟩ :: ⟨PyData.keyHash P (.ofString "package"), .str (.ofString "package") 733, .ref 152⟩ :: ⟨PyData.keyHash P (.ofString "loop"), .str (.ofString "loop") 738, .ref 153⟩ :: ⟨PyData.keyHash P (.ofString "endloop"), .str (.ofString "endloop") 743, .ref 154⟩ :: []) : List DictEntry).toArray 102, #[]⟩
noncomputable def q137_7 : Params → Obj := fun P => ⟨.type "dict", none, .dict #[⟨PyData.keyHash P (.ofString "bindpad"), .str (.ofString "bindpad") 663, .ref 138⟩, ⟨PyData.keyHash P (.ofString "bindglob"), .str (.ofString "bindglob") 668, .ref 139⟩, ⟨PyData.keyHash P (.ofString "return0"), .str (.ofString "return0") 673, .ref 140⟩, ⟨PyData.keyHash P (.ofString "return1"), .str (.ofString "return1") 678, .ref 141⟩, ⟨PyData.keyHash P (.ofString "return2"), .str (.ofString "return2") 683, .ref 142⟩, ⟨PyData.keyHash P (.ofString "subreturn"), .str (.ofString "subreturn") 688, .ref 143⟩, ⟨PyData.keyHash P (.ofString "enter"), .str (.ofString "enter") 693, .ref 144⟩, ⟨PyData.keyHash P (.ofString "leave"), .str (.ofString "leave") 698, .ref 145⟩, ⟨PyData.keyHash P (.ofString "leavetest"), .str (.ofString "leavetest") 703, .ref 146⟩, ⟨PyData.keyHash P (.ofString "begin"), .str (.ofString "begin") 708, .ref 147⟩, ⟨PyData.keyHash P (.ofString "settle"), .str (.ofString "settle") 713, .ref 148⟩, ⟨PyData.keyHash P (.ofString "resettle"), .str (.ofString "resettle") 718, .ref 149⟩, ⟨PyData.keyHash P (.ofString "forget"), .str (.ofString "forget") 723, .ref 150⟩, ⟨PyData.keyHash P (.ofString "line"), .str (.ofString "line") 728, .ref 151⟩, ⟨PyData.keyHash P (.ofString "package"), .str (.ofString "package") 733, .ref 152⟩, ⟨PyData.keyHash P (.ofString "loop"), .str (.ofString "loop") 738, .ref 153⟩, ⟨PyData.keyHash P (.ofString "endloop"), .str (.ofString "endloop") 743, .ref 154⟩] 17, #[]⟩
noncomputable def q139_7 : Params → Obj := fun P => ⟨.type "tuple", none, .seq #[.int 1 669, .int 0 670, .str (.ofString "-") 671] 0, #[]⟩
noncomputable def q142_7 : Params → Obj := fun P => ⟨.type "tuple", none, .seq #[.int 1 684, .int 0 685, .str (.ofString "") 686] 0, #[]⟩
noncomputable def q143_7 : Params → Obj := fun P => ⟨.type "tuple", none, .seq #[.int 0 689, .int 0 690, .str (.ofString "s") 691] 0, #[]⟩
noncomputable def q144_7 : Params → Obj := fun P => ⟨.type "tuple", none, .seq #[.int 0 694, .int 0 695, .str (.ofString "") 696] 0, #[]⟩
noncomputable def q145_7 : Params → Obj := fun P => ⟨.type "tuple", none, .seq #[.int 0 699, .int 0 700, .str (.ofString "") 701] 0, #[]⟩
noncomputable def q146_7 : Params → Obj := fun P => ⟨.type "tuple", none, .seq #[.int 0 704, .int 0 705, .str (.ofString "") 706] 0, #[]⟩
noncomputable def q147_7 : Params → Obj := fun P => ⟨.type "tuple", none, .seq #[.int 0 709, .int 0 710, .str (.ofString "") 711] 0, #[]⟩
noncomputable def q148_7 : Params → Obj := fun P => ⟨.type "tuple", none, .seq #[.int 0 714, .int 0 715, .str (.ofString "") 716] 0, #[]⟩
noncomputable def q149_7 : Params → Obj := fun P => ⟨.type "tuple", none, .seq #[.int 0 719, .int 0 720, .str (.ofString "") 721] 0, #[]⟩
noncomputable def q150_7 : Params → Obj := fun P => ⟨.type "tuple", none, .seq #[.int 0 724, .int 0 725, .str (.ofString "") 726] 0, #[]⟩
noncomputable def q151_7 : Params → Obj := fun P => ⟨.type "tuple", none, .seq #[.int 0 729, .int 0 730, .str (.ofString "-") 731] 0, #[]⟩
noncomputable def q152_7 : Params → Obj := fun P => ⟨.type "tuple", none, .seq #[.int 0 734, .int 0 735, .str (.ofString "-") 736] 0, #[]⟩
noncomputable def q153_7 : Params → Obj := fun P => ⟨.type "tuple", none, .seq #[.int 0 739, .int 0 740, .str (.ofString "-jjj") 741] 0, #[]⟩
noncomputable def q154_7 : Params → Obj := fun P => ⟨.type "tuple", none, .seq #[.int 0 744, .int 0 745, .str (.ofString "") 746] 0, #[]⟩
noncomputable def bt7 : Params → BT := (bn boot_o_0 (bn boot_o_1 (bn q3_1 (bn boot_o_7 (bn o15 (bn o31 (bn o63 (bl o127) bz) (bl q95_4)) (bn q47_7 (bn q79_3 (bl q143_7) bz) (bl q111_5))) (bn q23_1 (bn q39_1 (bn q71_3 (bl q135_6) bz) (bl q103_5)) (bn q55_2 (bn q87_4 (bl q151_7) bz) (bl q119_6)))) (bn q11_0 (bn q19_1 (bn o35 (bn q67_3 (bl q131_6) bz) (bl o99)) (bn q51_2 (bn q83_4 (bl q147_7) bz) (bl q115_5))) (bn o27 (bn o43 (bn q75_3 (bl q139_7) bz) (bl q107_5)) (bn q59_2 (bl q91_4) (bl q123_6))))) (bn boot_o_5 (bn boot_o_9 (bn q17_1 (bn q33_1 (bn q65_3 (bl q129_6) bz) (bl q97_4)) (bn o49 (bn q81_3 (bl q145_7) bz) (bl q113_5))) (bn o25 (bn q41_1 (bn q73_3 (bl q137_7) bz) (bl q105_5)) (bn q57_2 (bn q89_4 (bl q153_7) bz) (bl q121_6)))) (bn q13_0 (bn q21_1 (bn q37_1 (bn q69_3 (bl q133_6) bz) (bl q101_5)) (bn q53_2 (bn q85_4 (bl q149_7) bz) (bl q117_5))) (bn o29 (bn q45_1 (bn q77_3 (bl o141) bz) (bl q109_5)) (bn q61_2 (bl q93_4) (bl q125_6)))))) (bn o2 (bn boot_o_4 (bn boot_o_8 (bn q16_1 (bn o32 (bn q64_2 (bl o128) bz) (bl q96_4)) (bn o48 (bn q80_3 (bl q144_7) bz) (bl q112_5))) (bn o24 (bn q40_1 (bn q72_3 (bl q136_6) bz) (bl q104_5)) (bn q56_2 (bn q88_4 (bl q152_7) bz) (bl q120_6)))) (bn q12_1 (bn q20_1 (bn q36_1 (bn q68_3 (bl q132_6) bz) (bl q100_4)) (bn q52_2 (bn q84_4 (bl q148_7) bz) (bl q116_5))) (bn o28 (bn o44 (bn q76_3 (bl o140) bz) (bl q108_5)) (bn q60_2 (bl q92_4) (bl q124_6))))) (bn boot_o_6 (bn boot_o_10 (bn q18_1 (bn q34_1 (bn q66_3 (bl q130_6) bz) (bl q98_4)) (bn o50 (bn q82_3 (bl q146_7) bz) (bl q114_5))) (bn q26_1 (bn o42 (bn q74_3 (bl o138) bz) (bl q106_5)) (bn q58_2 (bn q90_4 (bl q154_7) bz) (bl q122_6)))) (bn q14_0 (bn o22 (bn q38_1 (bn q70_3 (bl o134) bz) (bl q102_5)) (bn o54 (bn q86_4 (bl q150_7) bz) (bl q118_5))) (bn o30 (bn q46_1 (bn q78_3 (bl q142_7) bz) (bl q110_5)) (bn o62 (bl q94_4) (bl q126_6)))))))
noncomputable def ss7 (w : World) (os : OsState) : SharedT := ⟨bt7 w.params, 155, life0, ⟨[]⟩, boot_drawn, 748, os⟩
noncomputable def q47_8 : Params → Obj := fun P => ⟨.type "dict", none, .dict ((⟨PyData.keyHash P (.ofString "const"), .str (.ofString "const") 238, .ref 48⟩ :: ⟨PyData.keyHash P (.ofString "empty"), .str (.ofString "empty") 243, .ref 49⟩ :: ⟨PyData.keyHash P (.ofString "drop"), .str (.ofString "drop") 248, .ref 50⟩ :: ⟨PyData.keyHash P (.ofString "dup"), .str (.ofString "dup") 253, .ref 51⟩ :: ⟨PyData.keyHash P (.ofString "swap"), .str (.ofString "swap") 258, .ref 52⟩ :: ⟨PyData.keyHash P (.ofString "wrap"), .str (.ofString "wrap") 263, .ref 53⟩ :: ⟨PyData.keyHash P (.ofString "append"), .str (.ofString "append") 268, .ref 54⟩ :: ⟨PyData.keyHash P (.ofString "copy"), .str (.ofString "copy") 273, .ref 55⟩ :: ⟨PyData.keyHash P (.ofString "count"), .str (.ofString "count") 278, .ref 56⟩ :: ⟨PyData.keyHash P (.ofString "final"), .str (.ofString "final") 283, .ref 57⟩ :: ⟨PyData.keyHash P (.ofString "keep"), .str (.ofString "keep") 288, .ref 58⟩ :: ⟨PyData.keyHash P (.ofString "refcode"), .str (.ofString "refcode") 293, .ref 59⟩ :: ⟨PyData.keyHash P (.ofString "codetold"), .str (.ofString "codetold") 298, .ref 60⟩ :: ⟨PyData.keyHash P (.ofString "refuse"), .str (.ofString "refuse") 303, .ref 61⟩ :: ⟨PyData.keyHash P (.ofString "pad"), .str (.ofString "pad") 308, .ref 62⟩ :: ⟨PyData.keyHash P (.ofString "my"), .str (.ofString "my") 313, .ref 63⟩ :: ⟨PyData.keyHash P (.ofString "glob"), .str (.ofString "glob") 318, .ref 64⟩ :: ⟨PyData.keyHash P (.ofString "matchvar"), .str (.ofString "matchvar") 323, .ref 66⟩ :: ⟨PyData.keyHash P (.ofString "fetch"), .str (.ofString "fetch") 328, .ref 67⟩ :: ⟨PyData.keyHash P (.ofString "ascalar"), .str (.ofString "ascalar") 333, .ref 68⟩ :: ⟨PyData.keyHash P (.ofString "newscalar"), .str (.ofString "newscalar") 338, .ref 69⟩ :: ⟨PyData.keyHash P (.ofString "vivify"), .str (.ofString "vivify") 343, .ref 70⟩ :: ⟨PyData.keyHash P (.ofString "deref"), .str (.ofString "deref") 348, .ref 71⟩ :: ⟨PyData.keyHash P (.ofString "items"), .str (.ofString "items") 353, .ref 72⟩ :: ⟨PyData.keyHash P (.ofString "size"), .str (.ofString "size") 358, .ref 73⟩ :: ⟨PyData.keyHash P (.ofString "pairs"), .str (.ofString "pairs") 363, .ref 74⟩ :: ⟨PyData.keyHash P (.ofString "keycount"), .str (.ofString "keycount") 368, .ref 75⟩ :: ⟨PyData.keyHash P (.ofString "lastidx"), .str (.ofString "lastidx") 373, .ref 76⟩ :: ⟨PyData.keyHash P (.ofString "elem"), .str (.ofString "elem") 378, .ref 77⟩ :: ⟨PyData.keyHash P (.ofString "helem"), .str (.ofString "helem") 383, .ref 78⟩ :: ⟨PyData.keyHash P (.ofString "elemat"), .str (.ofString "elemat") 388, .ref 79⟩ :: ⟨PyData.keyHash P (.ofString "helemat"), .str (.ofString "helemat") 393, .ref 80⟩ :: ⟨PyData.keyHash P (.ofString "elemlv"), .str (.ofString "elemlv") 398, .ref 81⟩ :: ⟨PyData.keyHash P (.ofString "helemlv"), .str (.ofString "helemlv") 403, .ref 82⟩ :: ⟨PyData.keyHash P (.ofString "aslice"), .str (.ofString "aslice") 408, .ref 84⟩ :: ⟨PyData.keyHash P (.ofString "hslice"), .str (.ofString "hslice") 413, .ref 85⟩ :: ⟨PyData.keyHash P (.ofString "aslicelv"), .str (.ofString "aslicelv") 418, .ref 86⟩ :: ⟨PyData.keyHash P (.ofString "hslicelv"), .str (.ofString "hslicelv") 423, .ref 87⟩ :: ⟨PyData.keyHash P (.ofString "lslice"), .str (.ofString "lslice") 428, .ref 88⟩ :: ⟨PyData.keyHash P (.ofString "substrlv"), .str (.ofString "substrlv") 433, .ref 89⟩ :: ⟨PyData.keyHash P (.ofString "veclv"), .str (.ofString "veclv") 438, .ref 90⟩ :: ⟨PyData.keyHash P (.ofString "poslv"), .str (.ofString "poslv") 443, .ref 91⟩ :: ⟨PyData.keyHash P (.ofString "lastlv"), .str (.ofString "lastlv") 448, .ref 92⟩ :: ⟨PyData.keyHash P (.ofString "ref"), .str (.ofString "ref") 453, .ref 93⟩ :: ⟨PyData.keyHash P (.ofString "refvalue"), .str (.ofString "refvalue") 458, .ref 94⟩ :: ⟨PyData.keyHash P (.ofString "elemrefs"), .str (.ofString "elemrefs") 463, .ref 95⟩ :: ⟨PyData.keyHash P (.ofString "refeach"), .str (.ofString "refeach") 468, .ref 96⟩ :: ⟨PyData.keyHash P (.ofString "anona"), .str (.ofString "anona") 473, .ref 97⟩ :: ⟨PyData.keyHash P (.ofString "anonh"), .str (.ofString "anonh") 478, .ref 98⟩ :: ⟨PyData.keyHash P (.ofString "closure"), .str (.ofString "closure") 483, .ref 99⟩ :: ⟨PyData.keyHash P (.ofString "definesub"), .str (.ofString "definesub") 488, .ref 100⟩ :: ⟨PyData.keyHash P (.ofString "code"), .str (.ofString "code") 493, .ref 102⟩ :: ⟨PyData.keyHash P (.ofString "codefor"), .str (.ofString "codefor") 498, .ref 103⟩ :: ⟨PyData.keyHash P (.ofString "assign"), .str (.ofString "assign") 503, .ref 104⟩ :: ⟨PyData.keyHash P (.ofString "opassign"), .str (.ofString "opassign") 508, .ref 105⟩ :: ⟨PyData.keyHash P (.ofString "aassign"), .str (.ofString "aassign") 513, .ref 106⟩ :: ⟨PyData.keyHash P (.ofString "members"), .str (.ofString "members") 518, .ref 107⟩ :: ⟨PyData.keyHash P (.ofString "lasttarget"), .str (.ofString "lasttarget") 523, .ref 108⟩ :: ⟨PyData.keyHash P (.ofString "preinc"), .str (.ofString "preinc") 528, .ref 109⟩ :: ⟨PyData.keyHash P (.ofString "predec"), .str (.ofString "predec") 533, .ref 110⟩ :: ⟨PyData.keyHash P (.ofString "postinc"), .str (.ofString "postinc") 538, .ref 111⟩ :: ⟨PyData.keyHash P (.ofString "postdec"), .str (.ofString "postdec") 543, .ref 112⟩ :: ⟨PyData.keyHash P (.ofString "localglob"), .str (.ofString "localglob") 548, .ref 113⟩ :: ⟨PyData.keyHash P (.ofString "localelem"), .str (.ofString "localelem") 553, .ref 114⟩ :: ⟨PyData.keyHash P (.ofString "localhelem"), .str (.ofString "localhelem") 558, .ref 115⟩ :: ⟨PyData.keyHash P (.ofString "localaslice"), .str (.ofString "localaslice") 563, .ref 116⟩ :: ⟨PyData.keyHash P (.ofString "localhslice"), .str (.ofString "localhslice") 568, .ref 117⟩ :: ⟨PyData.keyHash P (.ofString "bin"), .str (.ofString "bin") 573, .ref 118⟩ :: ⟨PyData.keyHash P (.ofString "xor"), .str (.ofString "xor") 578, .ref 120⟩ :: ⟨PyData.keyHash P (.ofString "un"), .str (.ofString "un") 583, .ref 121⟩ :: ⟨PyData.keyHash P (.ofString "joinlist"), .str (.ofString "joinlist") 588, .ref 122⟩ :: ⟨PyData.keyHash P (.ofString "text"), .str (.ofString "text") 593, .ref 123⟩ :: ⟨PyData.keyHash P (.ofString "wanted"), .str (.ofString "wanted") 598, .ref 124⟩ :: ⟨PyData.keyHash P (.ofString "repeat"), .str (.ofString "repeat") 603, .ref 125⟩ :: ⟨PyData.keyHash P (.ofString "range"), .str (.ofString "range") 608, .ref 126⟩ :: ⟨PyData.keyHash P (.ofString "jump"), .str (.ofString "jump") 613, .ref 127⟩ :: ⟨PyData.keyHash P (.ofString "iffalse"), .str (.ofString "iffalse") 618, .ref 128⟩ :: ⟨PyData.keyHash P (.ofString "iftrue"), .str (.ofString "iftrue") 623, .ref 129⟩ :: ⟨PyData.keyHash P (.ofString "ifdef"), .str (.ofString "ifdef") 628, .ref 130⟩ :: ⟨PyData.keyHash P (.ofString "orjump"), .str (.ofString "orjump") 633, .ref 131⟩ :: ⟨PyData.keyHash P (.ofString "andjump"), .str (.ofString "andjump") 638, .ref 132⟩ :: ⟨PyData.keyHash P (.ofString "dorjump"), .str (.ofString "dorjump") 643, .ref 133⟩ :: ⟨PyData.keyHash P (.ofString "bywant"), .str (.ofString "bywant") 648, .ref 134⟩ :: ⟨PyData.keyHash P (.ofString "iter"), .str (.ofString "iter") 653, .ref 135⟩ :: ⟨PyData.keyHash P (.ofString "next"), .str (.ofString "next") 658, .ref 136⟩ :: ⟨PyData.keyHash P (.ofString "bindpad"), .str (.ofString "bindpad") 663, .ref 138⟩ :: ⟨PyData.keyHash P (.ofString "bindglob"), .str (.ofString "bindglob") 668, .ref 139⟩ :: ⟨PyData.keyHash P (.ofString "return0"), .str (.ofString "return0") 673, .ref 140⟩ :: ⟨PyData.keyHash P (.ofString "return1"), .str (.ofString "return1") 678, .ref 141⟩ :: ⟨PyData.keyHash P (.ofString "return2"), .str (.ofString "return2") 683, .ref 142⟩ :: ⟨PyData.keyHash P (.ofString "subreturn"), .str (.ofString "subreturn") 688, .ref 143⟩ :: ⟨PyData.keyHash P (.ofString "enter"), .str (.ofString "enter") 693, .ref 144⟩ :: ⟨PyData.keyHash P (.ofString "leave"), .str (.ofString "leave") 698, .ref 145⟩ :: ⟨PyData.keyHash P (.ofString "leavetest"), .str (.ofString "leavetest") 703, .ref 146⟩ :: ⟨PyData.keyHash P (.ofString "begin"), .str (.ofString "begin") 708, .ref 147⟩ :: ⟨PyData.keyHash P (.ofString "settle"), .str (.ofString "settle") 713, .ref 148⟩ :: ⟨PyData.keyHash P (.ofString "resettle"), .str (.ofString "resettle") 718, .ref 149⟩ :: ⟨PyData.keyHash P (.ofString "forget"), .str (.ofString "forget") 723, .ref 150⟩ :: ⟨PyData.keyHash P (.ofString "line"), .str (.ofString "line") 728, .ref 151⟩ :: ⟨PyData.keyHash P (.ofString "package"), .str (.ofString "package") 733, .ref 152⟩ :: ⟨PyData.keyHash P (.ofString "loop"), .str (.ofString "loop") 738, .ref 153⟩ :: ⟨PyData.keyHash P (.ofString "endloop"), .str (.ofString "endloop") 743, .ref 154⟩ :: ⟨PyData.keyHash P (.ofString "unwind"), .str (.ofString "unwind") 748, .ref 156⟩ :: ⟨PyData.keyHash P (.ofString "loopleave"), .str (.ofString "loopleave") 753, .ref 157⟩ :: ⟨PyData.keyHash P (.ofString "call"), .str (.ofString "call") 758, .ref 158⟩ :: ⟨PyData.keyHash P (.ofString "callsame"), .str (.ofString "callsame") 763, .ref 159⟩ :: ⟨PyData.keyHash P (.ofString "method"), .str (.ofString "method") 768, .ref 160⟩ :: ⟨PyData.keyHash P (.ofString "func"), .str (.ofString "func") 773, .ref 161⟩ :: ⟨PyData.keyHash P (.ofString "map"), .str (.ofString "map") 778, .ref 162⟩ :: ⟨PyData.keyHash P (.ofString "grep"), .str (.ofString "grep") 783, .ref 163⟩ :: ⟨PyData.keyHash P (.ofString "sort"), .str (.ofString "sort") 788, .ref 164⟩ :: ⟨PyData.keyHash P (.ofString "sortby"), .str (.ofString "sortby") 793, .ref 165⟩ :: ⟨PyData.keyHash P (.ofString "match"), .str (.ofString "match") 798, .ref 166⟩ :: ⟨PyData.keyHash P (.ofString "subst"), .str (.ofString "subst") 803, .ref 167⟩ :: ⟨PyData.keyHash P (.ofString "trans"), .str (.ofString "trans") 808, .ref 168⟩ :: ⟨PyData.keyHash P (.ofString "split"), .str (.ofString "split") 813, .ref 169⟩ :: ⟨PyData.keyHash P (.ofString "delete"), .str (.ofString "delete") 818, .ref 170⟩ :: ⟨PyData.keyHash P (.ofString "exists"), .str (.ofString "exists") 823, .ref 171⟩ :: ⟨PyData.keyHash P (.ofString "isdef"), .str (.ofString "isdef") 828, .ref 172⟩ :: []) : List DictEntry).toArray 119, #[]⟩
noncomputable def q155_8 : Params → Obj := fun P => ⟨.type "dict", none, .dict #[⟨PyData.keyHash P (.ofString "unwind"), .str (.ofString "unwind") 748, .ref 156⟩, ⟨PyData.keyHash P (.ofString "loopleave"), .str (.ofString "loopleave") 753, .ref 157⟩, ⟨PyData.keyHash P (.ofString "call"), .str (.ofString "call") 758, .ref 158⟩, ⟨PyData.keyHash P (.ofString "callsame"), .str (.ofString "callsame") 763, .ref 159⟩, ⟨PyData.keyHash P (.ofString "method"), .str (.ofString "method") 768, .ref 160⟩, ⟨PyData.keyHash P (.ofString "func"), .str (.ofString "func") 773, .ref 161⟩, ⟨PyData.keyHash P (.ofString "map"), .str (.ofString "map") 778, .ref 162⟩, ⟨PyData.keyHash P (.ofString "grep"), .str (.ofString "grep") 783, .ref 163⟩, ⟨PyData.keyHash P (.ofString "sort"), .str (.ofString "sort") 788, .ref 164⟩, ⟨PyData.keyHash P (.ofString "sortby"), .str (.ofString "sortby") 793, .ref 165⟩, ⟨PyData.keyHash P (.ofString "match"), .str (.ofString "match") 798, .ref 166⟩, ⟨PyData.keyHash P (.ofString "subst"), .str (.ofString "subst") 803, .ref 167⟩, ⟨PyData.keyHash P (.ofString "trans"), .str (.ofString "trans") 808, .ref 168⟩, ⟨PyData.keyHash P (.ofString "split"), .str (.ofString "split") 813, .ref 169⟩, ⟨PyData.keyHash P (.ofString "delete"), .str (.ofString "delete") 818, .ref 170⟩, ⟨PyData.keyHash P (.ofString "exists"), .str (.ofString "exists") 823, .ref 171⟩, ⟨PyData.keyHash P (.ofString "isdef"), .str (.ofString "isdef") 828, .ref 172⟩] 17, #[]⟩
noncomputable def q156_8 : Params → Obj := fun P => ⟨.type "tuple", none, .seq #[.int 0 749, .int 0 750, .str (.ofString "---") 751] 0, #[]⟩
noncomputable def q157_8 : Params → Obj := fun P => ⟨.type "tuple", none, .seq #[.int 0 754, .int 0 755, .str (.ofString "--") 756] 0, #[]⟩
noncomputable def q158_8 : Params → Obj := fun P => ⟨.type "tuple", none, .seq #[.int 2 759, .int 1 760, .str (.ofString "w") 761] 0, #[]⟩
noncomputable def q159_8 : Params → Obj := fun P => ⟨.type "tuple", none, .seq #[.int 1 764, .int 1 765, .str (.ofString "w") 766] 0, #[]⟩
noncomputable def q160_8 : Params → Obj := fun P => ⟨.type "tuple", none, .seq #[.int 2 769, .int 1 770, .str (.ofString "-w") 771] 0, #[]⟩
noncomputable def q163_8 : Params → Obj := fun P => ⟨.type "tuple", none, .seq #[.int 1 784, .int 1 785, .str (.ofString "-") 786] 0, #[]⟩
noncomputable def q165_8 : Params → Obj := fun P => ⟨.type "tuple", none, .seq #[.int 2 794, .int 1 795, .str (.ofString "-") 796] 0, #[]⟩
noncomputable def q166_8 : Params → Obj := fun P => ⟨.type "tuple", none, .seq #[.int 2 799, .int 1 800, .str (.ofString "--w") 801] 0, #[]⟩
noncomputable def q167_8 : Params → Obj := fun P => ⟨.type "tuple", none, .seq #[.int 2 804, .int 1 805, .str (.ofString "--") 806] 0, #[]⟩
noncomputable def q168_8 : Params → Obj := fun P => ⟨.type "tuple", none, .seq #[.int 1 809, .int 1 810, .str (.ofString "---") 811] 0, #[]⟩
noncomputable def q169_8 : Params → Obj := fun P => ⟨.type "tuple", none, .seq #[.int 3 814, .int 1 815, .str (.ofString "-w") 816] 0, #[]⟩
noncomputable def q170_8 : Params → Obj := fun P => ⟨.type "tuple", none, .seq #[.int 2 819, .int 1 820, .str (.ofString "-") 821] 0, #[]⟩
noncomputable def q171_8 : Params → Obj := fun P => ⟨.type "tuple", none, .seq #[.int 2 824, .int 1 825, .str (.ofString "-") 826] 0, #[]⟩
noncomputable def q172_8 : Params → Obj := fun P => ⟨.type "tuple", none, .seq #[.int 1 829, .int 1 830, .str (.ofString "") 831] 0, #[]⟩
noncomputable def bt8 : Params → BT := (bn boot_o_0 (bn boot_o_1 (bn q3_1 (bn boot_o_7 (bn o15 (bn o31 (bn o63 (bl o127) bz) (bn q95_4 (bl q159_8) bz)) (bn q47_8 (bn q79_3 (bl q143_7) bz) (bl q111_5))) (bn q23_1 (bn q39_1 (bn q71_3 (bl q135_6) bz) (bn q103_5 (bl q167_8) bz)) (bn q55_2 (bn q87_4 (bl q151_7) bz) (bl q119_6)))) (bn q11_0 (bn q19_1 (bn o35 (bn q67_3 (bl q131_6) bz) (bn o99 (bl q163_8) bz)) (bn q51_2 (bn q83_4 (bl q147_7) bz) (bl q115_5))) (bn o27 (bn o43 (bn q75_3 (bl q139_7) bz) (bn q107_5 (bl q171_8) bz)) (bn q59_2 (bn q91_4 (bl q155_8) bz) (bl q123_6))))) (bn boot_o_5 (bn boot_o_9 (bn q17_1 (bn q33_1 (bn q65_3 (bl q129_6) bz) (bn q97_4 (bl o161) bz)) (bn o49 (bn q81_3 (bl q145_7) bz) (bl q113_5))) (bn o25 (bn q41_1 (bn q73_3 (bl q137_7) bz) (bn q105_5 (bl q169_8) bz)) (bn q57_2 (bn q89_4 (bl q153_7) bz) (bl q121_6)))) (bn q13_0 (bn q21_1 (bn q37_1 (bn q69_3 (bl q133_6) bz) (bn q101_5 (bl q165_8) bz)) (bn q53_2 (bn q85_4 (bl q149_7) bz) (bl q117_5))) (bn o29 (bn q45_1 (bn q77_3 (bl o141) bz) (bl q109_5)) (bn q61_2 (bn q93_4 (bl q157_8) bz) (bl q125_6)))))) (bn o2 (bn boot_o_4 (bn boot_o_8 (bn q16_1 (bn o32 (bn q64_2 (bl o128) bz) (bn q96_4 (bl q160_8) bz)) (bn o48 (bn q80_3 (bl q144_7) bz) (bl q112_5))) (bn o24 (bn q40_1 (bn q72_3 (bl q136_6) bz) (bn q104_5 (bl q168_8) bz)) (bn q56_2 (bn q88_4 (bl q152_7) bz) (bl q120_6)))) (bn q12_1 (bn q20_1 (bn q36_1 (bn q68_3 (bl q132_6) bz) (bn q100_4 (bl o164) bz)) (bn q52_2 (bn q84_4 (bl q148_7) bz) (bl q116_5))) (bn o28 (bn o44 (bn q76_3 (bl o140) bz) (bn q108_5 (bl q172_8) bz)) (bn q60_2 (bn q92_4 (bl q156_8) bz) (bl q124_6))))) (bn boot_o_6 (bn boot_o_10 (bn q18_1 (bn q34_1 (bn q66_3 (bl q130_6) bz) (bn q98_4 (bl o162) bz)) (bn o50 (bn q82_3 (bl q146_7) bz) (bl q114_5))) (bn q26_1 (bn o42 (bn q74_3 (bl o138) bz) (bn q106_5 (bl q170_8) bz)) (bn q58_2 (bn q90_4 (bl q154_7) bz) (bl q122_6)))) (bn q14_0 (bn o22 (bn q38_1 (bn q70_3 (bl o134) bz) (bn q102_5 (bl q166_8) bz)) (bn o54 (bn q86_4 (bl q150_7) bz) (bl q118_5))) (bn o30 (bn q46_1 (bn q78_3 (bl q142_7) bz) (bl q110_5)) (bn o62 (bn q94_4 (bl q158_8) bz) (bl q126_6)))))))
noncomputable def ss8 (w : World) (os : OsState) : SharedT := ⟨bt8 w.params, 173, life0, ⟨[]⟩, boot_drawn, 833, os⟩
noncomputable def q173_9 : Params → Obj := fun P => ⟨.type "dict", none, .dict #[⟨PyData.keyHash P (.ofString "codethere"), .str (.ofString "codethere") 833, .ref 174⟩, ⟨PyData.keyHash P (.ofString "evalblock"), .str (.ofString "evalblock") 837, .ref 175⟩, ⟨PyData.keyHash P (.ofString "evalstr"), .str (.ofString "evalstr") 841, .ref 176⟩] 3, #[]⟩
noncomputable def q174_9 : Params → Obj := fun P => ⟨.type "tuple", none, .seq #[.int 0 834, .int 1 835, .str (.ofString "-") 836] 0, #[]⟩
noncomputable def q175_9 : Params → Obj := fun P => ⟨.type "tuple", none, .seq #[.int 0 838, .int 1 839, .str (.ofString "-w") 840] 0, #[]⟩
noncomputable def q176_9 : Params → Obj := fun P => ⟨.type "tuple", none, .seq #[.int 1 842, .int 1 843, .str (.ofString "--w") 844] 0, #[]⟩
noncomputable def bt9 : Params → BT := (bn boot_o_0 (bn boot_o_1 (bn q3_1 (bn boot_o_7 (bn o15 (bn o31 (bn o63 (bl o127) bz) (bn q95_4 (bl q159_8) bz)) (bn o47 (bn q79_3 (bl q143_7) bz) (bn q111_5 (bl q175_9) bz))) (bn q23_1 (bn q39_1 (bn q71_3 (bl q135_6) bz) (bn q103_5 (bl q167_8) bz)) (bn q55_2 (bn q87_4 (bl q151_7) bz) (bl q119_6)))) (bn q11_0 (bn q19_1 (bn o35 (bn q67_3 (bl q131_6) bz) (bn o99 (bl q163_8) bz)) (bn q51_2 (bn q83_4 (bl q147_7) bz) (bl q115_5))) (bn o27 (bn o43 (bn q75_3 (bl q139_7) bz) (bn q107_5 (bl q171_8) bz)) (bn q59_2 (bn q91_4 (bl q155_8) bz) (bl q123_6))))) (bn boot_o_5 (bn boot_o_9 (bn q17_1 (bn q33_1 (bn q65_3 (bl q129_6) bz) (bn q97_4 (bl o161) bz)) (bn o49 (bn q81_3 (bl q145_7) bz) (bl q113_5))) (bn o25 (bn q41_1 (bn q73_3 (bl q137_7) bz) (bn q105_5 (bl q169_8) bz)) (bn q57_2 (bn q89_4 (bl q153_7) bz) (bl q121_6)))) (bn q13_0 (bn q21_1 (bn q37_1 (bn q69_3 (bl q133_6) bz) (bn q101_5 (bl q165_8) bz)) (bn q53_2 (bn q85_4 (bl q149_7) bz) (bl q117_5))) (bn o29 (bn q45_1 (bn q77_3 (bl o141) bz) (bn q109_5 (bl q173_9) bz)) (bn q61_2 (bn q93_4 (bl q157_8) bz) (bl q125_6)))))) (bn o2 (bn boot_o_4 (bn boot_o_8 (bn q16_1 (bn o32 (bn q64_2 (bl o128) bz) (bn q96_4 (bl q160_8) bz)) (bn o48 (bn q80_3 (bl q144_7) bz) (bn q112_5 (bl q176_9) bz))) (bn o24 (bn q40_1 (bn q72_3 (bl q136_6) bz) (bn q104_5 (bl q168_8) bz)) (bn q56_2 (bn q88_4 (bl q152_7) bz) (bl q120_6)))) (bn q12_1 (bn q20_1 (bn q36_1 (bn q68_3 (bl q132_6) bz) (bn q100_4 (bl o164) bz)) (bn q52_2 (bn q84_4 (bl q148_7) bz) (bl q116_5))) (bn o28 (bn o44 (bn q76_3 (bl o140) bz) (bn q108_5 (bl q172_8) bz)) (bn q60_2 (bn q92_4 (bl q156_8) bz) (bl q124_6))))) (bn boot_o_6 (bn boot_o_10 (bn q18_1 (bn q34_1 (bn q66_3 (bl q130_6) bz) (bn q98_4 (bl o162) bz)) (bn o50 (bn q82_3 (bl q146_7) bz) (bl q114_5))) (bn q26_1 (bn o42 (bn q74_3 (bl o138) bz) (bn q106_5 (bl q170_8) bz)) (bn q58_2 (bn q90_4 (bl q154_7) bz) (bl q122_6)))) (bn q14_0 (bn o22 (bn q38_1 (bn q70_3 (bl o134) bz) (bn q102_5 (bl q166_8) bz)) (bn o54 (bn q86_4 (bl q150_7) bz) (bl q118_5))) (bn o30 (bn q46_1 (bn q78_3 (bl q142_7) bz) (bn q110_5 (bl q174_9) bz)) (bn o62 (bn q94_4 (bl q158_8) bz) (bl q126_6)))))))
noncomputable def ss9 (w : World) (os : OsState) : SharedT := ⟨bt9 w.params, 177, life0, ⟨[]⟩, boot_drawn, 848, os⟩
noncomputable def q3_10 : Params → Obj := fun P => ⟨.type "dict", none, .dict #[⟨PyData.keyHash P (.ofString "__name__"), .str (.ofString "__name__") 165, .str (.ofString "perlcore.ops") 234⟩, ⟨PyData.keyHash P (.ofString "__doc__"), .str (.ofString "__doc__") 166, .none⟩, ⟨PyData.keyHash P (.ofString "__package__"), .str (.ofString "__package__") 167, .none⟩, ⟨PyData.keyHash P (.ofString "__loader__"), .str (.ofString "__loader__") 168, .builtin "__main__.__loader__#opaque"⟩, ⟨PyData.keyHash P (.ofString "__spec__"), .str (.ofString "__spec__") 169, .none⟩, ⟨PyData.keyHash P (.ofString "__annotations__"), .str (.ofString "__annotations__") 170, .ref 6⟩, ⟨PyData.keyHash P (.ofString "__builtins__"), .str (.ofString "__builtins__") 171, .ref 4⟩, ⟨PyData.keyHash P (.ofString "__file__"), .str (.ofString "__file__") 173, .str (.ofString "/claim/cut.py") 172⟩, ⟨PyData.keyHash P (.ofString "__cached__"), .str (.ofString "__cached__") 174, .none⟩, ⟨PyData.keyHash P (.ofString "PerlError"), .str (.ofString "PerlError") 217, .ref 31⟩, ⟨PyData.keyHash P (.ofString "BadOps"), .str (.ofString "BadOps") 233, .ref 44⟩, ⟨PyData.keyHash P (.ofString "VOID"), .str (.ofString "VOID") 237, .int 0 236⟩, ⟨PyData.keyHash P (.ofString "SHAPES"), .str (.ofString "SHAPES") 848, .ref 47⟩] 13, #[]⟩
noncomputable def bt10 : Params → BT := (bn boot_o_0 (bn boot_o_1 (bn q3_10 (bn boot_o_7 (bn o15 (bn o31 (bn o63 (bl o127) bz) (bn q95_4 (bl q159_8) bz)) (bn o47 (bn q79_3 (bl q143_7) bz) (bn q111_5 (bl q175_9) bz))) (bn q23_1 (bn q39_1 (bn q71_3 (bl q135_6) bz) (bn q103_5 (bl q167_8) bz)) (bn q55_2 (bn q87_4 (bl q151_7) bz) (bl q119_6)))) (bn q11_0 (bn q19_1 (bn o35 (bn q67_3 (bl q131_6) bz) (bn o99 (bl q163_8) bz)) (bn q51_2 (bn q83_4 (bl q147_7) bz) (bl q115_5))) (bn o27 (bn o43 (bn q75_3 (bl q139_7) bz) (bn q107_5 (bl q171_8) bz)) (bn q59_2 (bn q91_4 (bl q155_8) bz) (bl q123_6))))) (bn boot_o_5 (bn boot_o_9 (bn q17_1 (bn q33_1 (bn q65_3 (bl q129_6) bz) (bn q97_4 (bl o161) bz)) (bn o49 (bn q81_3 (bl q145_7) bz) (bl q113_5))) (bn o25 (bn q41_1 (bn q73_3 (bl q137_7) bz) (bn q105_5 (bl q169_8) bz)) (bn q57_2 (bn q89_4 (bl q153_7) bz) (bl q121_6)))) (bn q13_0 (bn q21_1 (bn q37_1 (bn q69_3 (bl q133_6) bz) (bn q101_5 (bl q165_8) bz)) (bn q53_2 (bn q85_4 (bl q149_7) bz) (bl q117_5))) (bn o29 (bn q45_1 (bn q77_3 (bl o141) bz) (bn q109_5 (bl q173_9) bz)) (bn q61_2 (bn q93_4 (bl q157_8) bz) (bl q125_6)))))) (bn o2 (bn boot_o_4 (bn boot_o_8 (bn q16_1 (bn o32 (bn q64_2 (bl o128) bz) (bn q96_4 (bl q160_8) bz)) (bn o48 (bn q80_3 (bl q144_7) bz) (bn q112_5 (bl q176_9) bz))) (bn o24 (bn q40_1 (bn q72_3 (bl q136_6) bz) (bn q104_5 (bl q168_8) bz)) (bn q56_2 (bn q88_4 (bl q152_7) bz) (bl q120_6)))) (bn q12_1 (bn q20_1 (bn q36_1 (bn q68_3 (bl q132_6) bz) (bn q100_4 (bl o164) bz)) (bn q52_2 (bn q84_4 (bl q148_7) bz) (bl q116_5))) (bn o28 (bn o44 (bn q76_3 (bl o140) bz) (bn q108_5 (bl q172_8) bz)) (bn q60_2 (bn q92_4 (bl q156_8) bz) (bl q124_6))))) (bn boot_o_6 (bn boot_o_10 (bn q18_1 (bn q34_1 (bn q66_3 (bl q130_6) bz) (bn q98_4 (bl o162) bz)) (bn o50 (bn q82_3 (bl q146_7) bz) (bl q114_5))) (bn q26_1 (bn o42 (bn q74_3 (bl o138) bz) (bn q106_5 (bl q170_8) bz)) (bn q58_2 (bn q90_4 (bl q154_7) bz) (bl q122_6)))) (bn q14_0 (bn o22 (bn q38_1 (bn q70_3 (bl o134) bz) (bn q102_5 (bl q166_8) bz)) (bn o54 (bn q86_4 (bl q150_7) bz) (bl q118_5))) (bn o30 (bn q46_1 (bn q78_3 (bl q142_7) bz) (bn q110_5 (bl q174_9) bz)) (bn o62 (bn q94_4 (bl q158_8) bz) (bl q126_6)))))))
noncomputable def ss10 (w : World) (os : OsState) : SharedT := ⟨bt10 w.params, 177, life0, ⟨[]⟩, boot_drawn, 849, os⟩
noncomputable def q3_11 : Params → Obj := fun P => ⟨.type "dict", none, .dict #[⟨PyData.keyHash P (.ofString "__name__"), .str (.ofString "__name__") 165, .str (.ofString "perlcore.ops") 234⟩, ⟨PyData.keyHash P (.ofString "__doc__"), .str (.ofString "__doc__") 166, .none⟩, ⟨PyData.keyHash P (.ofString "__package__"), .str (.ofString "__package__") 167, .none⟩, ⟨PyData.keyHash P (.ofString "__loader__"), .str (.ofString "__loader__") 168, .builtin "__main__.__loader__#opaque"⟩, ⟨PyData.keyHash P (.ofString "__spec__"), .str (.ofString "__spec__") 169, .none⟩, ⟨PyData.keyHash P (.ofString "__annotations__"), .str (.ofString "__annotations__") 170, .ref 6⟩, ⟨PyData.keyHash P (.ofString "__builtins__"), .str (.ofString "__builtins__") 171, .ref 4⟩, ⟨PyData.keyHash P (.ofString "__file__"), .str (.ofString "__file__") 173, .str (.ofString "/claim/cut.py") 172⟩, ⟨PyData.keyHash P (.ofString "__cached__"), .str (.ofString "__cached__") 174, .none⟩, ⟨PyData.keyHash P (.ofString "PerlError"), .str (.ofString "PerlError") 217, .ref 31⟩, ⟨PyData.keyHash P (.ofString "BadOps"), .str (.ofString "BadOps") 233, .ref 44⟩, ⟨PyData.keyHash P (.ofString "VOID"), .str (.ofString "VOID") 237, .int 0 236⟩, ⟨PyData.keyHash P (.ofString "SHAPES"), .str (.ofString "SHAPES") 848, .ref 47⟩, ⟨PyData.keyHash P (.ofString "LEAVING"), .str (.ofString "LEAVING") 857, .ref 177⟩, ⟨PyData.keyHash P (.ofString "KEEPING"), .str (.ofString "KEEPING") 871, .ref 178⟩] 15, #[]⟩
noncomputable def bt11 : Params → BT := (bn boot_o_0 (bn boot_o_1 (bn q3_11 (bn boot_o_7 (bn o15 (bn o31 (bn o63 (bl o127) bz) (bn q95_4 (bl q159_8) bz)) (bn o47 (bn q79_3 (bl q143_7) bz) (bn q111_5 (bl q175_9) bz))) (bn q23_1 (bn q39_1 (bn q71_3 (bl q135_6) bz) (bn q103_5 (bl q167_8) bz)) (bn q55_2 (bn q87_4 (bl q151_7) bz) (bl q119_6)))) (bn q11_0 (bn q19_1 (bn o35 (bn q67_3 (bl q131_6) bz) (bn o99 (bl q163_8) bz)) (bn q51_2 (bn q83_4 (bl q147_7) bz) (bl q115_5))) (bn o27 (bn o43 (bn q75_3 (bl q139_7) bz) (bn q107_5 (bl q171_8) bz)) (bn q59_2 (bn q91_4 (bl q155_8) bz) (bl q123_6))))) (bn boot_o_5 (bn boot_o_9 (bn q17_1 (bn q33_1 (bn q65_3 (bl q129_6) bz) (bn q97_4 (bl o161) bz)) (bn o49 (bn q81_3 (bl q145_7) bz) (bn q113_5 (bl o177) bz))) (bn o25 (bn q41_1 (bn q73_3 (bl q137_7) bz) (bn q105_5 (bl q169_8) bz)) (bn q57_2 (bn q89_4 (bl q153_7) bz) (bl q121_6)))) (bn q13_0 (bn q21_1 (bn q37_1 (bn q69_3 (bl q133_6) bz) (bn q101_5 (bl q165_8) bz)) (bn q53_2 (bn q85_4 (bl q149_7) bz) (bl q117_5))) (bn o29 (bn q45_1 (bn q77_3 (bl o141) bz) (bn q109_5 (bl q173_9) bz)) (bn q61_2 (bn q93_4 (bl q157_8) bz) (bl q125_6)))))) (bn o2 (bn boot_o_4 (bn boot_o_8 (bn q16_1 (bn o32 (bn q64_2 (bl o128) bz) (bn q96_4 (bl q160_8) bz)) (bn o48 (bn q80_3 (bl q144_7) bz) (bn q112_5 (bl q176_9) bz))) (bn o24 (bn q40_1 (bn q72_3 (bl q136_6) bz) (bn q104_5 (bl q168_8) bz)) (bn q56_2 (bn q88_4 (bl q152_7) bz) (bl q120_6)))) (bn q12_1 (bn q20_1 (bn q36_1 (bn q68_3 (bl q132_6) bz) (bn q100_4 (bl o164) bz)) (bn q52_2 (bn q84_4 (bl q148_7) bz) (bl q116_5))) (bn o28 (bn o44 (bn q76_3 (bl o140) bz) (bn q108_5 (bl q172_8) bz)) (bn q60_2 (bn q92_4 (bl q156_8) bz) (bl q124_6))))) (bn boot_o_6 (bn boot_o_10 (bn q18_1 (bn q34_1 (bn q66_3 (bl q130_6) bz) (bn q98_4 (bl o162) bz)) (bn o50 (bn q82_3 (bl q146_7) bz) (bn q114_5 (bl o178) bz))) (bn q26_1 (bn o42 (bn q74_3 (bl o138) bz) (bn q106_5 (bl q170_8) bz)) (bn q58_2 (bn q90_4 (bl q154_7) bz) (bl q122_6)))) (bn q14_0 (bn o22 (bn q38_1 (bn q70_3 (bl o134) bz) (bn q102_5 (bl q166_8) bz)) (bn o54 (bn q86_4 (bl q150_7) bz) (bl q118_5))) (bn o30 (bn q46_1 (bn q78_3 (bl q142_7) bz) (bn q110_5 (bl q174_9) bz)) (bn o62 (bn q94_4 (bl q158_8) bz) (bl q126_6)))))))
noncomputable def ss11 (w : World) (os : OsState) : SharedT := ⟨bt11 w.params, 179, life0, ⟨[]⟩, boot_drawn, 872, os⟩
noncomputable def q3_12 : Params → Obj := fun P => ⟨.type "dict", none, .dict #[⟨PyData.keyHash P (.ofString "__name__"), .str (.ofString "__name__") 165, .str (.ofString "perlcore.opcheck") 990⟩, ⟨PyData.keyHash P (.ofString "__doc__"), .str (.ofString "__doc__") 166, .none⟩, ⟨PyData.keyHash P (.ofString "__package__"), .str (.ofString "__package__") 167, .none⟩, ⟨PyData.keyHash P (.ofString "__loader__"), .str (.ofString "__loader__") 168, .builtin "__main__.__loader__#opaque"⟩, ⟨PyData.keyHash P (.ofString "__spec__"), .str (.ofString "__spec__") 169, .none⟩, ⟨PyData.keyHash P (.ofString "__annotations__"), .str (.ofString "__annotations__") 170, .ref 6⟩, ⟨PyData.keyHash P (.ofString "__builtins__"), .str (.ofString "__builtins__") 171, .ref 4⟩, ⟨PyData.keyHash P (.ofString "__file__"), .str (.ofString "__file__") 173, .str (.ofString "/claim/cut.py") 172⟩, ⟨PyData.keyHash P (.ofString "__cached__"), .str (.ofString "__cached__") 174, .none⟩, ⟨PyData.keyHash P (.ofString "PerlError"), .str (.ofString "PerlError") 217, .ref 31⟩, ⟨PyData.keyHash P (.ofString "BadOps"), .str (.ofString "BadOps") 233, .ref 44⟩, ⟨PyData.keyHash P (.ofString "VOID"), .str (.ofString "VOID") 237, .int 0 236⟩, ⟨PyData.keyHash P (.ofString "SHAPES"), .str (.ofString "SHAPES") 848, .ref 47⟩, ⟨PyData.keyHash P (.ofString "LEAVING"), .str (.ofString "LEAVING") 857, .ref 177⟩, ⟨PyData.keyHash P (.ofString "KEEPING"), .str (.ofString "KEEPING") 871, .ref 178⟩, ⟨PyData.keyHash P (.ofString "OpsCode"), .str (.ofString "OpsCode") 908, .ref 195⟩, ⟨PyData.keyHash P (.ofString "WeighedCode"), .str (.ofString "WeighedCode") 938, .ref 216⟩, ⟨PyData.keyHash P (.ofString "shape_of"), .str (.ofString "shape_of") 946, .ref 225⟩, ⟨PyData.keyHash P (.ofString "effect_of"), .str (.ofString "effect_of") 957, .ref 232⟩, ⟨PyData.keyHash P (.ofString "jumps_of"), .str (.ofString "jumps_of") 963, .ref 237⟩, ⟨PyData.keyHash P (.ofString "goes_on"), .str (.ofString "goes_on") 970, .ref 244⟩, ⟨PyData.keyHash P (.ofString "heights_at"), .str (.ofString "heights_at") 982, .ref 251⟩, ⟨PyData.keyHash P (.ofString "subs_used"), .str (.ofString "subs_used") 989, .ref 258⟩] 23, #[]⟩
noncomputable def q12_12 : Params → Obj := fun P => ⟨.none, none, .fields #[.int 2 0, .int 0 0, .ref 20, .int 7 0, .int 0 0, .ref 40, .int 14 0, .int 0 0, .ref 184, .int 22 0, .int 0 0, .ref 205, .int 27 0, .int 0 0, .ref 224, .int 34 0, .int 0 0, .ref 231, .int 44 0, .int 0 0, .ref 236, .int 47 0, .int 0 0, .ref 243, .int 49 0, .int 0 0, .ref 250, .int 58 0, .int 0 0, .ref 257], #[]⟩
noncomputable def q179_12 : Params → Obj := fun P => ⟨.type "tuple", none, .seq #[] 0, #[]⟩
noncomputable def q180_12 : Params → Obj := fun P => ⟨.type "builtin_function_or_method", none, .fields #[.builtin "type.__prepare__", .type "type"], #[]⟩
noncomputable def q181_12 : Params → Obj := fun P => ⟨.type "dict", none, .dict #[⟨PyData.keyHash P (.ofString "__module__"), .str (.ofString "__module__") 879, .str (.ofString "perlcore.ops") 234⟩, ⟨PyData.keyHash P (.ofString "__qualname__"), .str (.ofString "__qualname__") 881, .str (.ofString "OpsCode") 880⟩, ⟨PyData.keyHash P (.ofString "__firstlineno__"), .str (.ofString "__firstlineno__") 883, .int 14 882⟩, ⟨PyData.keyHash P (.ofString "__init__"), .str (.ofString "__init__") 895, .ref 192⟩, ⟨PyData.keyHash P (.ofString "__static_attributes__"), .str (.ofString "__static_attributes__") 901, .ref 193⟩] 5, #[]⟩
noncomputable def q182_12 : Params → Obj := fun P => ⟨.type "tuple", none, .seq #[] 0, #[]⟩
noncomputable def q183_12 : Params → Obj := fun P => ⟨.none, none, .fields #[.int 16 0, .int 4 0, .ref 191], #[]⟩
noncomputable def q184_12 : Params → Obj := fun P => ⟨.type "code", none, .fields #[.str (.ofString "OpsCode") 874, .str (.ofString "OpsCode") 875, .str (.ofString "/claim/cut.py") 876, .int 14 0, .int 0 0, .int 0 0, .int 0 0, .int 0 0, .ref 182, .bool false, .int 181 0, .ref 183, .none, .none, .none, .none, .int 877 0, .int 14 0, .str (.ofString "/claim/cut.py") 878], #[]⟩
noncomputable def q185_12 : Params → Obj := fun P => ⟨.type "frame", none, .plain, #[some (.ref 184), some (.ref 3), some (.ref 181), none, some (.str (.ofString "perlcore.ops") 234), none, some (.ref 0)]⟩
noncomputable def q187_12 : Params → Obj := fun P => ⟨.none, none, .fields #[], #[]⟩
noncomputable def q190_12 : Params → Obj := fun P => ⟨.none, none, .func ⟨(.ofString "__init__"), (.ofString "OpsCode.__init__"), fdP (cst 8 0), .stmts (fdB (cst 8 0)), fdS (cst 8 0), 0, [], .none, .none, .none, .none, none, .none, .none, 0⟩, #[]⟩
noncomputable def q198_12 : Params → Obj := fun P => ⟨.type "super", none, .fields #[.ref 195, .ref 195, .ref 195], #[]⟩
noncomputable def q199_12 : Params → Obj := fun P => ⟨.type "builtin_function_or_method", none, .fields #[.builtin "object.__init_subclass__", .ref 195], #[]⟩
noncomputable def q201_12 : Params → Obj := fun P => ⟨.type "builtin_function_or_method", none, .fields #[.builtin "type.__prepare__", .type "type"], #[]⟩
noncomputable def q202_12 : Params → Obj := fun P => ⟨.type "dict", none, .dict #[⟨PyData.keyHash P (.ofString "__module__"), .str (.ofString "__module__") 916, .str (.ofString "perlcore.ops") 234⟩, ⟨PyData.keyHash P (.ofString "__qualname__"), .str (.ofString "__qualname__") 918, .str (.ofString "WeighedCode") 917⟩, ⟨PyData.keyHash P (.ofString "__firstlineno__"), .str (.ofString "__firstlineno__") 920, .int 22 919⟩, ⟨PyData.keyHash P (.ofString "__init__"), .str (.ofString "__init__") 933, .ref 213⟩, ⟨PyData.keyHash P (.ofString "__static_attributes__"), .str (.ofString "__static_attributes__") 935, .ref 214⟩] 5, #[]⟩
noncomputable def q203_12 : Params → Obj := fun P => ⟨.type "tuple", none, .seq #[] 0, #[]⟩
noncomputable def q204_12 : Params → Obj := fun P => ⟨.none, none, .fields #[.int 24 0, .int 4 0, .ref 212], #[]⟩
noncomputable def q205_12 : Params → Obj := fun P => ⟨.type "code", none, .fields #[.str (.ofString "WeighedCode") 911, .str (.ofString "WeighedCode") 912, .str (.ofString "/claim/cut.py") 913, .int 22 0, .int 0 0, .int 0 0, .int 0 0, .int 0 0, .ref 203, .bool false, .int 181 0, .ref 204, .none, .none, .none, .none, .int 914 0, .int 22 0, .str (.ofString "/claim/cut.py") 915], #[]⟩
noncomputable def q206_12 : Params → Obj := fun P => ⟨.type "frame", none, .plain, #[some (.ref 205), some (.ref 3), some (.ref 202), none, some (.str (.ofString "perlcore.ops") 234), none, some (.ref 0)]⟩
noncomputable def q208_12 : Params → Obj := fun P => ⟨.none, none, .fields #[], #[]⟩
noncomputable def q211_12 : Params → Obj := fun P => ⟨.none, none, .func ⟨(.ofString "__init__"), (.ofString "WeighedCode.__init__"), fdP (cst 9 0), .stmts (fdB (cst 9 0)), fdS (cst 9 0), 0, [], .none, .none, .none, .none, none, .none, .none, 0⟩, #[]⟩
noncomputable def q217_12 : Params → Obj := fun P => ⟨.type "super", none, .fields #[.ref 216, .ref 216, .ref 216], #[]⟩
noncomputable def q218_12 : Params → Obj := fun P => ⟨.type "builtin_function_or_method", none, .fields #[.builtin "object.__init_subclass__", .ref 216], #[]⟩
noncomputable def q220_12 : Params → Obj := fun P => ⟨.none, none, .fields #[], #[]⟩
noncomputable def q223_12 : Params → Obj := fun P => ⟨.none, none, .func ⟨(.ofString "shape_of"), (.ofString "shape_of"), fdP (st 10), .stmts (fdB (st 10)), fdS (st 10), 0, [], .none, .none, .none, .none, none, .none, .none, 0⟩, #[]⟩
noncomputable def q227_12 : Params → Obj := fun P => ⟨.none, none, .fields #[], #[]⟩
noncomputable def q230_12 : Params → Obj := fun P => ⟨.none, none, .func ⟨(.ofString "effect_of"), (.ofString "effect_of"), fdP (st 11), .stmts (fdB (st 11)), fdS (st 11), 0, [], .none, .none, .none, .none, none, .none, .none, 0⟩, #[]⟩
noncomputable def q234_12 : Params → Obj := fun P => ⟨.none, none, .fields #[], #[]⟩
noncomputable def q235_12 : Params → Obj := fun P => ⟨.none, none, .func ⟨(.ofString "jumps_of"), (.ofString "jumps_of"), fdP (st 12), .stmts (fdB (st 12)), fdS (st 12), 0, [], .none, .none, .none, .none, none, .none, .none, 0⟩, #[]⟩
noncomputable def q239_12 : Params → Obj := fun P => ⟨.none, none, .fields #[], #[]⟩
noncomputable def q242_12 : Params → Obj := fun P => ⟨.none, none, .func ⟨(.ofString "goes_on"), (.ofString "goes_on"), fdP (st 13), .stmts (fdB (st 13)), fdS (st 13), 0, [], .none, .none, .none, .none, none, .none, .none, 0⟩, #[]⟩
noncomputable def q246_12 : Params → Obj := fun P => ⟨.none, none, .fields #[], #[]⟩
noncomputable def q249_12 : Params → Obj := fun P => ⟨.none, none, .func ⟨(.ofString "heights_at"), (.ofString "heights_at"), fdP (st 14), .stmts (fdB (st 14)), fdS (st 14), 0, [], .none, .none, .none, .none, none, .none, .none, 0⟩, #[]⟩
noncomputable def q253_12 : Params → Obj := fun P => ⟨.none, none, .fields #[], #[]⟩
noncomputable def q256_12 : Params → Obj := fun P => ⟨.none, none, .func ⟨(.ofString "subs_used"), (.ofString "subs_used"), fdP (st 15), .stmts (fdB (st 15)), fdS (st 15), 0, [], .none, .none, .none, .none, none, .none, .none, 0⟩, #[]⟩
noncomputable def bt12 : Params → BT := (bn boot_o_0 (bn boot_o_1 (bn q3_12 (bn boot_o_7 (bn o15 (bn o31 (bn o63 (bn o127 (bl o255) bz) (bl o191)) (bn q95_4 (bl q159_8) (bl q223_12))) (bn o47 (bn q79_3 (bl q143_7) (bl o207)) (bn q111_5 (bl q175_9) (bl q239_12)))) (bn q23_1 (bn q39_1 (bn q71_3 (bl q135_6) (bl q199_12)) (bn q103_5 (bl q167_8) (bl o231))) (bn q55_2 (bn q87_4 (bl q151_7) (bl o215)) (bn q119_6 (bl q183_12) (bl o247))))) (bn q11_0 (bn q19_1 (bn o35 (bn q67_3 (bl q131_6) (bl o195)) (bn o99 (bl q163_8) (bl q227_12))) (bn q51_2 (bn q83_4 (bl q147_7) (bl q211_12)) (bn q115_5 (bl q179_12) (bl o243)))) (bn o27 (bn o43 (bn q75_3 (bl q139_7) (bl q203_12)) (bn q107_5 (bl q171_8) (bl q235_12))) (bn q59_2 (bn q91_4 (bl q155_8) (bl o219)) (bn q123_6 (bl q187_12) (bl o251)))))) (bn boot_o_5 (bn boot_o_9 (bn q17_1 (bn q33_1 (bn q65_3 (bn q129_6 (bl o257) bz) (bl o193)) (bn q97_4 (bl o161) (bl o225))) (bn o49 (bn q81_3 (bl q145_7) (bl o209)) (bn q113_5 (bl o177) (bl o241)))) (bn o25 (bn q41_1 (bn q73_3 (bl q137_7) (bl q201_12)) (bn q105_5 (bl q169_8) (bl o233))) (bn q57_2 (bn q89_4 (bl q153_7) (bl q217_12)) (bn q121_6 (bl q185_12) (bl q249_12))))) (bn q13_0 (bn q21_1 (bn q37_1 (bn q69_3 (bl q133_6) (bl o197)) (bn q101_5 (bl q165_8) (bl o229))) (bn q53_2 (bn q85_4 (bl q149_7) (bl o213)) (bn q117_5 (bl q181_12) (bl o245)))) (bn o29 (bn q45_1 (bn q77_3 (bl o141) (bl q205_12)) (bn q109_5 (bl q173_9) (bl o237))) (bn q61_2 (bn q93_4 (bl q157_8) (bl o221)) (bn q125_6 (bl o189) (bl q253_12))))))) (bn o2 (bn boot_o_4 (bn boot_o_8 (bn q16_1 (bn o32 (bn q64_2 (bn o128 (bl q256_12) bz) (bl o192)) (bn q96_4 (bl q160_8) (bl o224))) (bn o48 (bn q80_3 (bl q144_7) (bl q208_12)) (bn q112_5 (bl q176_9) (bl o240)))) (bn o24 (bn q40_1 (bn q72_3 (bl q136_6) (bl o200)) (bn q104_5 (bl q168_8) (bl o232))) (bn q56_2 (bn q88_4 (bl q152_7) (bl o216)) (bn q120_6 (bl q184_12) (bl o248))))) (bn q12_12 (bn q20_1 (bn q36_1 (bn q68_3 (bl q132_6) (bl o196)) (bn q100_4 (bl o164) (bl o228))) (bn q52_2 (bn q84_4 (bl q148_7) (bl o212)) (bn q116_5 (bl q180_12) (bl o244)))) (bn o28 (bn o44 (bn q76_3 (bl o140) (bl q204_12)) (bn q108_5 (bl q172_8) (bl o236))) (bn q60_2 (bn q92_4 (bl q156_8) (bl q220_12)) (bn q124_6 (bl o188) (bl o252)))))) (bn boot_o_6 (bn boot_o_10 (bn q18_1 (bn q34_1 (bn q66_3 (bn q130_6 (bl o258) bz) (bl o194)) (bn q98_4 (bl o162) (bl o226))) (bn o50 (bn q82_3 (bl q146_7) (bl o210)) (bn q114_5 (bl o178) (bl q242_12)))) (bn q26_1 (bn o42 (bn q74_3 (bl o138) (bl q202_12)) (bn q106_5 (bl q170_8) (bl q234_12))) (bn q58_2 (bn q90_4 (bl q154_7) (bl q218_12)) (bn q122_6 (bl o186) (bl o250))))) (bn q14_0 (bn o22 (bn q38_1 (bn q70_3 (bl o134) (bl q198_12)) (bn q102_5 (bl q166_8) (bl q230_12))) (bn o54 (bn q86_4 (bl q150_7) (bl o214)) (bn q118_5 (bl q182_12) (bl q246_12)))) (bn o30 (bn q46_1 (bn q78_3 (bl q142_7) (bl q206_12)) (bn q110_5 (bl q174_9) (bl o238))) (bn o62 (bn q94_4 (bl q158_8) (bl o222)) (bn q126_6 (bl q190_12) (bl o254))))))))
noncomputable def ss12 (w : World) (os : OsState) : SharedT := ⟨bt12 w.params, 259, life0, ⟨[]⟩, boot_drawn, 992, os⟩
noncomputable def q3_13 : Params → Obj := fun P => ⟨.type "dict", none, .dict #[⟨PyData.keyHash P (.ofString "__name__"), .str (.ofString "__name__") 165, .str (.ofString "perlcore.opcheck") 990⟩, ⟨PyData.keyHash P (.ofString "__doc__"), .str (.ofString "__doc__") 166, .none⟩, ⟨PyData.keyHash P (.ofString "__package__"), .str (.ofString "__package__") 167, .none⟩, ⟨PyData.keyHash P (.ofString "__loader__"), .str (.ofString "__loader__") 168, .builtin "__main__.__loader__#opaque"⟩, ⟨PyData.keyHash P (.ofString "__spec__"), .str (.ofString "__spec__") 169, .none⟩, ⟨PyData.keyHash P (.ofString "__annotations__"), .str (.ofString "__annotations__") 170, .ref 6⟩, ⟨PyData.keyHash P (.ofString "__builtins__"), .str (.ofString "__builtins__") 171, .ref 4⟩, ⟨PyData.keyHash P (.ofString "__file__"), .str (.ofString "__file__") 173, .str (.ofString "/claim/cut.py") 172⟩, ⟨PyData.keyHash P (.ofString "__cached__"), .str (.ofString "__cached__") 174, .none⟩, ⟨PyData.keyHash P (.ofString "PerlError"), .str (.ofString "PerlError") 217, .ref 31⟩, ⟨PyData.keyHash P (.ofString "BadOps"), .str (.ofString "BadOps") 233, .ref 44⟩, ⟨PyData.keyHash P (.ofString "VOID"), .str (.ofString "VOID") 237, .int 0 236⟩, ⟨PyData.keyHash P (.ofString "SHAPES"), .str (.ofString "SHAPES") 848, .ref 47⟩, ⟨PyData.keyHash P (.ofString "LEAVING"), .str (.ofString "LEAVING") 857, .ref 177⟩, ⟨PyData.keyHash P (.ofString "KEEPING"), .str (.ofString "KEEPING") 871, .ref 178⟩, ⟨PyData.keyHash P (.ofString "OpsCode"), .str (.ofString "OpsCode") 908, .ref 195⟩, ⟨PyData.keyHash P (.ofString "WeighedCode"), .str (.ofString "WeighedCode") 938, .ref 216⟩, ⟨PyData.keyHash P (.ofString "shape_of"), .str (.ofString "shape_of") 946, .ref 225⟩, ⟨PyData.keyHash P (.ofString "effect_of"), .str (.ofString "effect_of") 957, .ref 232⟩, ⟨PyData.keyHash P (.ofString "jumps_of"), .str (.ofString "jumps_of") 963, .ref 237⟩, ⟨PyData.keyHash P (.ofString "goes_on"), .str (.ofString "goes_on") 970, .ref 244⟩, ⟨PyData.keyHash P (.ofString "heights_at"), .str (.ofString "heights_at") 982, .ref 251⟩, ⟨PyData.keyHash P (.ofString "subs_used"), .str (.ofString "subs_used") 989, .ref 258⟩, ⟨PyData.keyHash P (.ofString "SLOTS"), .str (.ofString "SLOTS") 1001, .ref 259⟩, ⟨PyData.keyHash P (.ofString "CODES"), .str (.ofString "CODES") 1023, .ref 260⟩] 25, #[]⟩
noncomputable def bt13 : Params → BT := (bn boot_o_0 (bn boot_o_1 (bn q3_13 (bn boot_o_7 (bn o15 (bn o31 (bn o63 (bn o127 (bl o255) bz) (bl o191)) (bn q95_4 (bl q159_8) (bl q223_12))) (bn o47 (bn q79_3 (bl q143_7) (bl o207)) (bn q111_5 (bl q175_9) (bl q239_12)))) (bn q23_1 (bn q39_1 (bn q71_3 (bl q135_6) (bl q199_12)) (bn q103_5 (bl q167_8) (bl o231))) (bn q55_2 (bn q87_4 (bl q151_7) (bl o215)) (bn q119_6 (bl q183_12) (bl o247))))) (bn q11_0 (bn q19_1 (bn o35 (bn q67_3 (bn q131_6 (bl o259) bz) (bl o195)) (bn o99 (bl q163_8) (bl q227_12))) (bn q51_2 (bn q83_4 (bl q147_7) (bl q211_12)) (bn q115_5 (bl q179_12) (bl o243)))) (bn o27 (bn o43 (bn q75_3 (bl q139_7) (bl q203_12)) (bn q107_5 (bl q171_8) (bl q235_12))) (bn q59_2 (bn q91_4 (bl q155_8) (bl o219)) (bn q123_6 (bl q187_12) (bl o251)))))) (bn boot_o_5 (bn boot_o_9 (bn q17_1 (bn q33_1 (bn q65_3 (bn q129_6 (bl o257) bz) (bl o193)) (bn q97_4 (bl o161) (bl o225))) (bn o49 (bn q81_3 (bl q145_7) (bl o209)) (bn q113_5 (bl o177) (bl o241)))) (bn o25 (bn q41_1 (bn q73_3 (bl q137_7) (bl q201_12)) (bn q105_5 (bl q169_8) (bl o233))) (bn q57_2 (bn q89_4 (bl q153_7) (bl q217_12)) (bn q121_6 (bl q185_12) (bl q249_12))))) (bn q13_0 (bn q21_1 (bn q37_1 (bn q69_3 (bl q133_6) (bl o197)) (bn q101_5 (bl q165_8) (bl o229))) (bn q53_2 (bn q85_4 (bl q149_7) (bl o213)) (bn q117_5 (bl q181_12) (bl o245)))) (bn o29 (bn q45_1 (bn q77_3 (bl o141) (bl q205_12)) (bn q109_5 (bl q173_9) (bl o237))) (bn q61_2 (bn q93_4 (bl q157_8) (bl o221)) (bn q125_6 (bl o189) (bl q253_12))))))) (bn o2 (bn boot_o_4 (bn boot_o_8 (bn q16_1 (bn o32 (bn q64_2 (bn o128 (bl q256_12) bz) (bl o192)) (bn q96_4 (bl q160_8) (bl o224))) (bn o48 (bn q80_3 (bl q144_7) (bl q208_12)) (bn q112_5 (bl q176_9) (bl o240)))) (bn o24 (bn q40_1 (bn q72_3 (bl q136_6) (bl o200)) (bn q104_5 (bl q168_8) (bl o232))) (bn q56_2 (bn q88_4 (bl q152_7) (bl o216)) (bn q120_6 (bl q184_12) (bl o248))))) (bn q12_12 (bn q20_1 (bn q36_1 (bn q68_3 (bn q132_6 (bl o260) bz) (bl o196)) (bn q100_4 (bl o164) (bl o228))) (bn q52_2 (bn q84_4 (bl q148_7) (bl o212)) (bn q116_5 (bl q180_12) (bl o244)))) (bn o28 (bn o44 (bn q76_3 (bl o140) (bl q204_12)) (bn q108_5 (bl q172_8) (bl o236))) (bn q60_2 (bn q92_4 (bl q156_8) (bl q220_12)) (bn q124_6 (bl o188) (bl o252)))))) (bn boot_o_6 (bn boot_o_10 (bn q18_1 (bn q34_1 (bn q66_3 (bn q130_6 (bl o258) bz) (bl o194)) (bn q98_4 (bl o162) (bl o226))) (bn o50 (bn q82_3 (bl q146_7) (bl o210)) (bn q114_5 (bl o178) (bl q242_12)))) (bn q26_1 (bn o42 (bn q74_3 (bl o138) (bl q202_12)) (bn q106_5 (bl q170_8) (bl q234_12))) (bn q58_2 (bn q90_4 (bl q154_7) (bl q218_12)) (bn q122_6 (bl o186) (bl o250))))) (bn q14_0 (bn o22 (bn q38_1 (bn q70_3 (bl o134) (bl q198_12)) (bn q102_5 (bl q166_8) (bl q230_12))) (bn o54 (bn q86_4 (bl q150_7) (bl o214)) (bn q118_5 (bl q182_12) (bl q246_12)))) (bn o30 (bn q46_1 (bn q78_3 (bl q142_7) (bl q206_12)) (bn q110_5 (bl q174_9) (bl o238))) (bn o62 (bn q94_4 (bl q158_8) (bl o222)) (bn q126_6 (bl q190_12) (bl o254))))))))
noncomputable def ss13 (w : World) (os : OsState) : SharedT := ⟨bt13 w.params, 261, life0, ⟨[]⟩, boot_drawn, 1024, os⟩
noncomputable def q3_14 : Params → Obj := fun P => ⟨.type "dict", none, .dict #[⟨PyData.keyHash P (.ofString "__name__"), .str (.ofString "__name__") 165, .str (.ofString "law_qz0086_01") 1084⟩, ⟨PyData.keyHash P (.ofString "__doc__"), .str (.ofString "__doc__") 166, .none⟩, ⟨PyData.keyHash P (.ofString "__package__"), .str (.ofString "__package__") 167, .none⟩, ⟨PyData.keyHash P (.ofString "__loader__"), .str (.ofString "__loader__") 168, .builtin "__main__.__loader__#opaque"⟩, ⟨PyData.keyHash P (.ofString "__spec__"), .str (.ofString "__spec__") 169, .none⟩, ⟨PyData.keyHash P (.ofString "__annotations__"), .str (.ofString "__annotations__") 170, .ref 6⟩, ⟨PyData.keyHash P (.ofString "__builtins__"), .str (.ofString "__builtins__") 171, .ref 4⟩, ⟨PyData.keyHash P (.ofString "__file__"), .str (.ofString "__file__") 173, .str (.ofString "/claim/cut.py") 172⟩, ⟨PyData.keyHash P (.ofString "__cached__"), .str (.ofString "__cached__") 174, .none⟩, ⟨PyData.keyHash P (.ofString "PerlError"), .str (.ofString "PerlError") 217, .ref 31⟩, ⟨PyData.keyHash P (.ofString "BadOps"), .str (.ofString "BadOps") 233, .ref 44⟩, ⟨PyData.keyHash P (.ofString "VOID"), .str (.ofString "VOID") 237, .int 0 236⟩, ⟨PyData.keyHash P (.ofString "SHAPES"), .str (.ofString "SHAPES") 848, .ref 47⟩, ⟨PyData.keyHash P (.ofString "LEAVING"), .str (.ofString "LEAVING") 857, .ref 177⟩, ⟨PyData.keyHash P (.ofString "KEEPING"), .str (.ofString "KEEPING") 871, .ref 178⟩, ⟨PyData.keyHash P (.ofString "OpsCode"), .str (.ofString "OpsCode") 908, .ref 195⟩, ⟨PyData.keyHash P (.ofString "WeighedCode"), .str (.ofString "WeighedCode") 938, .ref 216⟩, ⟨PyData.keyHash P (.ofString "shape_of"), .str (.ofString "shape_of") 946, .ref 225⟩, ⟨PyData.keyHash P (.ofString "effect_of"), .str (.ofString "effect_of") 957, .ref 232⟩, ⟨PyData.keyHash P (.ofString "jumps_of"), .str (.ofString "jumps_of") 963, .ref 237⟩, ⟨PyData.keyHash P (.ofString "goes_on"), .str (.ofString "goes_on") 970, .ref 244⟩, ⟨PyData.keyHash P (.ofString "heights_at"), .str (.ofString "heights_at") 982, .ref 251⟩, ⟨PyData.keyHash P (.ofString "subs_used"), .str (.ofString "subs_used") 989, .ref 258⟩, ⟨PyData.keyHash P (.ofString "SLOTS"), .str (.ofString "SLOTS") 1001, .ref 259⟩, ⟨PyData.keyHash P (.ofString "CODES"), .str (.ofString "CODES") 1023, .ref 260⟩, ⟨PyData.keyHash P (.ofString "MAKERS"), .str (.ofString "MAKERS") 1026, .ref 261⟩, ⟨PyData.keyHash P (.ofString "need_number"), .str (.ofString "need_number") 1033, .ref 268⟩, ⟨PyData.keyHash P (.ofString "check_numbers"), .str (.ofString "check_numbers") 1043, .ref 275⟩, ⟨PyData.keyHash P (.ofString "check_row"), .str (.ofString "check_row") 1057, .ref 282⟩, ⟨PyData.keyHash P (.ofString "heights_of"), .str (.ofString "heights_of") 1070, .ref 289⟩, ⟨PyData.keyHash P (.ofString "check_on_pad"), .str (.ofString "check_on_pad") 1076, .ref 294⟩, ⟨PyData.keyHash P (.ofString "check_code"), .str (.ofString "check_code") 1083, .ref 301⟩] 32, #[]⟩
noncomputable def q12_14 : Params → Obj := fun P => ⟨.none, none, .fields #[.int 2 0, .int 0 0, .ref 20, .int 7 0, .int 0 0, .ref 40, .int 14 0, .int 0 0, .ref 184, .int 22 0, .int 0 0, .ref 205, .int 27 0, .int 0 0, .ref 224, .int 34 0, .int 0 0, .ref 231, .int 44 0, .int 0 0, .ref 236, .int 47 0, .int 0 0, .ref 243, .int 49 0, .int 0 0, .ref 250, .int 58 0, .int 0 0, .ref 257, .int 70 0, .int 0 0, .ref 267, .int 73 0, .int 0 0, .ref 274, .int 81 0, .int 0 0, .ref 281, .int 94 0, .int 0 0, .ref 288, .int 109 0, .int 0 0, .ref 293, .int 120 0, .int 0 0, .ref 300], #[]⟩
noncomputable def q263_14 : Params → Obj := fun P => ⟨.none, none, .fields #[], #[]⟩
noncomputable def q266_14 : Params → Obj := fun P => ⟨.none, none, .func ⟨(.ofString "need_number"), (.ofString "need_number"), fdP (st 20), .stmts (fdB (st 20)), fdS (st 20), 0, [], .none, .none, .none, .none, none, .none, .none, 0⟩, #[]⟩
noncomputable def q270_14 : Params → Obj := fun P => ⟨.none, none, .fields #[], #[]⟩
noncomputable def q273_14 : Params → Obj := fun P => ⟨.none, none, .func ⟨(.ofString "check_numbers"), (.ofString "check_numbers"), fdP (st 21), .stmts (fdB (st 21)), fdS (st 21), 0, [], .none, .none, .none, .none, none, .none, .none, 0⟩, #[]⟩
noncomputable def q277_14 : Params → Obj := fun P => ⟨.none, none, .fields #[], #[]⟩
noncomputable def q280_14 : Params → Obj := fun P => ⟨.none, none, .func ⟨(.ofString "check_row"), (.ofString "check_row"), fdP (st 22), .stmts (fdB (st 22)), fdS (st 22), 0, [], .none, .none, .none, .none, none, .none, .none, 0⟩, #[]⟩
noncomputable def q284_14 : Params → Obj := fun P => ⟨.none, none, .fields #[], #[]⟩
noncomputable def q287_14 : Params → Obj := fun P => ⟨.none, none, .func ⟨(.ofString "heights_of"), (.ofString "heights_of"), fdP (st 23), .stmts (fdB (st 23)), fdS (st 23), 0, [], .none, .none, .none, .none, none, .none, .none, 0⟩, #[]⟩
noncomputable def q291_14 : Params → Obj := fun P => ⟨.none, none, .fields #[], #[]⟩
noncomputable def q292_14 : Params → Obj := fun P => ⟨.none, none, .func ⟨(.ofString "check_on_pad"), (.ofString "check_on_pad"), fdP (st 24), .stmts (fdB (st 24)), fdS (st 24), 0, [], .none, .none, .none, .none, none, .none, .none, 0⟩, #[]⟩
noncomputable def q296_14 : Params → Obj := fun P => ⟨.none, none, .fields #[], #[]⟩
noncomputable def q299_14 : Params → Obj := fun P => ⟨.none, none, .func ⟨(.ofString "check_code"), (.ofString "check_code"), fdP (st 25), .stmts (fdB (st 25)), fdS (st 25), 0, [], .none, .none, .none, .none, none, .none, .none, 0⟩, #[]⟩
noncomputable def bt14 : Params → BT := (bn boot_o_0 (bn boot_o_1 (bn q3_14 (bn boot_o_7 (bn o15 (bn o31 (bn o63 (bn o127 (bl o255) bz) (bl o191)) (bn q95_4 (bn q159_8 (bl q287_14) bz) (bl q223_12))) (bn o47 (bn q79_3 (bn q143_7 (bl o271) bz) (bl o207)) (bn q111_5 (bl q175_9) (bl q239_12)))) (bn q23_1 (bn q39_1 (bn q71_3 (bn q135_6 (bl q263_14) bz) (bl q199_12)) (bn q103_5 (bn q167_8 (bl o295) bz) (bl o231))) (bn q55_2 (bn q87_4 (bn q151_7 (bl o279) bz) (bl o215)) (bn q119_6 (bl q183_12) (bl o247))))) (bn q11_0 (bn q19_1 (bn o35 (bn q67_3 (bn q131_6 (bl o259) bz) (bl o195)) (bn o99 (bn q163_8 (bl q291_14) bz) (bl q227_12))) (bn q51_2 (bn q83_4 (bn q147_7 (bl o275) bz) (bl q211_12)) (bn q115_5 (bl q179_12) (bl o243)))) (bn o27 (bn o43 (bn q75_3 (bn q139_7 (bl o267) bz) (bl q203_12)) (bn q107_5 (bn q171_8 (bl q299_14) bz) (bl q235_12))) (bn q59_2 (bn q91_4 (bn q155_8 (bl o283) bz) (bl o219)) (bn q123_6 (bl q187_12) (bl o251)))))) (bn boot_o_5 (bn boot_o_9 (bn q17_1 (bn q33_1 (bn q65_3 (bn q129_6 (bl o257) bz) (bl o193)) (bn q97_4 (bn o161 (bl o289) bz) (bl o225))) (bn o49 (bn q81_3 (bn q145_7 (bl q273_14) bz) (bl o209)) (bn q113_5 (bl o177) (bl o241)))) (bn o25 (bn q41_1 (bn q73_3 (bn q137_7 (bl o265) bz) (bl q201_12)) (bn q105_5 (bn q169_8 (bl o297) bz) (bl o233))) (bn q57_2 (bn q89_4 (bn q153_7 (bl o281) bz) (bl q217_12)) (bn q121_6 (bl q185_12) (bl q249_12))))) (bn q13_0 (bn q21_1 (bn q37_1 (bn q69_3 (bn q133_6 (bl o261) bz) (bl o197)) (bn q101_5 (bn q165_8 (bl o293) bz) (bl o229))) (bn q53_2 (bn q85_4 (bn q149_7 (bl q277_14) bz) (bl o213)) (bn q117_5 (bl q181_12) (bl o245)))) (bn o29 (bn q45_1 (bn q77_3 (bn o141 (bl o269) bz) (bl q205_12)) (bn q109_5 (bn q173_9 (bl o301) bz) (bl o237))) (bn q61_2 (bn q93_4 (bn q157_8 (bl o285) bz) (bl o221)) (bn q125_6 (bl o189) (bl q253_12))))))) (bn o2 (bn boot_o_4 (bn boot_o_8 (bn q16_1 (bn o32 (bn q64_2 (bn o128 (bl q256_12) bz) (bl o192)) (bn q96_4 (bn q160_8 (bl o288) bz) (bl o224))) (bn o48 (bn q80_3 (bn q144_7 (bl o272) bz) (bl q208_12)) (bn q112_5 (bl q176_9) (bl o240)))) (bn o24 (bn q40_1 (bn q72_3 (bn q136_6 (bl o264) bz) (bl o200)) (bn q104_5 (bn q168_8 (bl q296_14) bz) (bl o232))) (bn q56_2 (bn q88_4 (bn q152_7 (bl q280_14) bz) (bl o216)) (bn q120_6 (bl q184_12) (bl o248))))) (bn q12_14 (bn q20_1 (bn q36_1 (bn q68_3 (bn q132_6 (bl o260) bz) (bl o196)) (bn q100_4 (bn o164 (bl q292_14) bz) (bl o228))) (bn q52_2 (bn q84_4 (bn q148_7 (bl o276) bz) (bl o212)) (bn q116_5 (bl q180_12) (bl o244)))) (bn o28 (bn o44 (bn q76_3 (bn o140 (bl o268) bz) (bl q204_12)) (bn q108_5 (bn q172_8 (bl o300) bz) (bl o236))) (bn q60_2 (bn q92_4 (bn q156_8 (bl q284_14) bz) (bl q220_12)) (bn q124_6 (bl o188) (bl o252)))))) (bn boot_o_6 (bn boot_o_10 (bn q18_1 (bn q34_1 (bn q66_3 (bn q130_6 (bl o258) bz) (bl o194)) (bn q98_4 (bn o162 (bl o290) bz) (bl o226))) (bn o50 (bn q82_3 (bn q146_7 (bl o274) bz) (bl o210)) (bn q114_5 (bl o178) (bl q242_12)))) (bn q26_1 (bn o42 (bn q74_3 (bn o138 (bl q266_14) bz) (bl q202_12)) (bn q106_5 (bn q170_8 (bl o298) bz) (bl q234_12))) (bn q58_2 (bn q90_4 (bn q154_7 (bl o282) bz) (bl q218_12)) (bn q122_6 (bl o186) (bl o250))))) (bn q14_0 (bn o22 (bn q38_1 (bn q70_3 (bn o134 (bl o262) bz) (bl q198_12)) (bn q102_5 (bn q166_8 (bl o294) bz) (bl q230_12))) (bn o54 (bn q86_4 (bn q150_7 (bl o278) bz) (bl o214)) (bn q118_5 (bl q182_12) (bl q246_12)))) (bn o30 (bn q46_1 (bn q78_3 (bn q142_7 (bl q270_14) bz) (bl q206_12)) (bn q110_5 (bl q174_9) (bl o238))) (bn o62 (bn q94_4 (bn q158_8 (bl o286) bz) (bl o222)) (bn q126_6 (bl q190_12) (bl o254))))))))
noncomputable def ss14 (w : World) (os : OsState) : SharedT := ⟨bt14 w.params, 302, life0, ⟨[]⟩, boot_drawn, 1086, os⟩
noncomputable def q3_15 : Params → Obj := fun P => ⟨.type "dict", none, .dict #[⟨PyData.keyHash P (.ofString "__name__"), .str (.ofString "__name__") 165, .str (.ofString "law_qz0086_01") 1084⟩, ⟨PyData.keyHash P (.ofString "__doc__"), .str (.ofString "__doc__") 166, .none⟩, ⟨PyData.keyHash P (.ofString "__package__"), .str (.ofString "__package__") 167, .none⟩, ⟨PyData.keyHash P (.ofString "__loader__"), .str (.ofString "__loader__") 168, .builtin "__main__.__loader__#opaque"⟩, ⟨PyData.keyHash P (.ofString "__spec__"), .str (.ofString "__spec__") 169, .none⟩, ⟨PyData.keyHash P (.ofString "__annotations__"), .str (.ofString "__annotations__") 170, .ref 6⟩, ⟨PyData.keyHash P (.ofString "__builtins__"), .str (.ofString "__builtins__") 171, .ref 4⟩, ⟨PyData.keyHash P (.ofString "__file__"), .str (.ofString "__file__") 173, .str (.ofString "/claim/cut.py") 172⟩, ⟨PyData.keyHash P (.ofString "__cached__"), .str (.ofString "__cached__") 174, .none⟩, ⟨PyData.keyHash P (.ofString "PerlError"), .str (.ofString "PerlError") 217, .ref 31⟩, ⟨PyData.keyHash P (.ofString "BadOps"), .str (.ofString "BadOps") 233, .ref 44⟩, ⟨PyData.keyHash P (.ofString "VOID"), .str (.ofString "VOID") 237, .int 0 236⟩, ⟨PyData.keyHash P (.ofString "SHAPES"), .str (.ofString "SHAPES") 848, .ref 47⟩, ⟨PyData.keyHash P (.ofString "LEAVING"), .str (.ofString "LEAVING") 857, .ref 177⟩, ⟨PyData.keyHash P (.ofString "KEEPING"), .str (.ofString "KEEPING") 871, .ref 178⟩, ⟨PyData.keyHash P (.ofString "OpsCode"), .str (.ofString "OpsCode") 908, .ref 195⟩, ⟨PyData.keyHash P (.ofString "WeighedCode"), .str (.ofString "WeighedCode") 938, .ref 216⟩, ⟨PyData.keyHash P (.ofString "shape_of"), .str (.ofString "shape_of") 946, .ref 225⟩, ⟨PyData.keyHash P (.ofString "effect_of"), .str (.ofString "effect_of") 957, .ref 232⟩, ⟨PyData.keyHash P (.ofString "jumps_of"), .str (.ofString "jumps_of") 963, .ref 237⟩, ⟨PyData.keyHash P (.ofString "goes_on"), .str (.ofString "goes_on") 970, .ref 244⟩, ⟨PyData.keyHash P (.ofString "heights_at"), .str (.ofString "heights_at") 982, .ref 251⟩, ⟨PyData.keyHash P (.ofString "subs_used"), .str (.ofString "subs_used") 989, .ref 258⟩, ⟨PyData.keyHash P (.ofString "SLOTS"), .str (.ofString "SLOTS") 1001, .ref 259⟩, ⟨PyData.keyHash P (.ofString "CODES"), .str (.ofString "CODES") 1023, .ref 260⟩, ⟨PyData.keyHash P (.ofString "MAKERS"), .str (.ofString "MAKERS") 1026, .ref 261⟩, ⟨PyData.keyHash P (.ofString "need_number"), .str (.ofString "need_number") 1033, .ref 268⟩, ⟨PyData.keyHash P (.ofString "check_numbers"), .str (.ofString "check_numbers") 1043, .ref 275⟩, ⟨PyData.keyHash P (.ofString "check_row"), .str (.ofString "check_row") 1057, .ref 282⟩, ⟨PyData.keyHash P (.ofString "heights_of"), .str (.ofString "heights_of") 1070, .ref 289⟩, ⟨PyData.keyHash P (.ofString "check_on_pad"), .str (.ofString "check_on_pad") 1076, .ref 294⟩, ⟨PyData.keyHash P (.ofString "check_code"), .str (.ofString "check_code") 1083, .ref 301⟩, ⟨PyData.keyHash P (.ofString "_law_places"), .str (.ofString "_law_places") 1122, .ref 302⟩] 33, #[]⟩
noncomputable def bt15 : Params → BT := (bn boot_o_0 (bn boot_o_1 (bn q3_15 (bn boot_o_7 (bn o15 (bn o31 (bn o63 (bn o127 (bl o255) bz) (bl o191)) (bn q95_4 (bn q159_8 (bl q287_14) bz) (bl q223_12))) (bn o47 (bn q79_3 (bn q143_7 (bl o271) bz) (bl o207)) (bn q111_5 (bn q175_9 (bl o303) bz) (bl q239_12)))) (bn q23_1 (bn q39_1 (bn q71_3 (bn q135_6 (bl q263_14) bz) (bl q199_12)) (bn q103_5 (bn q167_8 (bl o295) bz) (bl o231))) (bn q55_2 (bn q87_4 (bn q151_7 (bl o279) bz) (bl o215)) (bn q119_6 (bn q183_12 (bl o311) bz) (bl o247))))) (bn q11_0 (bn q19_1 (bn o35 (bn q67_3 (bn q131_6 (bl o259) bz) (bl o195)) (bn o99 (bn q163_8 (bl q291_14) bz) (bl q227_12))) (bn q51_2 (bn q83_4 (bn q147_7 (bl o275) bz) (bl q211_12)) (bn q115_5 (bn q179_12 (bl o307) bz) (bl o243)))) (bn o27 (bn o43 (bn q75_3 (bn q139_7 (bl o267) bz) (bl q203_12)) (bn q107_5 (bn q171_8 (bl q299_14) bz) (bl q235_12))) (bn q59_2 (bn q91_4 (bn q155_8 (bl o283) bz) (bl o219)) (bn q123_6 (bl q187_12) (bl o251)))))) (bn boot_o_5 (bn boot_o_9 (bn q17_1 (bn q33_1 (bn q65_3 (bn q129_6 (bl o257) bz) (bl o193)) (bn q97_4 (bn o161 (bl o289) bz) (bl o225))) (bn o49 (bn q81_3 (bn q145_7 (bl q273_14) bz) (bl o209)) (bn q113_5 (bn o177 (bl o305) bz) (bl o241)))) (bn o25 (bn q41_1 (bn q73_3 (bn q137_7 (bl o265) bz) (bl q201_12)) (bn q105_5 (bn q169_8 (bl o297) bz) (bl o233))) (bn q57_2 (bn q89_4 (bn q153_7 (bl o281) bz) (bl q217_12)) (bn q121_6 (bn q185_12 (bl o313) bz) (bl q249_12))))) (bn q13_0 (bn q21_1 (bn q37_1 (bn q69_3 (bn q133_6 (bl o261) bz) (bl o197)) (bn q101_5 (bn q165_8 (bl o293) bz) (bl o229))) (bn q53_2 (bn q85_4 (bn q149_7 (bl q277_14) bz) (bl o213)) (bn q117_5 (bn q181_12 (bl o309) bz) (bl o245)))) (bn o29 (bn q45_1 (bn q77_3 (bn o141 (bl o269) bz) (bl q205_12)) (bn q109_5 (bn q173_9 (bl o301) bz) (bl o237))) (bn q61_2 (bn q93_4 (bn q157_8 (bl o285) bz) (bl o221)) (bn q125_6 (bl o189) (bl q253_12))))))) (bn o2 (bn boot_o_4 (bn boot_o_8 (bn q16_1 (bn o32 (bn q64_2 (bn o128 (bl q256_12) bz) (bl o192)) (bn q96_4 (bn q160_8 (bl o288) bz) (bl o224))) (bn o48 (bn q80_3 (bn q144_7 (bl o272) bz) (bl q208_12)) (bn q112_5 (bn q176_9 (bl o304) bz) (bl o240)))) (bn o24 (bn q40_1 (bn q72_3 (bn q136_6 (bl o264) bz) (bl o200)) (bn q104_5 (bn q168_8 (bl q296_14) bz) (bl o232))) (bn q56_2 (bn q88_4 (bn q152_7 (bl q280_14) bz) (bl o216)) (bn q120_6 (bn q184_12 (bl o312) bz) (bl o248))))) (bn q12_14 (bn q20_1 (bn q36_1 (bn q68_3 (bn q132_6 (bl o260) bz) (bl o196)) (bn q100_4 (bn o164 (bl q292_14) bz) (bl o228))) (bn q52_2 (bn q84_4 (bn q148_7 (bl o276) bz) (bl o212)) (bn q116_5 (bn q180_12 (bl o308) bz) (bl o244)))) (bn o28 (bn o44 (bn q76_3 (bn o140 (bl o268) bz) (bl q204_12)) (bn q108_5 (bn q172_8 (bl o300) bz) (bl o236))) (bn q60_2 (bn q92_4 (bn q156_8 (bl q284_14) bz) (bl q220_12)) (bn q124_6 (bl o188) (bl o252)))))) (bn boot_o_6 (bn boot_o_10 (bn q18_1 (bn q34_1 (bn q66_3 (bn q130_6 (bl o258) bz) (bl o194)) (bn q98_4 (bn o162 (bl o290) bz) (bl o226))) (bn o50 (bn q82_3 (bn q146_7 (bl o274) bz) (bl o210)) (bn q114_5 (bn o178 (bl o306) bz) (bl q242_12)))) (bn q26_1 (bn o42 (bn q74_3 (bn o138 (bl q266_14) bz) (bl q202_12)) (bn q106_5 (bn q170_8 (bl o298) bz) (bl q234_12))) (bn q58_2 (bn q90_4 (bn q154_7 (bl o282) bz) (bl q218_12)) (bn q122_6 (bl o186) (bl o250))))) (bn q14_0 (bn o22 (bn q38_1 (bn q70_3 (bn o134 (bl o262) bz) (bl q198_12)) (bn q102_5 (bn q166_8 (bl o294) bz) (bl q230_12))) (bn o54 (bn q86_4 (bn q150_7 (bl o278) bz) (bl o214)) (bn q118_5 (bn q182_12 (bl o310) bz) (bl q246_12)))) (bn o30 (bn q46_1 (bn q78_3 (bn q142_7 (bl q270_14) bz) (bl q206_12)) (bn q110_5 (bn q174_9 (bl o302) bz) (bl o238))) (bn o62 (bn q94_4 (bn q158_8 (bl o286) bz) (bl o222)) (bn q126_6 (bl q190_12) (bl o254))))))))
noncomputable def ss15 (w : World) (os : OsState) : SharedT := ⟨bt15 w.params, 314, life0, ⟨[]⟩, boot_drawn, 1123, os⟩
noncomputable def q12_16 : Params → Obj := fun P => ⟨.none, none, .fields #[.int 2 0, .int 0 0, .ref 20, .int 7 0, .int 0 0, .ref 40, .int 14 0, .int 0 0, .ref 184, .int 22 0, .int 0 0, .ref 205, .int 27 0, .int 0 0, .ref 224, .int 34 0, .int 0 0, .ref 231, .int 44 0, .int 0 0, .ref 236, .int 47 0, .int 0 0, .ref 243, .int 49 0, .int 0 0, .ref 250, .int 58 0, .int 0 0, .ref 257, .int 70 0, .int 0 0, .ref 267, .int 73 0, .int 0 0, .ref 274, .int 81 0, .int 0 0, .ref 281, .int 94 0, .int 0 0, .ref 288, .int 109 0, .int 0 0, .ref 293, .int 120 0, .int 0 0, .ref 300, .int 125 0, .int 0 0, .ref 322, .int 129 0, .int 0 0, .ref 329, .int 151 0, .int 0 0, .ref 334, .int 157 0, .int 0 0, .ref 341, .int 159 0, .int 0 0, .ref 348, .int 169 0, .int 0 0, .ref 353], #[]⟩
noncomputable def q318_16 : Params → Obj := fun P => ⟨.none, none, .fields #[], #[]⟩
noncomputable def q321_16 : Params → Obj := fun P => ⟨.none, none, .func ⟨(.ofString "_law_scoop"), (.ofString "_law_scoop"), fdP (st 29), .stmts (fdB (st 29)), fdS (st 29), 0, [], .none, .none, .none, .none, none, .none, .none, 0⟩, #[]⟩
noncomputable def q325_16 : Params → Obj := fun P => ⟨.none, none, .fields #[], #[]⟩
noncomputable def q328_16 : Params → Obj := fun P => ⟨.none, none, .func ⟨(.ofString "_law_run"), (.ofString "_law_run"), fdP (st 30), .stmts (fdB (st 30)), fdS (st 30), 0, [], .none, .none, .none, .none, none, .none, .none, 0⟩, #[]⟩
noncomputable def q332_16 : Params → Obj := fun P => ⟨.none, none, .fields #[], #[]⟩
noncomputable def q333_16 : Params → Obj := fun P => ⟨.none, none, .func ⟨(.ofString "_law_bent"), (.ofString "_law_bent"), fdP (st 31), .stmts (fdB (st 31)), fdS (st 31), 0, [], .none, .none, .none, .none, none, .none, .none, 0⟩, #[]⟩
noncomputable def q337_16 : Params → Obj := fun P => ⟨.none, none, .fields #[], #[]⟩
noncomputable def q340_16 : Params → Obj := fun P => ⟨.none, none, .func ⟨(.ofString "_law_is_whole"), (.ofString "_law_is_whole"), fdP (st 32), .stmts (fdB (st 32)), fdS (st 32), 0, [], .none, .none, .none, .none, none, .none, .none, 0⟩, #[]⟩
noncomputable def q344_16 : Params → Obj := fun P => ⟨.none, none, .fields #[], #[]⟩
noncomputable def q347_16 : Params → Obj := fun P => ⟨.none, none, .func ⟨(.ofString "_law_is_let"), (.ofString "_law_is_let"), fdP (st 33), .stmts (fdB (st 33)), fdS (st 33), 0, [], .none, .none, .none, .none, none, .none, .none, 0⟩, #[]⟩
noncomputable def q351_16 : Params → Obj := fun P => ⟨.none, none, .fields #[], #[]⟩
noncomputable def q352_16 : Params → Obj := fun P => ⟨.none, none, .func ⟨(.ofString "law"), (.ofString "law"), fdP (st 34), .stmts (fdB (st 34)), fdS (st 34), 0, [], .none, .none, .none, .none, none, .none, .none, 0⟩, #[]⟩
noncomputable def bt16 : Params → BT := (bn boot_o_0 (bn boot_o_1 (bn o3 (bn boot_o_7 (bn o15 (bn o31 (bn o63 (bn o127 (bl o255) bz) (bn o191 (bl o319) bz)) (bn q95_4 (bn q159_8 (bl q287_14) bz) (bn q223_12 (bl q351_16) bz))) (bn o47 (bn q79_3 (bn q143_7 (bl o271) bz) (bn o207 (bl o335) bz)) (bn q111_5 (bn q175_9 (bl o303) bz) (bl q239_12)))) (bn q23_1 (bn q39_1 (bn q71_3 (bn q135_6 (bl q263_14) bz) (bn q199_12 (bl o327) bz)) (bn q103_5 (bn q167_8 (bl o295) bz) (bl o231))) (bn q55_2 (bn q87_4 (bn q151_7 (bl o279) bz) (bn o215 (bl o343) bz)) (bn q119_6 (bn q183_12 (bl o311) bz) (bl o247))))) (bn q11_0 (bn q19_1 (bn o35 (bn q67_3 (bn q131_6 (bl o259) bz) (bn o195 (bl o323) bz)) (bn o99 (bn q163_8 (bl q291_14) bz) (bl q227_12))) (bn q51_2 (bn q83_4 (bn q147_7 (bl o275) bz) (bn q211_12 (bl o339) bz)) (bn q115_5 (bn q179_12 (bl o307) bz) (bl o243)))) (bn o27 (bn o43 (bn q75_3 (bn q139_7 (bl o267) bz) (bn q203_12 (bl o331) bz)) (bn q107_5 (bn q171_8 (bl q299_14) bz) (bl q235_12))) (bn q59_2 (bn q91_4 (bn q155_8 (bl o283) bz) (bn o219 (bl q347_16) bz)) (bn q123_6 (bn q187_12 (bl o315) bz) (bl o251)))))) (bn boot_o_5 (bn boot_o_9 (bn q17_1 (bn q33_1 (bn q65_3 (bn q129_6 (bl o257) bz) (bn o193 (bl q321_16) bz)) (bn q97_4 (bn o161 (bl o289) bz) (bn o225 (bl o353) bz))) (bn o49 (bn q81_3 (bn q145_7 (bl q273_14) bz) (bn o209 (bl q337_16) bz)) (bn q113_5 (bn o177 (bl o305) bz) (bl o241)))) (bn o25 (bn q41_1 (bn q73_3 (bn q137_7 (bl o265) bz) (bn q201_12 (bl o329) bz)) (bn q105_5 (bn q169_8 (bl o297) bz) (bl o233))) (bn q57_2 (bn q89_4 (bn q153_7 (bl o281) bz) (bn q217_12 (bl o345) bz)) (bn q121_6 (bn q185_12 (bl o313) bz) (bl q249_12))))) (bn q13_0 (bn q21_1 (bn q37_1 (bn q69_3 (bn q133_6 (bl o261) bz) (bn o197 (bl q325_16) bz)) (bn q101_5 (bn q165_8 (bl o293) bz) (bl o229))) (bn q53_2 (bn q85_4 (bn q149_7 (bl q277_14) bz) (bn o213 (bl o341) bz)) (bn q117_5 (bn q181_12 (bl o309) bz) (bl o245)))) (bn o29 (bn q45_1 (bn q77_3 (bn o141 (bl o269) bz) (bn q205_12 (bl q333_16) bz)) (bn q109_5 (bn q173_9 (bl o301) bz) (bl o237))) (bn q61_2 (bn q93_4 (bn q157_8 (bl o285) bz) (bn o221 (bl o349) bz)) (bn q125_6 (bn o189 (bl o317) bz) (bl q253_12))))))) (bn o2 (bn boot_o_4 (bn boot_o_8 (bn q16_1 (bn o32 (bn q64_2 (bn o128 (bl q256_12) bz) (bn o192 (bl o320) bz)) (bn q96_4 (bn q160_8 (bl o288) bz) (bn o224 (bl q352_16) bz))) (bn o48 (bn q80_3 (bn q144_7 (bl o272) bz) (bn q208_12 (bl o336) bz)) (bn q112_5 (bn q176_9 (bl o304) bz) (bl o240)))) (bn o24 (bn q40_1 (bn q72_3 (bn q136_6 (bl o264) bz) (bn o200 (bl q328_16) bz)) (bn q104_5 (bn q168_8 (bl q296_14) bz) (bl o232))) (bn q56_2 (bn q88_4 (bn q152_7 (bl q280_14) bz) (bn o216 (bl q344_16) bz)) (bn q120_6 (bn q184_12 (bl o312) bz) (bl o248))))) (bn q12_16 (bn q20_1 (bn q36_1 (bn q68_3 (bn q132_6 (bl o260) bz) (bn o196 (bl o324) bz)) (bn q100_4 (bn o164 (bl q292_14) bz) (bl o228))) (bn q52_2 (bn q84_4 (bn q148_7 (bl o276) bz) (bn o212 (bl q340_16) bz)) (bn q116_5 (bn q180_12 (bl o308) bz) (bl o244)))) (bn o28 (bn o44 (bn q76_3 (bn o140 (bl o268) bz) (bn q204_12 (bl q332_16) bz)) (bn q108_5 (bn q172_8 (bl o300) bz) (bl o236))) (bn q60_2 (bn q92_4 (bn q156_8 (bl q284_14) bz) (bn q220_12 (bl o348) bz)) (bn q124_6 (bn o188 (bl o316) bz) (bl o252)))))) (bn boot_o_6 (bn boot_o_10 (bn q18_1 (bn q34_1 (bn q66_3 (bn q130_6 (bl o258) bz) (bn o194 (bl o322) bz)) (bn q98_4 (bn o162 (bl o290) bz) (bn o226 (bl o354) bz))) (bn o50 (bn q82_3 (bn q146_7 (bl o274) bz) (bn o210 (bl o338) bz)) (bn q114_5 (bn o178 (bl o306) bz) (bl q242_12)))) (bn q26_1 (bn o42 (bn q74_3 (bn o138 (bl q266_14) bz) (bn q202_12 (bl o330) bz)) (bn q106_5 (bn q170_8 (bl o298) bz) (bl q234_12))) (bn q58_2 (bn q90_4 (bn q154_7 (bl o282) bz) (bn q218_12 (bl o346) bz)) (bn q122_6 (bn o186 (bl o314) bz) (bl o250))))) (bn q14_0 (bn o22 (bn q38_1 (bn q70_3 (bn o134 (bl o262) bz) (bn q198_12 (bl o326) bz)) (bn q102_5 (bn q166_8 (bl o294) bz) (bl q230_12))) (bn o54 (bn q86_4 (bn q150_7 (bl o278) bz) (bn o214 (bl o342) bz)) (bn q118_5 (bn q182_12 (bl o310) bz) (bl q246_12)))) (bn o30 (bn q46_1 (bn q78_3 (bn q142_7 (bl q270_14) bz) (bn q206_12 (bl o334) bz)) (bn q110_5 (bn q174_9 (bl o302) bz) (bl o238))) (bn o62 (bn q94_4 (bn q158_8 (bl o286) bz) (bn o222 (bl o350) bz)) (bn q126_6 (bn q190_12 (bl q318_16) bz) (bl o254))))))))
noncomputable def ss16 (w : World) (os : OsState) : SharedT := ⟨bt16 w.params, 355, life0, ⟨[]⟩, boot_drawn, 1175, os⟩
noncomputable def hpF : Params → Heap := fun P => ⟨⟨boot_o_0 P :: boot_o_1 P :: o2 P :: o3 P :: boot_o_4 P :: boot_o_5 P :: boot_o_6 P :: boot_o_7 P :: boot_o_8 P :: boot_o_9 P :: boot_o_10 P :: q11_0 P :: q12_16 P :: q13_0 P :: q14_0 P :: o15 P :: q16_1 P :: q17_1 P :: q18_1 P :: q19_1 P :: q20_1 P :: q21_1 P :: o22 P :: q23_1 P :: o24 P :: o25 P :: q26_1 P :: o27 P :: o28 P :: o29 P :: o30 P :: o31 P :: o32 P :: q33_1 P :: q34_1 P :: o35 P :: q36_1 P :: q37_1 P :: q38_1 P :: q39_1 P :: q40_1 P :: q41_1 P :: o42 P :: o43 P :: o44 P :: q45_1 P :: q46_1 P :: o47 P :: o48 P :: o49 P :: o50 P :: q51_2 P :: q52_2 P :: q53_2 P :: o54 P :: q55_2 P :: q56_2 P :: q57_2 P :: q58_2 P :: q59_2 P :: q60_2 P :: q61_2 P :: o62 P :: o63 P :: q64_2 P :: q65_3 P :: q66_3 P :: q67_3 P :: q68_3 P :: q69_3 P :: q70_3 P :: q71_3 P :: q72_3 P :: q73_3 P :: q74_3 P :: q75_3 P :: q76_3 P :: q77_3 P :: q78_3 P :: q79_3 P :: q80_3 P :: q81_3 P :: q82_3 P :: q83_4 P :: q84_4 P :: q85_4 P :: q86_4 P :: q87_4 P :: q88_4 P :: q89_4 P :: q90_4 P :: q91_4 P :: q92_4 P :: q93_4 P :: q94_4 P :: q95_4 P :: q96_4 P :: q97_4 P :: q98_4 P :: o99 P :: q100_4 P :: q101_5 P :: q102_5 P :: q103_5 P :: q104_5 P :: q105_5 P :: q106_5 P :: q107_5 P :: q108_5 P :: q109_5 P :: q110_5 P :: q111_5 P :: q112_5 P :: q113_5 P :: q114_5 P :: q115_5 P :: q116_5 P :: q117_5 P :: q118_5 P :: q119_6 P :: q120_6 P :: q121_6 P :: q122_6 P :: q123_6 P :: q124_6 P :: q125_6 P :: q126_6 P :: o127 P :: o128 P :: q129_6 P :: q130_6 P :: q131_6 P :: q132_6 P :: q133_6 P :: o134 P :: q135_6 P :: q136_6 P :: q137_7 P :: o138 P :: q139_7 P :: o140 P :: o141 P :: q142_7 P :: q143_7 P :: q144_7 P :: q145_7 P :: q146_7 P :: q147_7 P :: q148_7 P :: q149_7 P :: q150_7 P :: q151_7 P :: q152_7 P :: q153_7 P :: q154_7 P :: q155_8 P :: q156_8 P :: q157_8 P :: q158_8 P :: q159_8 P :: q160_8 P :: o161 P :: o162 P :: q163_8 P :: o164 P :: q165_8 P :: q166_8 P :: q167_8 P :: q168_8 P :: q169_8 P :: q170_8 P :: q171_8 P :: q172_8 P :: q173_9 P :: q174_9 P :: q175_9 P :: q176_9 P :: o177 P :: o178 P :: q179_12 P :: q180_12 P :: q181_12 P :: q182_12 P :: q183_12 P :: q184_12 P :: q185_12 P :: o186 P :: q187_12 P :: o188 P :: o189 P :: q190_12 P :: o191 P :: o192 P :: o193 P :: o194 P :: o195 P :: o196 P :: o197 P :: q198_12 P :: q199_12 P :: o200 P :: q201_12 P :: q202_12 P :: q203_12 P :: q204_12 P :: q205_12 P :: q206_12 P :: o207 P :: q208_12 P :: o209 P :: o210 P :: q211_12 P :: o212 P :: o213 P :: o214 P :: o215 P :: o216 P :: q217_12 P :: q218_12 P :: o219 P :: q220_12 P :: o221 P :: o222 P :: q223_12 P :: o224 P :: o225 P :: o226 P :: q227_12 P :: o228 P :: o229 P :: q230_12 P :: o231 P :: o232 P :: o233 P :: q234_12 P :: q235_12 P :: o236 P :: o237 P :: o238 P :: q239_12 P :: o240 P :: o241 P :: q242_12 P :: o243 P :: o244 P :: o245 P :: q246_12 P :: o247 P :: o248 P :: q249_12 P :: o250 P :: o251 P :: o252 P :: q253_12 P :: o254 P :: o255 P :: q256_12 P :: o257 P :: o258 P :: o259 P :: o260 P :: o261 P :: o262 P :: q263_14 P :: o264 P :: o265 P :: q266_14 P :: o267 P :: o268 P :: o269 P :: q270_14 P :: o271 P :: o272 P :: q273_14 P :: o274 P :: o275 P :: o276 P :: q277_14 P :: o278 P :: o279 P :: q280_14 P :: o281 P :: o282 P :: o283 P :: q284_14 P :: o285 P :: o286 P :: q287_14 P :: o288 P :: o289 P :: o290 P :: q291_14 P :: q292_14 P :: o293 P :: o294 P :: o295 P :: q296_14 P :: o297 P :: o298 P :: q299_14 P :: o300 P :: o301 P :: o302 P :: o303 P :: o304 P :: o305 P :: o306 P :: o307 P :: o308 P :: o309 P :: o310 P :: o311 P :: o312 P :: o313 P :: o314 P :: o315 P :: o316 P :: o317 P :: q318_16 P :: o319 P :: o320 P :: q321_16 P :: o322 P :: o323 P :: o324 P :: q325_16 P :: o326 P :: o327 P :: q328_16 P :: o329 P :: o330 P :: o331 P :: q332_16 P :: q333_16 P :: o334 P :: o335 P :: o336 P :: q337_16 P :: o338 P :: o339 P :: q340_16 P :: o341 P :: o342 P :: o343 P :: q344_16 P :: o345 P :: o346 P :: q347_16 P :: o348 P :: o349 P :: o350 P :: q351_16 P :: q352_16 P :: o353 P :: o354 P :: []⟩, life0⟩
noncomputable def env0 : Env := { scope := pw.main.scope, locals := mainNs, globals := mainNs, cells := [], code := .ref 13, frame := some 14 }
noncomputable def cE : Code := .body (behindTheImports pw) env0
noncomputable abbrev ann0 : Option Value := some (.ref 6)
noncomputable abbrev pos0 : Pos := ⟨0, 0, 0, 0⟩
noncomputable def sg (a b : Nat) : List Stmt := (pw.main.body.drop a).take b
end
section
open PySem PySem.W PyProof.Rows PySem.Calls
set_option maxRecDepth 100000
set_option maxHeartbeats 4000000
theorem lk_bare : (["vars", "dir", "locals"] : List Str).filter (readsOut pw pw.main.body) = [] := by rw [Fast.te13343964577679436407]; kernel_rfl
theorem lk_strict : (!(importedModules pw.main.body).all cThrough.contains) = false := by kernel_rfl
theorem lk_road : noRoadLSs { strict := false, foot := none, bare := [] } pw.main.body = true := by rw [Fast.te8326940854005059898]; kernel_rfl
theorem lk_meet : namesMeet pw pw.main.body (fun _ n => attrL n) = true := by rw [Fast.te17119622794617984870, Fast.te17868728402115742887]; kernel_rfl
theorem lk_res : namesResolve pw = true := by rw [Fast.te8377067652309620493]; kernel_rfl
theorem lk_sre : sreFenced pw.main = true := by kernel_rfl
theorem lk_in : ((moduleNames pw.main.body).isEmpty || lookedIntoSs (moduleNames pw.main.body) pw.main.body) = true := by kernel_rfl
theorem lk_world : pw.boundNames.all (fun n => !worldNames.contains n) = true := by kernel_rfl
theorem lk_open : looksOpen pw = true := by
  unfold looksOpen
  rw [lk_bare, lk_strict]
  exact look_both (look_both (look_both (look_both (look_both lk_sre lk_in) lk_res) lk_world) lk_road) lk_meet
theorem lk_law : PySem.Challenge.rw_qz0086_01.wellSaid = true := by
  have h : Fast.tw12908688711261696721 (Fast.tw2368527892694137696 PySem.Challenge.rw_qz0086_01).prog = true := by
    rw [← Fast.te12908688711261696721]
    exact lk_open
  rw [Fast.te9446332074065402090]
  delta Fast.tw9446332074065402090 Fast.tw17960256430627541270 Fast.tw2436336058641802641
  rw [h]
  kernel_rfl
end
section
open PySem PySem.W PyProof.Rows PySem.Calls
set_option maxRecDepth 100000
noncomputable def dK : Stmt → List (Option Expr)
  | .Assign _ (.Dict ks _ _) _ => ks
  | _ => []
noncomputable def dV : Stmt → List Expr
  | .Assign _ (.Dict _ vs _) _ => vs
  | _ => []
noncomputable abbrev posA : Pos := ⟨10, 0, 10, 4⟩
noncomputable abbrev posB : Pos := ⟨11, 0, 11, 2777⟩
noncomputable abbrev posD : Pos := ⟨11, 9, 11, 2777⟩
noncomputable abbrev posN : Pos := ⟨11, 0, 11, 6⟩
noncomputable def pairsD : List (Sem Value × Sem Value) := ((evalEachOpt (dK (st 5)) env0).filterMap id).zip ((evalEach (dV (st 5)) env0).map fun v => do let x ← v; standAt posD; pure x)
noncomputable def ck (k : Nat) : List (Sem Value × Sem Value) := (pairsD.drop (17 * k)).take 17
noncomputable def resD (m : Option Addr) : Flow := match m with | some d => .ret (.ref d) | none => .next
theorem resD_inj (b : Option Addr) (h : resD b = .ret (.ref 47)) : b = some 47 := by
  cases b with
  | none => cases h
  | some d => cases h; rfl
noncomputable def xA : Sem Unit := (standAt posB).bind fun _ => standAt posD
noncomputable def xZ (v : Value) : Sem Flow := (standAt posN).bind fun _ => (bindName env0 (Str.ofString "SHAPES") v).bind fun _ => pure .next
noncomputable def eqN : List Nat → List Nat → Bool
  | [], [] => true
  | a :: l, b :: r => (Nat.beq a b).and (eqN l r)
  | _, _ => false
theorem eqN_eq : ∀ (l r : List Nat), eqN l r = decide (l = r)
  | [], [] => rfl
  | [], _ :: _ => rfl
  | _ :: _, [] => rfl
  | a :: l, b :: r => by
    show (Nat.beq a b).and (eqN l r) = _
    rw [eqN_eq l r]
    rw [Bool.eq_iff_iff]
    simp [Nat.beq_eq]
theorem str_beq (d : DecidableEq Str) (a b : Str) : @BEq.beq Str (@instBEqOfDecidableEq Str d) a b = eqN a.cps.toList b.cps.toList := by
  rw [eqN_eq, Bool.eq_iff_iff, beq_iff_eq, decide_eq_true_eq]
  obtain ⟨⟨a⟩⟩ := a
  obtain ⟨⟨b⟩⟩ := b
  simp
noncomputable def F995 : Value → Str → Bool
  | .str s _, n => eqN s.cps.toList n.cps.toList
  | _, _ => false
theorem F995_eq : Fast.tw995047462949696687 = F995 := by
  funext v n
  cases v
  case str s t =>
    simp only [Fast.tw995047462949696687, F995]
    exact str_beq _ s n
  all_goals rfl
noncomputable def findF {α : Type} (p : α → Bool) : List α → Nat → Option Nat
  | [], _ => none
  | a :: l, i => bif p a then some i else findF p l (i + 1)
theorem findF_eq {α : Type} (p : α → Bool) (xs : Array α) : Array.findIdx? p xs = findF p xs.toList 0 := by
  obtain ⟨xs⟩ := xs
  rw [List.findIdx?_toArray]
  have key : ∀ (l : List α) (i : Nat), List.findIdx?.go p l i = findF p l i := by
    intro l
    induction l with
    | nil => intro i; rfl
    | cons a l ih =>
      intro i
      show (if p a then some i else List.findIdx?.go p l (i + 1)) = bif p a then some i else findF p l (i + 1)
      rw [ih]
      cases p a <;> rfl
  exact key _ _
noncomputable def foundF : {f // Fast.tw16073574877836486461 = f} := ⟨_, by
  delta Fast.tw16073574877836486461
  simp only [F995_eq, findF_eq]
  rfl⟩
noncomputable def findD : {f // Fast.tw7228091826238408665 = f} := ⟨_, by
  delta Fast.tw7228091826238408665
  simp only [foundF.2, ← Array.all_toList]
  rfl⟩
noncomputable def putD : {f // Fast.tw9652029157277244616 = f} := ⟨_, by
  delta Fast.tw9652029157277244616
  rw [findD.2]⟩
noncomputable def mergeD : {f // Fast.tw8596071696976842438 = f} := ⟨_, by
  delta Fast.tw8596071696976842438
  rw [putD.2]⟩
noncomputable def flushT (run : List (Sem Value × Sem Value)) (main : Option Addr) : Sem (Option Addr) :=
  if run.isEmpty = true then pure main
  else match main with
    | none => do
      let x ← Fast.tw11913375310210876947 run
      pure (some x)
    | some d => do
      let sub ← Fast.tw17359229931016689406 [Value.ref d] (Fast.tw11913375310210876947 run)
      (R.onRaiseR (Fast.tw17359229931016689406 [Value.ref d, Value.ref sub] (mergeD.1 d (Value.ref sub) false)) fun x => do
        let _ ← Fast.tw17359229931016689406 [Value.ref d, x] (Fast.tw12194477576918160588 (Code.builtin "proto.let_go" {}))
        pure ())
      pure (some d)
theorem flush_twin : flushD = flushT := by
  funext run main
  unfold flushD
  rw [Fast.te11913375310210876947, Fast.te17359229931016689406, Fast.te8596071696976842438, Fast.te12194477576918160588, R.onRaiseR_eq, mergeD.2]
  rfl
theorem h_g1 (w : World) (os : OsState) : segRunT treeTable pw w 11 ann0 1 469 (ss0 w os) ⟨(execs (sg 0 5) env0).wrap (fun b => .pure (.done (id b))) deadEnd id id, cE, pos0, [topFrame pos0]⟩ = some (.next, ss1 w os, cE, posA) := by
  rw [Fast.te10110043849684766642, Fast.te14364793385576792824, Fast.te12563942051412417395]
  kernel_rfl
theorem h_A (w : World) (os : OsState) : segRunT treeTable pw w 11 ann0 1 3 (ss1 w os) ⟨(xA).wrap (fun b => .pure (.done ((fun _ => Flow.next) b))) deadEnd id id, cE, posA, [topFrame pos0]⟩ = some (.next, ss1 w os, cE, posD) := by
  rw [Fast.te10110043849684766642, Fast.te14364793385576792824]
  kernel_rfl
theorem h_c0 (w : World) (os : OsState) : segRunT treeTable pw w 11 ann0 1 326 (ss1 w os) ⟨(flushD (ck 0) none).wrap (fun b => .pure (.done (resD b))) deadEnd id id, cE, posD, [topFrame pos0]⟩ = some (.ret (.ref 47), ss2 w os, cE, posD) := by
  rw [Fast.te10110043849684766642, Fast.te14364793385576792824, flush_twin]
  exact byRow2 "special-get-raises" (P := fun w => Fast.tw10110043849684766642 Fast.tw14364793385576792824 pw w 11 ann0 1 326 (ss1 w os) ⟨(flushT (ck 0) none).wrap (fun b => .pure (.done (resD b))) deadEnd id id, cE, posD, [topFrame pos0]⟩ = some (.ret (.ref 47), ss2 w os, cE, posD)) (fun w => by kernel_rfl) (fun w => by kernel_rfl) w
theorem h_c1 (w : World) (os : OsState) : segRunT treeTable pw w 11 ann0 1 433 (ss2 w os) ⟨(flushD (ck 1) (some 47)).wrap (fun b => .pure (.done (resD b))) deadEnd id id, cE, posD, [topFrame pos0]⟩ = some (.ret (.ref 47), ss3 w os, cE, posD) := by
  rw [Fast.te10110043849684766642, Fast.te14364793385576792824, flush_twin]
  exact byRow2 "special-get-raises" (P := fun w => Fast.tw10110043849684766642 Fast.tw14364793385576792824 pw w 11 ann0 1 433 (ss2 w os) ⟨(flushT (ck 1) (some 47)).wrap (fun b => .pure (.done (resD b))) deadEnd id id, cE, posD, [topFrame pos0]⟩ = some (.ret (.ref 47), ss3 w os, cE, posD)) (fun w => by kernel_rfl) (fun w => by kernel_rfl) w
theorem h_c2 (w : World) (os : OsState) : segRunT treeTable pw w 11 ann0 1 433 (ss3 w os) ⟨(flushD (ck 2) (some 47)).wrap (fun b => .pure (.done (resD b))) deadEnd id id, cE, posD, [topFrame pos0]⟩ = some (.ret (.ref 47), ss4 w os, cE, posD) := by
  rw [Fast.te10110043849684766642, Fast.te14364793385576792824, flush_twin]
  exact byRow2 "special-get-raises" (P := fun w => Fast.tw10110043849684766642 Fast.tw14364793385576792824 pw w 11 ann0 1 433 (ss3 w os) ⟨(flushT (ck 2) (some 47)).wrap (fun b => .pure (.done (resD b))) deadEnd id id, cE, posD, [topFrame pos0]⟩ = some (.ret (.ref 47), ss4 w os, cE, posD)) (fun w => by kernel_rfl) (fun w => by kernel_rfl) w
theorem h_c3 (w : World) (os : OsState) : segRunT treeTable pw w 11 ann0 1 433 (ss4 w os) ⟨(flushD (ck 3) (some 47)).wrap (fun b => .pure (.done (resD b))) deadEnd id id, cE, posD, [topFrame pos0]⟩ = some (.ret (.ref 47), ss5 w os, cE, posD) := by
  rw [Fast.te10110043849684766642, Fast.te14364793385576792824, flush_twin]
  exact byRow2 "special-get-raises" (P := fun w => Fast.tw10110043849684766642 Fast.tw14364793385576792824 pw w 11 ann0 1 433 (ss4 w os) ⟨(flushT (ck 3) (some 47)).wrap (fun b => .pure (.done (resD b))) deadEnd id id, cE, posD, [topFrame pos0]⟩ = some (.ret (.ref 47), ss5 w os, cE, posD)) (fun w => by kernel_rfl) (fun w => by kernel_rfl) w
theorem h_c4 (w : World) (os : OsState) : segRunT treeTable pw w 11 ann0 1 433 (ss5 w os) ⟨(flushD (ck 4) (some 47)).wrap (fun b => .pure (.done (resD b))) deadEnd id id, cE, posD, [topFrame pos0]⟩ = some (.ret (.ref 47), ss6 w os, cE, posD) := by
  rw [Fast.te10110043849684766642, Fast.te14364793385576792824, flush_twin]
  exact byRow2 "special-get-raises" (P := fun w => Fast.tw10110043849684766642 Fast.tw14364793385576792824 pw w 11 ann0 1 433 (ss5 w os) ⟨(flushT (ck 4) (some 47)).wrap (fun b => .pure (.done (resD b))) deadEnd id id, cE, posD, [topFrame pos0]⟩ = some (.ret (.ref 47), ss6 w os, cE, posD)) (fun w => by kernel_rfl) (fun w => by kernel_rfl) w
theorem h_c5 (w : World) (os : OsState) : segRunT treeTable pw w 11 ann0 1 433 (ss6 w os) ⟨(flushD (ck 5) (some 47)).wrap (fun b => .pure (.done (resD b))) deadEnd id id, cE, posD, [topFrame pos0]⟩ = some (.ret (.ref 47), ss7 w os, cE, posD) := by
  rw [Fast.te10110043849684766642, Fast.te14364793385576792824, flush_twin]
  exact byRow2 "special-get-raises" (P := fun w => Fast.tw10110043849684766642 Fast.tw14364793385576792824 pw w 11 ann0 1 433 (ss6 w os) ⟨(flushT (ck 5) (some 47)).wrap (fun b => .pure (.done (resD b))) deadEnd id id, cE, posD, [topFrame pos0]⟩ = some (.ret (.ref 47), ss7 w os, cE, posD)) (fun w => by kernel_rfl) (fun w => by kernel_rfl) w
theorem h_c6 (w : World) (os : OsState) : segRunT treeTable pw w 11 ann0 1 433 (ss7 w os) ⟨(flushD (ck 6) (some 47)).wrap (fun b => .pure (.done (resD b))) deadEnd id id, cE, posD, [topFrame pos0]⟩ = some (.ret (.ref 47), ss8 w os, cE, posD) := by
  rw [Fast.te10110043849684766642, Fast.te14364793385576792824, flush_twin]
  exact byRow2 "special-get-raises" (P := fun w => Fast.tw10110043849684766642 Fast.tw14364793385576792824 pw w 11 ann0 1 433 (ss7 w os) ⟨(flushT (ck 6) (some 47)).wrap (fun b => .pure (.done (resD b))) deadEnd id id, cE, posD, [topFrame pos0]⟩ = some (.ret (.ref 47), ss8 w os, cE, posD)) (fun w => by kernel_rfl) (fun w => by kernel_rfl) w
theorem h_c7 (w : World) (os : OsState) : segRunT treeTable pw w 11 ann0 1 82 (ss8 w os) ⟨(flushD (ck 7) (some 47)).wrap (fun b => .pure (.done (resD b))) deadEnd id id, cE, posD, [topFrame pos0]⟩ = some (.ret (.ref 47), ss9 w os, cE, posD) := by
  rw [Fast.te10110043849684766642, Fast.te14364793385576792824, flush_twin]
  exact byRow2 "special-get-raises" (P := fun w => Fast.tw10110043849684766642 Fast.tw14364793385576792824 pw w 11 ann0 1 82 (ss8 w os) ⟨(flushT (ck 7) (some 47)).wrap (fun b => .pure (.done (resD b))) deadEnd id id, cE, posD, [topFrame pos0]⟩ = some (.ret (.ref 47), ss9 w os, cE, posD)) (fun w => by kernel_rfl) (fun w => by kernel_rfl) w
theorem h_Z (w : World) (os : OsState) : segRunT treeTable pw w 11 ann0 1 8 (ss9 w os) ⟨(xZ (.ref 47)).wrap (fun b => .pure (.done (id b))) deadEnd id id, cE, posD, [topFrame pos0]⟩ = some (.next, ss10 w os, cE, posN) := by
  rw [Fast.te10110043849684766642, Fast.te14364793385576792824]
  kernel_rfl
theorem h_g11 (w : World) (os : OsState) : segRunT treeTable pw w 11 ann0 1 94 (ss10 w os) ⟨(execs (sg 6 2) env0).wrap (fun b => .pure (.done (id b))) deadEnd id id, cE, posN, [topFrame pos0]⟩ = some (.next, ss11 w os, cE, ⟨13, 0, 13, 7⟩) := by
  rw [Fast.te10110043849684766642, Fast.te14364793385576792824, Fast.te12563942051412417395]
  exact byRow2 "special-get-raises" (P := fun w => Fast.tw10110043849684766642 Fast.tw14364793385576792824 pw w 11 ann0 1 94 (ss10 w os) ⟨(Fast.tw12563942051412417395 (sg 6 2) env0).wrap (fun b => .pure (.done (id b))) deadEnd id id, cE, posN, [topFrame pos0]⟩ = some (.next, ss11 w os, cE, ⟨13, 0, 13, 7⟩)) (fun w => by kernel_rfl) (fun w => by kernel_rfl) w
theorem h_g12 (w : World) (os : OsState) : segRunT treeTable pw w 11 ann0 1 671 (ss11 w os) ⟨(execs (sg 8 9) env0).wrap (fun b => .pure (.done (id b))) deadEnd id id, cE, ⟨13, 0, 13, 7⟩, [topFrame pos0]⟩ = some (.next, ss12 w os, cE, ⟨66, 0, 66, 8⟩) := by
  rw [Fast.te10110043849684766642, Fast.te14364793385576792824, Fast.te12563942051412417395]
  kernel_rfl
theorem h_g13 (w : World) (os : OsState) : segRunT treeTable pw w 11 ann0 1 171 (ss12 w os) ⟨(execs (sg 17 2) env0).wrap (fun b => .pure (.done (id b))) deadEnd id id, cE, ⟨66, 0, 66, 8⟩, [topFrame pos0]⟩ = some (.next, ss13 w os, cE, ⟨68, 0, 68, 5⟩) := by
  rw [Fast.te10110043849684766642, Fast.te14364793385576792824, Fast.te12563942051412417395]
  exact byRow2 "special-get-raises" (P := fun w => Fast.tw10110043849684766642 Fast.tw14364793385576792824 pw w 11 ann0 1 171 (ss12 w os) ⟨(Fast.tw12563942051412417395 (sg 17 2) env0).wrap (fun b => .pure (.done (id b))) deadEnd id id, cE, ⟨66, 0, 66, 8⟩, [topFrame pos0]⟩ = some (.next, ss13 w os, cE, ⟨68, 0, 68, 5⟩)) (fun w => by kernel_rfl) (fun w => by kernel_rfl) w
theorem h_g14 (w : World) (os : OsState) : segRunT treeTable pw w 11 ann0 1 209 (ss13 w os) ⟨(execs (sg 19 8) env0).wrap (fun b => .pure (.done (id b))) deadEnd id id, cE, ⟨68, 0, 68, 5⟩, [topFrame pos0]⟩ = some (.next, ss14 w os, cE, ⟨122, 0, 122, 8⟩) := by
  rw [Fast.te10110043849684766642, Fast.te14364793385576792824, Fast.te12563942051412417395]
  kernel_rfl
theorem h_g15 (w : World) (os : OsState) : segRunT treeTable pw w 11 ann0 1 201 (ss14 w os) ⟨(execs (sg 27 1) env0).wrap (fun b => .pure (.done (id b))) deadEnd id id, cE, ⟨122, 0, 122, 8⟩, [topFrame pos0]⟩ = some (.next, ss15 w os, cE, ⟨123, 0, 123, 11⟩) := by
  rw [Fast.te10110043849684766642, Fast.te14364793385576792824, Fast.te12563942051412417395]
  exact byRow2 "special-get-raises" (P := fun w => Fast.tw10110043849684766642 Fast.tw14364793385576792824 pw w 11 ann0 1 201 (ss14 w os) ⟨(Fast.tw12563942051412417395 (sg 27 1) env0).wrap (fun b => .pure (.done (id b))) deadEnd id id, cE, ⟨122, 0, 122, 8⟩, [topFrame pos0]⟩ = some (.next, ss15 w os, cE, ⟨123, 0, 123, 11⟩)) (fun w => by kernel_rfl) (fun w => by kernel_rfl) w
theorem h_g16 (w : World) (os : OsState) : segRunT treeTable pw w 11 ann0 1 194 (ss15 w os) ⟨(execs (sg 28 7) env0).wrap (fun b => .pure (.done (id b))) deadEnd id id, cE, ⟨123, 0, 123, 11⟩, [topFrame pos0]⟩ = some (.next, ss16 w os, cE, ⟨169, 0, 192, 17⟩) := by
  rw [Fast.te10110043849684766642, Fast.te14364793385576792824, Fast.te12563942051412417395]
  kernel_rfl
end
section
open PySem PySem.W PyProof.Rows PySem.Calls
set_option maxRecDepth 100000
theorem h_open (w : World) : Option.map (fun s => (s.heap, s.gens, s.drawn, s.toks)) (fencedOpening treeTable pw w 12000) = some (boot_heap w.params, (⟨[]⟩ : Array GenState), boot_drawn, boot_toks) :=
  boot_open (p := pw) (by kernel_rfl) (by decide) (fun s => by kernel_rfl) w
theorem h_size (w : World) : ((boot_heap w.params).isNs mainGlobals && (⟨[]⟩ : Array GenState).size == 0, (boot_heap w.params).objs.size, (boot_heap w.params).nsMap mainGlobals (Str.ofString "__annotations__")) = (true, 11, ann0) := by
  kernel_rfl
noncomputable abbrev stub : Thread := topStub pw
theorem h_pre (w : World) (os : OsState) : topGo treeTable pw w 11 ann0 12 ⟨boot_heap w.params, ⟨[]⟩, boot_drawn, boot_toks, os⟩ stub = some ((ss0 w os).abs, ⟨denote treeTable cE, cE, pos0, [topFrame pos0]⟩) := by
  rw [Fast.te15667345088766844465, Fast.te14364793385576792824, Fast.te11892475500146522536]
  kernel_rfl
theorem h_block (w : World) (os : OsState) : segRun treeTable pw w 11 ann0 1 1 (ss0 w os).abs (blockOf (behindTheImports pw) env0 cE pos0 [topFrame pos0]) = some (.next, (ss0 w os).abs, cE, pos0) := by
  rw [Fast.te14374325043358763698, Fast.te14364793385576792824]
  kernel_rfl
theorem h_fin (w : World) (os : OsState) : topRun treeTable pw w 11 ann0 2 (ss16 w os).abs ⟨doneF .next, cE, ⟨169, 0, 192, 17⟩, [topFrame pos0]⟩ = some ⟨hpF w.params, ⟨[]⟩, boot_drawn, 1175, os⟩ := by
  rw [Fast.te14082659384304107361, Fast.te14364793385576792824]
  kernel_rfl
theorem h_body : behindTheImports pw = sg 0 5 ++ (sg 5 1 ++ (sg 6 2 ++ (sg 8 9 ++ (sg 17 2 ++ (sg 19 8 ++ (sg 27 1 ++ (sg 28 7 ++ []))))))) := by kernel_rfl
theorem chunks_len : ∀ c ∈ [ck 0, ck 1, ck 2, ck 3, ck 4, ck 5, ck 6], c.length = 17 := by
  have h : ∀ k, k ∈ [0, 1, 2, 3, 4, 5, 6] → (ck k).length = 17 := by
    intro k hk
    have hp : pairsD.length = 122 := by kernel_rfl
    simp only [List.mem_cons, List.not_mem_nil, or_false] at hk
    unfold ck
    rw [List.length_take, List.length_drop, hp]
    omega
  intro c hc
  simp only [List.mem_cons, List.not_mem_nil, or_false] at hc
  rcases hc with rfl | rfl | rfl | rfl | rfl | rfl | rfl <;> exact h _ (by simp)
theorem pairs_eq : pairsD = [ck 0, ck 1, ck 2, ck 3, ck 4, ck 5, ck 6].flatten ++ ck 7 := by kernel_rfl
theorem st5_eq : st 5 = .Assign [.Name (Str.ofString "SHAPES") posN] (.Dict (dK (st 5)) (dV (st 5)) posD) posB := by kernel_rfl
theorem items_eq : (evalEachOpt (dK (st 5)) env0).zip ((evalEach (dV (st 5)) env0).map fun v => do let x ← v; standAt posD; pure x) = pairsD.map sk := by kernel_rfl
theorem dict_exec (ks : List (Option Expr)) (vs : List Expr) (hsw : swapsWith (.Dict ks vs posD) (some (.Name (Str.ofString "SHAPES") posN)) posB.line env0 = pure false) : exec (.Assign [.Name (Str.ofString "SHAPES") posN] (.Dict ks vs posD) posB) env0 =
    (standAt posB).bind fun _ => ((standAt posD).bind fun _ => dictDisplay ((evalEachOpt ks env0).zip ((evalEach vs env0).map fun v => do let x ← v; standAt posD; pure x))).bind xZ := by
  rw [exec_Assign_Name _ _ _ _ _ hsw]
  rfl
theorem shapes_exec : exec (st 5) env0 = xA.bind fun _ => (flushes [ck 0, ck 1, ck 2, ck 3, ck 4, ck 5, ck 6, ck 7] none).bind fun m => ((match m with | some d => pure (Value.ref d) | none => newDict : Sem Value)).bind xZ := by
  rw [st5_eq, dict_exec _ _ (by kernel_rfl), items_eq, display_eq, pairs_eq, displayD_eq (ck 7) (by
    unfold ck
    rw [List.length_take]
    have hp : pairsD.length = 122 := by kernel_rfl
    rw [List.length_drop, hp]
    omega) _ chunks_len]
  unfold xA
  rw [sem_assoc]
  refine congrArg _ (funext fun _ => ?_)
  rw [sem_assoc]
  refine congrArg _ (funext fun _ => ?_)
  rfl
end
section
open PySem PySem.W PyProof.Rows PySem.Calls
set_option maxRecDepth 100000
section
variable (w : World) (os : OsState)
theorem flowU (b : Unit) (h : (fun _ : Unit => Flow.next) b = .next) : b = () := rfl
noncomputable abbrev TT {α : Type} (w : World) (os : OsState) (x : Sem α) (s : SharedT) (pos : Pos) (a : α) (s' : SharedT) (pos' : Pos) (n : Nat) : Prop := TopsTo pw w 11 ann0 pos0 cE x s.abs pos a s'.abs pos' n
theorem TT.of {α : Type} {w : World} {os : OsState} {x : Sem α} {s s' : SharedT} {pos pos' : Pos} {f : Flow} {n : Nat} (res : α → Flow) (a : α) (hinj : ∀ b, res b = f → b = a)
    (h : segRunT treeTable pw w 11 ann0 1 n s ⟨x.wrap (fun b => .pure (.done (res b))) deadEnd id id, cE, pos, [topFrame pos0]⟩ = some (f, s', cE, pos')) : TT w os x s pos a s' pos' n :=
  TopsTo.seg res a hinj (segRun_of h)
theorem TT.done {α : Type} {w : World} {os : OsState} {a : α} {s : SharedT} {pos : Pos} : TT w os (pure a) s pos a s pos 0 := by
  intro K H N r hr
  rw [Nat.zero_add]
  exact hr
theorem TT.flush {w : World} {os : OsState} {c : List (Sem Value × Sem Value)} {cs : List (List (Sem Value × Sem Value))} {m m' r : Option Addr} {s s' s2 : SharedT} {pos pos' pos2 : Pos} {n n' : Nat}
    (h1 : TT w os (flushD c m) s pos m' s' pos' n) (h2 : TT w os (flushes cs m') s' pos' r s2 pos2 n') : TT w os (flushes (c :: cs) m) s pos r s2 pos2 (n + n') := TopsTo.bind (f := fun m' => flushes cs m') h1 h2
theorem TT.nil {w : World} {os : OsState} {m : Option Addr} {s : SharedT} {pos : Pos} : TT w os (flushes [] m) s pos m s pos 0 := TT.done (a := m)
noncomputable def endD (m : Option Addr) : Sem Value := match m with | some d => pure (Value.ref d) | none => newDict
theorem shapes_exec2 : exec (st 5) env0 = xA.bind fun _ => (flushes [ck 0, ck 1, ck 2, ck 3, ck 4, ck 5, ck 6, ck 7] none).bind fun m => (endD m).bind xZ := shapes_exec
noncomputable def oneD (f : Flow) : Sem Flow := match f with | .next => pure .next | f => pure f
theorem sg5 : execs (sg 5 1) env0 = (exec (st 5) env0).bind oneD := by
  show execs [st 5] env0 = _
  rw [execs_cons]
  rfl
theorem h_flushes : TT w os (flushes [ck 0, ck 1, ck 2, ck 3, ck 4, ck 5, ck 6, ck 7] none) (ss1 w os) posD (some 47) (ss9 w os) posD 3006 :=
  TT.flush (TT.of (os := os) resD (some 47) resD_inj (h_c0 w os)) (TT.flush (TT.of (os := os) resD (some 47) resD_inj (h_c1 w os)) (TT.flush (TT.of (os := os) resD (some 47) resD_inj (h_c2 w os)) (TT.flush (TT.of (os := os) resD (some 47) resD_inj (h_c3 w os))
    (TT.flush (TT.of (os := os) resD (some 47) resD_inj (h_c4 w os)) (TT.flush (TT.of (os := os) resD (some 47) resD_inj (h_c5 w os)) (TT.flush (TT.of (os := os) resD (some 47) resD_inj (h_c6 w os)) (TT.flush (TT.of (os := os) resD (some 47) resD_inj (h_c7 w os)) TT.nil)))))))
theorem h_exec5 : TT w os (exec (st 5) env0) (ss1 w os) posA .next (ss10 w os) posN (3 + (3006 + (0 + 8))) := by
  rw [shapes_exec2]
  exact TopsTo.bind (f := fun _ => (flushes [ck 0, ck 1, ck 2, ck 3, ck 4, ck 5, ck 6, ck 7] none).bind fun m => (endD m).bind xZ) (TT.of (os := os) (fun _ => Flow.next) () flowU (h_A w os))
    (TopsTo.bind (f := fun m => (endD m).bind xZ) (h_flushes w os) (TopsTo.bind (x := endD (some 47)) (f := xZ) (TT.done (w := w) (os := os) (a := Value.ref 47)) (TT.of (os := os) id Flow.next (fun b h => h) (h_Z w os))))
theorem h_shapes : TT w os (execs (sg 5 1) env0) (ss1 w os) posA .next (ss10 w os) posN (3 + (3006 + (0 + 8)) + 0) := by
  rw [sg5]
  exact TopsTo.bind (f := oneD) (h_exec5 w os) (TT.done (w := w) (os := os) (a := Flow.next))
theorem h_run : topRun treeTable pw w 11 ann0 6000 ⟨boot_heap w.params, ⟨[]⟩, boot_drawn, boot_toks, os⟩ (topStub pw) = some ⟨hpF w.params, ⟨[]⟩, boot_drawn, 1175, os⟩ := by
  have hs := h_shapes w os
  have idf : ∀ b : Flow, id b = Flow.next → b = .next := fun b h => h
  have k8 := piece_nil (tb := treeTable) (p := pw) (n₀ := 11) (ann := ann0) (env := env0) (q := pos0) (h_fin w os)
  have k7 := TopsTo.stmts (TT.of (os := os) id Flow.next idf (h_g16 w os)) k8
  have k6 := TopsTo.stmts (TT.of (os := os) id Flow.next idf (h_g15 w os)) k7
  have k5 := TopsTo.stmts (TT.of (os := os) id Flow.next idf (h_g14 w os)) k6
  have k4 := TopsTo.stmts (TT.of (os := os) id Flow.next idf (h_g13 w os)) k5
  have k3 := TopsTo.stmts (TT.of (os := os) id Flow.next idf (h_g12 w os)) k4
  have k2 := TopsTo.stmts (TT.of (os := os) id Flow.next idf (h_g11 w os)) k3
  have k1 := TopsTo.stmts hs k2
  have k0 := TopsTo.stmts (TT.of (os := os) id Flow.next idf (h_g1 w os)) k1
  rw [← h_body] at k0
  have kb := piece_block (h_block w os) k0
  have kt := go_top (h_pre w os) kb
  obtain ⟨M, hM, k⟩ : ∃ M, M + 959 = 6000 ∧ topRun treeTable pw w 11 ann0 M ⟨boot_heap w.params, ⟨[]⟩, boot_drawn, boot_toks, os⟩ (topStub pw) = some ⟨hpF w.params, ⟨[]⟩, boot_drawn, 1175, os⟩ := ⟨_, rfl, kt⟩
  rw [← hM]
  exact topRun_mono 959 _ _ _ _ k
end
end
section
open PySem PySem.W PyProof.Rows PySem.Calls
set_option maxRecDepth 100000
noncomputable def asK : List Addr := [2, 3, 15, 22, 24, 25, 27, 28, 29, 30, 31, 32, 35, 42, 43, 44, 47, 48, 49, 50, 54, 62, 63, 99, 127, 128, 134, 138, 140, 141, 161, 162, 164, 177, 178, 186, 188, 189, 191, 192, 193, 194, 195, 196, 197, 200, 207, 209, 210, 212, 213, 214, 215, 216, 219, 221, 222, 224, 225, 226, 228, 229, 231, 232, 233, 236, 237, 238, 240, 241, 243, 244, 245, 247, 248, 250, 251, 252, 254, 255, 257, 258, 259, 260, 261, 262, 264, 265, 267, 268, 269, 271, 272, 274, 275, 276, 278, 279, 281, 282, 283, 285, 286, 288, 289, 290, 293, 294, 295, 297, 298, 300, 301, 302, 303, 304, 305, 306, 307, 308, 309, 310, 311, 312, 313, 314, 315, 316, 317, 319, 320, 322, 323, 324, 326, 327, 329, 330, 331, 334, 335, 336, 338, 339, 341, 342, 343, 345, 346, 348, 349, 350, 353, 354]
noncomputable def hK : Hook := kHook KK asK (fun _ => by kernel_rfl)
noncomputable def loN : List Str := ["PerlError", "BadOps", "VOID", "SHAPES", "LEAVING", "KEEPING", "OpsCode", "WeighedCode", "shape_of", "effect_of", "jumps_of", "goes_on", "heights_at", "subs_used", "SLOTS", "CODES", "MAKERS", "need_number", "check_numbers", "check_row", "heights_of", "check_on_pad", "check_code", "_law_places", "_law_odd", "_law_scoop", "_law_run", "_law_bent", "_law_is_whole", "_law_is_let"]
noncomputable abbrev rW : RowW := OpenRow.toRowW (OpenLaw.row PySem.Challenge.rw_qz0086_01)
noncomputable def xtK : Shared → Bool := fun s => xlAt vw [] s && recOk (RowW.records rW) s
noncomputable abbrev sF (w : World) (os : OsState) : Shared := ⟨hpF w.params, ⟨[]⟩, boot_drawn, 1175, os⟩
theorem l_1 (w : World) (os : OsState) : (staticsOk (importedModules pw.main.body) (boot_heap w.params) (hpF w.params) && namesBound pw (hpF w.params) && gensDone (sF w os) && laidKept (boot_heap w.params) (hpF w.params)) = true := by
  kernel_rfl
theorem l_2 (w : World) (os : OsState) : openSeen vw loN (importedModules pw.main.body) xtK true (sF w os) = openGood vw loN := by
  rw [Fast.te4187177175401517315]
  kernel_rfl
theorem l_3 (w : World) (os : OsState) : hK.obs (sF w os) = hK.val w := by
  kernel_rfl
theorem h_left : LeftO pw vw loN xtK hK.obs hK.val 12000 := LeftO.of_pieces h_open h_size h_run (by decide) fun w => funext fun os => looks_pair (l_1 w os) (looks_pair (l_2 w os) (l_3 w os))
end
section -- E1
open PySem PySem.W
set_option maxRecDepth 100000
set_option maxHeartbeats 4000000
section
variable {prog : Program} {w : World} {A : Around} {E : Value → Shared → Prop} {h : Heap} {g : Array GenState} {d : Drawn} {t : Nat} {os : OsState}
variable {nm q : Str} {C N : Addr} {bs bm bmB : List Value} {hdct : Bool} {sn : List Str} {sub : List Value} {ab : Bool} {col : Option Bool} {dd : Option Addr} {k0 k1 k2 k3 k5 : Option Value} {B newId initId : String}

theorem check_new_own (F : ExcBaseFacts B newId initId bmB) (hcont : (Value.ref C :: bm).contains (.type B) = true) {M : Model} {rest : List Value} {Q : Unit → Shared → Prop} (hC : h.get? C = some (excClassObj nm q C N bs bm hdct sn sub ab col dd k0 k1 k2 k3 k5 newId))
    (hq : Q () ⟨h, g, d, t, os⟩) : wpAny M A (checkBuiltinCall newId ⟨.ref C :: rest, []⟩) Q E ⟨h, g, d, t, os⟩ := by
  have hstar := F.noStar
  simp only [checkBuiltinCall, F.newKind, F.newSplit, F.newRow]
  repeat (first | refine wpAny_loadPart_at hC ?_ | (refine wpAny_isSubtype_exc hC ?_; rw [hcont]) | refine wpAny_staticBase_exc hC ?_ | refine wpAny_madeBy_exc hC ?_ | simp only [bne_self_eq_false, Bool.false_eq_true, if_false] | wp_step)
  exact hq

theorem exc_new_own {R : Result → Shared → Prop} (F : ExcBaseFacts B newId initId bmB) (hcB : (Value.ref C :: bm).contains (.type B) = true) (hcA : (Value.ref C :: bm).contains (.type "AttributeError") = false) (hcN : (Value.ref C :: bm).contains (.type "NameError") = false) {rest : List Value} (hC : h.get? C = some (excClassObj nm q C N bs bm hdct sn sub ab col dd k0 k1 k2 k3 k5 newId))
    (hq : R (.ok (.ret (.ref (h.objs.size + 1)))) ⟨(h.push { cls := .type "tuple", data := .seq rest.toArray }).push
      { cls := .ref C, data := .fields #[.ref h.objs.size, .none, .none, .none, .bool false, .none] }, g, d, t, os⟩) (hrest : rest.length ≤ sizeLine := by size_fits) :
    codeAny (model prog w) A (.builtin newId ⟨.ref C :: rest, []⟩) R ⟨h, g, d, t, os⟩ := by
  have hends := F.ends
  refine codeAny_builtinAt F.entry ?_
  unfold Builtin.«BaseException.__new__»
  refine wpAt_bind ?_
  show wpAt _ _ _ (stack >>= _) _ _ _
  refine wpAt_bind (wpAt_stack fun p below => wpAt_of_wpAny ?_)
  wp_walk
  refine wpAt_of_wpAny ?_
  rw [F.owner]
  repeat (first | with_reducible refine wpAny_madeHere_exc F.canon hC ?_ | with_reducible refine wpAny_loadPart_at hC ?_ | (with_reducible refine wpAny_isSubtype_exc hC ?_; first | rw [hcB] | rw [hcA] | rw [hcN]) | wp_step)
  show R _ _
  rw [Heap.size_push]
  exact hq

theorem check_init_own (F : ExcBaseFacts B newId initId bmB) (hcB : (Value.ref C :: bm).contains (.type B) = true) {M : Model} {e : Addr} {oe : Obj} {rest : List Value} {Q : Unit → Shared → Prop}
    (hC : h.get? C = some (excClassObj nm q C N bs bm hdct sn sub ab col dd k0 k1 k2 k3 k5 newId)) (he : h.get? e = some oe) (hcls : oe.cls = .ref C) (hq : Q () ⟨h, g, d, t, os⟩) :
    wpAny M A (checkBuiltinCall initId ⟨.ref e :: rest, []⟩) Q E ⟨h, g, d, t, os⟩ := by
  have hshort := F.noStar
  simp only [checkBuiltinCall, F.initKind, F.initSplit, F.initRow]
  repeat (first | (with_reducible refine wpAny_loadPart_at he ?_; rw [hcls]) | with_reducible refine wpAny_loadPart_at hC ?_ | (with_reducible refine wpAny_isSubtype_exc hC ?_; rw [hcB]) | wp_step)
  refine wpAny_onRaise ?_
  rw [show ∀ (a b : String) (n : Nat), Bind.check ⟨.positional, "*", B, .self, [⟨"args", .varPos, false⟩]⟩ a b n (List.map (fun x => x.fst) ({ pos := Value.ref e :: rest } : Args).kw) = pure () from
    fun a b n => check_star_args _ _ _ _ _ _]
  exact wpAny_pure hq

theorem type_call_own (F : ExcBaseFacts B newId initId bmB) (hcB : (Value.ref C :: bm).contains (.type B) = true) (hcA : (Value.ref C :: bm).contains (.type "AttributeError") = false) (hcN : (Value.ref C :: bm).contains (.type "NameError") = false) {K : Frag} {rest : List Value} {fI : Addr} {oI : Obj} {Q : Fin → Shared → Prop}
    (X : K.In h) (hC : h.get? C = some (excClassObj nm q C N bs bm hdct sn sub ab col dd k0 k1 k2 k3 k5 newId)) (hi : findIn K (.ref C) "__init__" = some (some (.ref fI)))
    (hfI : h.get? fI = some oI) (hfc : oI.cls = .type "function")
    (hq : ∀ h' e, Heap.MadeExcOf h h' e (.ref C) rest →
      wpAny (model prog w) A (call (.ref fI) (.ref e :: rest)) (fun r s' => r = .none ∧ Q (.done (.ret (.ref e))) s') E ⟨h', g, d, t, os⟩) (hrest : rest.length ≤ sizeLine := by size_fits) :
    wpAny (model prog w) A (Builtin.«type.__call__» ⟨.ref C :: rest, []⟩) Q E ⟨h, g, d, t, os⟩ := by
  repeat (first | with_reducible refine wpAny_loadPart_at hC ?_ | with_reducible refine wpAny_madeBy_exc hC ?_ | wp_step)
  refine codeAny_call_builtin_code (Code.quiet_builtin _ F.quiet) (check_new_own F hcB hC ?_)
  refine exc_new_own F hcB hcA hcN hC ?_ hrest
  show wpAny _ _ _ _ _ _
  have hC₁ := Heap.get?_push_of_some { cls := .ref C, data := .fields #[.ref h.objs.size, .none, .none, .none, .bool false, .none] }
    (Heap.get?_push_of_some { cls := .type "tuple", data := .seq rest.toArray } hC)
  have hfI₁ := Heap.get?_push_of_some { cls := .ref C, data := .fields #[.ref h.objs.size, .none, .none, .none, .bool false, .none] }
    (Heap.get?_push_of_some { cls := .type "tuple", data := .seq rest.toArray } hfI)
  have hget : ((h.push { cls := .type "tuple", data := .seq rest.toArray }).push
      { cls := .ref C, data := .fields #[.ref h.objs.size, .none, .none, .none, .bool false, .none] }).get? (h.objs.size + 1) = some
      { cls := .ref C, data := .fields #[.ref h.objs.size, .none, .none, .none, .bool false, .none] } := by heap_get
  have hcC : (Value.ref C :: bm).contains (.ref C) = true := by simp
  have X₁ : K.In ((h.push { cls := .type "tuple", data := .seq rest.toArray }).push
      { cls := .ref C, data := .fields #[.ref h.objs.size, .none, .none, .none, .bool false, .none] }) := fun a o e => Heap.get?_push_of_some _ (Heap.get?_push_of_some _ (X a o e))
  unfold isInstance
  repeat (first | with_reducible refine wpAny_loadPart_at hget ?_ | (with_reducible refine wpAny_isSubtype_exc hC₁ ?_; rw [hcC]) | wp_step)
  show wpAny _ _ (typeLookup (.ref C) _) _ _ _
  refine (looks_findIn X₁ hi).at ?_
  refine wpAny_holding (wpAny_bind ?_)
  unfold bindSpecial
  refine wpAny_bind (wpAny_typeOf (T := "function") ⟨_, hfI₁, hfc⟩ ?_)
  rw [if_pos (by decide)]
  refine wpAny_pure (wpAny_bind (wpAny_mono (hq _ (h.objs.size + 1) ⟨fun b o hb => Heap.get?_push_of_some _ (Heap.get?_push_of_some _ hb), Heap.get?_none_of_le (Nat.le_succ _), h.objs.size, hget, Heap.get?_none_of_le (Nat.le_refl _), ?_⟩) (fun r s' hr => ?_) fun _ _ x => x))
  · exact Heap.get?_push_of_some _ (Heap.get?_push_at rfl rfl)
  · obtain ⟨rfl, hQ⟩ := hr
    wp_walk
    exact hQ

theorem call_own (F : ExcBaseFacts B newId initId bmB) (hcB : (Value.ref C :: bm).contains (.type B) = true) (hcA : (Value.ref C :: bm).contains (.type "AttributeError") = false) (hcN : (Value.ref C :: bm).contains (.type "NameError") = false) {K : Frag} {rest : List Value} {fI : Addr} {oI : Obj} {Q : Value → Shared → Prop}
    (X : K.In h) (hC : h.get? C = some (excClassObj nm q C N bs bm hdct sn sub ab col dd k0 k1 k2 k3 k5 newId)) (hi : findIn K (.ref C) "__init__" = some (some (.ref fI)))
    (hfI : h.get? fI = some oI) (hfc : oI.cls = .type "function")
    (hq : ∀ h' e, Heap.MadeExcOf h h' e (.ref C) rest →
      wpAny (model prog w) (A.under (.builtin "type.__call__" ⟨.ref C :: rest, []⟩)) (call (.ref fI) (.ref e :: rest)) (fun r s' => r = .none ∧ Q (.ref e) s') E ⟨h', g, d, t, os⟩) (hrest : rest.length ≤ sizeLine := by size_fits) :
    wpAny (model prog w) A (call (.ref C) rest) Q E ⟨h, g, d, t, os⟩ := by
  have f1 := tc_lookup
  have f2 := tc_bind (.ref C)
  have hT : (⟨h, g, d, t, os⟩ : Shared).TypeIs (.ref C) "type" := ⟨_, hC, rfl⟩
  refine wpAny_call (codeAny_of_tree ?_)
  show wpAny _ _ (callAny (.ref C) _) _ _ _
  repeat (any_goals (first | assumption | with_reducible refine wpAny_loadPart_at hC ?_ | wp_step))
  refine ⟨rfl, ?_⟩
  refine codeAny_call_builtin_at (Code.quiet_builtin _ (by decide +kernel)) entry_typeCall (wpAny_check_type_call_sub hC (type_call_own (hrest := hrest) F hcB hcA hcN X hC hi hfI hfc fun h' e hm => ?_))
  exact hq h' e hm
end
end -- E1
section -- E2
open PySem PySem.W PySem.Builtin PySem.Builtin.ObjectAttr
set_option maxRecDepth 100000
set_option maxHeartbeats 4000000
section
variable {prog : Program} {w : World} {A : Around} {E : Value → Shared → Prop} {s : Shared} {K : Frag} {x C : Addr} {R : Result → Shared → Prop} {ox : Obj}

/-- object.__setattr__ upon an own exception that has no dict yet -/
theorem osa_exc {name : Str} {tk : Tok} {v : Value} {cd : ClassData} {vs : Array Value} (X : K.In s.heap) (hx : s.heap.get? x = some ⟨.ref C, none, .fields vs, #[]⟩)
    (hc : clsIn K C = some cd) (hsub : cd.mro.contains (.type "object") = true) (hne : cd.mro.isEmpty = false) (hp : ∀ self : Value, refuseLoop self "__setattr__" cd.mro = pure ()) (hdict : cd.hasDict = true) (ht : findIn K (.ref C) name = some none)
    (h : ∀ h' tk', (∀ b o, b ≠ x → s.heap.get? b = some o → h'.get? b = some o) → h'.get? x = some ⟨.ref C, some s.heap.objs.size, .fields vs, #[]⟩ →
      R (.ok (.ret .none)) { s with heap := h', toks := tk' }) :
    codeAny (model prog w) A (.call (.builtin "object.__setattr__") ⟨[.ref x, .str name tk, v], []⟩) R s := by
  have I : InstAt s.heap x ⟨.ref C, none, .fields vs, #[]⟩ C none := ⟨hx, rfl, rfl, trivial⟩
  have SF := PySem.F.store_object
  have sub : Looks (model prog w) s.heap (isInstance (.ref x) (.type "object")) true := I.type.andThen (looks_mroIn X (by unfold mroIn; rw [hc, Option.bind_some, if_neg (by rw [hne]; decide), hsub]))
  refine codeAny_call_builtin SF.slot.plain SF.entry (@check_slot (model prog w) _ _ s "object.__setattr__" "object" "__setattr__" (.ref x) [.str name tk, v] [] _ SF.kind SF.split sub (SF.args (.ref x) (.str name tk) v) ?_)
  have hm : Looks (model prog w) s.heap (mroOf (.ref C)) cd.mro := (looks_clsIn X hc).andThen .now
  have hhc := looks_clsIn (M := model prog w) X hc
  obtain ⟨hh, g, d, t, os⟩ := s
  rw [osa_eq, refuse_eq]
  refine wpAny_bind (wpAny_bind (I.type.here (wpAny_bind (hm.here ?_))))
  rw [hp]
  refine wpAny_pure (wpAny_bind (I.type.here (wpAny_bind ((looks_findIn X ht).here (wpAny_bind (wpAny_pure ?_))))))
  show wpAny _ _ (storeInOwnDict (.ref x) (.ref C) (.str name tk) name v false) _ _ _
  refine wpAny_bind (wpAny_pure (wpAny_bind (wpAny_bind (wpAny_loadPart hx (wpAny_bind (hhc.here ?_))))))
  rw [hdict]
  have hx₁ : (hh.push { cls := .type "dict", data := .dict #[] }).get? x = some ⟨.ref C, none, .fields vs, #[]⟩ := Heap.get?_push_of_some _ hx
  have hxs : x ≠ hh.objs.size := Nat.ne_of_lt (Heap.lt_size hx)
  have hgd : ((hh.push { cls := .type "dict", data := .dict #[] }).update x fun o => { cls := o.cls, dict := some hh.objs.size, data := o.data, slots := o.slots }).get? hh.objs.size
      = some { cls := .type "dict", data := .dict #[] } :=
    (Heap.get?_update_ne _ _ _ _ hxs.symm).trans (Heap.get?_push_at rfl rfl)
  have hnd : ((hh.push { cls := .type "dict", data := .dict #[] }).update x fun o => { cls := o.cls, dict := some hh.objs.size, data := o.data, slots := o.slots }).Ns hh.objs.size (fun _ => none) :=
    ⟨_, #[], _, hgd, rfl, fun e he => absurd he (by simp), fun _ => rfl⟩
  have key : ∀ Q2 : Fin → Shared → Prop, (∀ h' tk', (∀ b o, b ≠ x → hh.get? b = some o → h'.get? b = some o) → h'.get? x = some ⟨.ref C, some hh.objs.size, .fields vs, #[]⟩ → Q2 (.done (.ret .none)) ⟨h', g, d, tk', os⟩) → ∀ E2 A2,
      wpAny (model prog w) A2 (storeInDict hh.objs.size (.str name tk) name v) Q2 E2 ⟨(hh.push { cls := .type "dict", data := .dict #[] }).update x fun o => { cls := o.cls, dict := some hh.objs.size, data := o.data, slots := o.slots }, g, d, t, os⟩ := by
    intro Q2 hQ2 E2 A2
    unfold storeInDict newKeyGuard
    refine wpAny_bind (wpAny_pure (wpAny_bind (wpAny_nsSet1 (Heap.Ns1.of_empty hnd) fun h' hn' hs => ?_)))
    obtain ⟨oD, esD, epD, hoD, hdD, hcD⟩ := hn'.count (Within.cons name v Within.nil)
    refine wpAny_bind (wpAny_lookBehind hoD (by rw [hdD]; exact pastItsLine_dict (Nat.le_trans hcD (by rw [List.length_cons, List.length_nil, sizeLine_eq]; omega))) ?_)
    refine wpAny_pure (hQ2 _ _ (fun b o hb ho => ?_) ?_)
    · rw [hs.2 b (fun z => by rw [z] at ho; exact absurd (Heap.lt_size ho) (Nat.lt_irrefl _)), Heap.get?_update_ne _ _ _ _ hb]
      exact Heap.get?_push_of_some _ ho
    · rw [hs.2 x hxs, Heap.get?_update_self _ hx₁ rfl]
  refine wpAny_bind (wpAny_alloc' ?_)
  refine wpAny_bind (wpAny_update' hx₁ (wpAny_pure ?_))
  exact key _ (fun h' tk' a b => h h' tk' a b) _ _
end
end -- E2
section -- E3
open PySem PySem.W
set_option maxRecDepth 100000
set_option maxHeartbeats 4000000
section
variable {g h h' : Heap} {L e : Addr} {m : Str → Option Value} {o : Obj}
theorem fr_exc (F : PyProof.Rows.Fr g L h m) (hk : ∀ b o, b ≠ e → h.get? b = some o → h'.get? b = some o) (hne : e ≠ L) (hg : g.get? e = none) : PyProof.Rows.Fr g L h' m :=
  ⟨let ⟨o, es, ep, hL, r⟩ := F.ns; ⟨o, es, ep, hk L o hne.symm hL, r⟩, fun b o q => hk b o (fun z => by rw [z, hg] at q; cases q) (F.keep b o q), F.above⟩
theorem news_exc {o' : Obj} (N : PyProof.Rows.News g L h [(e, o)]) (ho : h'.get? e = some o') : PyProof.Rows.News g L h' [(e, o')] := fun p hp => by
  rw [List.mem_singleton.mp hp]
  exact ⟨ho, (N _ (.head _)).2⟩
end
section
variable {prog : Program} {w : World} {A : Around} {R : Result → Shared → Prop} {h : Heap} {g : Array GenState} {d : Drawn} {t : Nat} {os : OsState}
variable {nm q : Str} {C N e : Addr} {bs bm bmB : List Value} {hdct : Bool} {sn : List Str} {sub : List Value} {ab : Bool} {col : Option Bool} {dd : Option Addr} {k0 k1 k2 k3 k5 : Option Value} {B newId initId : String}
noncomputable abbrev excOb (C : Addr) (dd : Option Addr) (t : Addr) : Obj := ⟨.ref C, dd, .fields #[.ref t, .none, .none, .none, .bool false, .none], #[]⟩
theorem exc_init (F : ExcBaseFacts B newId initId bmB) (hcB : (Value.ref C :: bm).contains (.type B) = true) {tt : Addr} {v : Value}
    (hC : h.get? C = some (excClassObj nm q C N bs bm hdct sn sub ab col dd k0 k1 k2 k3 k5 newId)) (he : h.get? e = some (excOb C none tt))
    (hq : ∀ h', (∀ b o, b ≠ e → h.get? b = some o → h'.get? b = some o) → h'.get? e = some (excOb C none h.objs.size) → R (.ok (.ret .none)) ⟨h', g, d, t, os⟩) :
    codeAny (model prog w) A (.call (.builtin initId) ⟨[.ref e, v], []⟩) R ⟨h, g, d, t, os⟩ := by
  have he₁ := Heap.get?_push_of_some { cls := .type "tuple", data := .seq #[v] } he
  refine codeAny_call_builtin F.init.plain F.initEntry (check_init_own F hcB hC he rfl ?_)
  wp_walk
  refine hq _ (fun b o hb ho => ?_) ?_
  · rw [Heap.get?_update_ne _ _ _ _ hb]
    exact Heap.get?_push_of_some _ ho
  · rw [Heap.get?_update_self _ he₁ rfl]
    rfl
end
section
open PyProof.Rows
variable {M : Model} {A : Around} {E : Value → Shared → Prop} {s' : Shared} {base g : Heap} {outer : List Env} {L a e : Addr} {m : Str → Option Value} {name : Str} {scope : Scope} {cd : Value} {Q : Unit → Shared → Prop}
theorem funFrames_hid {base h g : Heap} {as : List Addr} : ∀ {l : List Env}, h.FunFrames base l → (∀ env ∈ l, ∀ a, env.frame = some a → a ∈ as) → h.FunFrames (hideAll g as) l
  | [], _, _ => trivial
  | env :: _, ⟨hk, ⟨L, o, hf, _, ho, hd⟩, hr⟩, hin => ⟨hk, ⟨L, o, hf, hideAll_none _ (hin env (.head _) L hf), ho, hd⟩, funFrames_hid hr fun e he => hin e (.tail _ he)⟩
theorem leave_bad {ob : Obj} {vs : Array Value} {a0 cls : Value} (K : Below A base outer g) (F : Fr g L s'.heap m) (he : s'.heap.get? e = some ob) (hn : g.get? e = none) (hcl : ob.cls = cls) (hd : ob.data = .fields vs) (h0 : vs[0]? = some a0) (h1 : vs[1]? = some .none)
    (hQ : ∀ h', RaisedN base outer e cls [] h' → g.UpToSlots h' → Q () { s' with heap := h' }) (hk : scope.kind = .function := by rfl) :
    wpAny M (A.deeper (envOf name scope L a cd)) (leaving (envOf name scope L a cd) (.ref e)) Q E s' := by
  have K' := K.push (name := name) (a := a) (cd := cd) F hk
  have hin : ∀ env ∈ (envOf name scope L a cd :: outer), ∀ b, env.frame = some b → b ∈ (envOf name scope L a cd :: outer).filterMap (·.frame) := fun env he b hb => List.mem_filterMap.mpr ⟨env, he, hb⟩
  have hB : base.StaysIn (hideAll g ((envOf name scope L a cd :: outer).filterMap (·.frame))) := fun b o q => hideAll_get _ (K.stays b o q) fun hm => by
    rw [(K'.frames.mem hm).1] at q; cases q
  have hen : (hideAll g ((envOf name scope L a cd :: outer).filterMap (·.frame))).get? e = none := by
    cases q : (hideAll g ((envOf name scope L a cd :: outer).filterMap (·.frame))).get? e with
    | none => rfl
    | some o => have := of_hideAll _ q; rw [hn] at this; cases this
  have hl : s'.heap.FunFrames (hideAll g ((envOf name scope L a cd :: outer).filterMap (·.frame))) (envOf name scope L a cd :: outer) := funFrames_hid K'.frames hin
  refine wpAny_leaving_firstW (a0 := a0) K'.stack hl rfl he (fun b o hb => F.keep b o (of_hideAll _ hb)) hen hd h1 h0 fun h' hL => ?_
  obtain ⟨k1, ⟨_, _, k2⟩, k3, k4⟩ := hL
  exact hQ h' ⟨_, a0, hB, fun q hq => (nomatch hq), k1, hen, k2, by rw [← hcl]; exact k3⟩ ((Heap.UpToSlots.of_keeps F.keep).trans k4)
end
end -- E3
section -- R1
open PySem PySem.W PyProof.Rows PySem.Calls
set_option maxRecDepth 100000
set_option maxHeartbeats 8000000
theorem meta_exc : typeOf (.type "Exception") = pure (.type "type") := by kernel_rfl
local macro_rules | `(tactic| k_room) => `(tactic| k_extra "z0")
section
variable {w : World} {mean : ExcName → Option Value} {mg mb : Str → Option Value} {dp un : Nat} {gd : Option (List Code)} {cn : Str} {cs : Scope} {a : Addr} {ccd : Value} {cl : List (Str × Addr)} {outer : List Env} {A₀ : Around} {base h₀ : Heap} {L : Addr} {m : Str → Option Value} {news : List (Addr × Obj)} {s : Shared} {Q E : Value → Shared → Prop}
/-- PerlError.__init__ upon a new exception -/
theorem init_bad {e t : Addr} {tx : Str} {k : Tok} {args : Args} (B : Below A₀ base outer h₀) (F : Fr h₀ L s.heap m) (X : (KK w.params).In h₀) (N : News h₀ L s.heap [(e, excOb 44 none t)]) (T : Top vw lo mean mg mb h₀) (hk : cs.kind = .function) (hroom : dp + 2 < recursionLimit)
    (ret : ∀ h' tk' dd t', Fr h₀ L h' m → News h₀ L h' [(e, excOb 44 dd t')] → Q .none { s with heap := h', toks := tk' }) :
    wpAny (model PySem.Challenge.rw_qz0086_01.row.prog w) ((ktrTop dp un gd cn cs L a ccd cl outer).under (.builtin "type.__call__" ⟨.ref 44 :: args.pos, []⟩)) (call (.ref 28) [.ref e, .str tx k]) Q E s := by
  revert X N T
  k_fill
  intro X N T
  refine wpAny_call ?_
  refine' code_def (binds := [(Str.ofString "self", .ref e), (Str.ofString "text", .str tx k)]) B F X N T rfl rfl hk ?k6 ?k7 ?k8 ?k9 ?kB ?_ ?c2 ?c3 ?c4 ?c5
  case k6 => k_is
  case k7 => k_is
  case k8 => k_room
  case k9 => exact BindsTo.of_eq rfl
  case c5 => decide
  case kB => exact locs rfl
  case c2 => exact rfl
  case c3 => exact rfl
  case c4 => exact rfl
  intro g' L' h' FG' F' N' B' X' T'
  dsimp only
  (conv in fdB _ => whnf)
  k_fold
  k_steps
  · refine' method_type (v := .builtin "Exception.__init__") F' X' ?m (by decide +kernel) ?e rfl ?_
    case m => exact meta_exc
    case e => with_unfolding_all rfl
    k_steps
    refine wpAny_call ?_
    have P := N' _ (.head _)
    refine' exc_init PySem.F.excBase_Exception ?b (F'.keep _ _ (X' _ _ ?c)) P.1 ?_
    case c => k_is
    case b => decide +kernel
    intro h2 hk2 he2
    have F2 := fr_exc F' hk2 P.2.1 P.2.2
    have N2 := news_exc N' he2
    clear N' hk2
    dsimp only
    k_steps
    have X2 := X'.keeps F2.keep
    refine' set_plain (od := none) X2 ⟨he2, rfl, rfl, trivial⟩ ?s ?_
    case s => k_is
    refine' osa_exc X2 he2 ?c1 ?c2 ?c3 ?c4 ?c5 ?c6 ?_
    case c1 => with_unfolding_all rfl
    case c6 => k_is
    case c2 => decide +kernel
    case c3 => rfl
    case c5 => rfl
    case c4 => intro self; kernel_rfl
    intro h3 tk3 hk3 he3
    have F3 := fr_exc F2 hk3 P.2.1 P.2.2
    have N3 := news_exc N2 he3
    clear N2 hk3 F2 X2 he2 F'
    dsimp only
    k_steps
    exact ret _ _ _ _ (by assumption) (by assumption)

theorem raise_new {prog : Program} {A : Around} {env : Env} {C : Addr} {x : Sem Value} {Q : Flow → Shared → Prop} {nm q : Str} {N : Addr} {bs bm : List Value} {hdct : Bool} {sn : List Str} {sub : List Value} {ab : Bool} {col : Option Bool} {dd : Option Addr} {k0 k1 k2 k3 k5 : Option Value} {newId : String}
    {K : Frag} (hC0 : K.lookup C = some (excClassObj nm q C N bs bm hdct sn sub ab col dd k0 k1 k2 k3 k5 newId)) (hcB : (Value.ref C :: bm).contains (.type "BaseException") = true) (hh : A.handled = none)
    (h : wpAny (model prog w) A x (fun v s₁ => ∃ (e : Addr) (oe : Option Addr × Addr), v = .ref e ∧ K.In s₁.heap ∧
      s₁.heap.get? e = some (excOb C oe.1 oe.2) ∧ E (.ref e) s₁) E s) :
    wpAny (model prog w) A (raiseStmt env (some x) none) Q E s := by
  unfold raiseStmt
  refine wpAny_bind (wpAny_mono h (fun v s₁ h₁ => ?_) fun _ _ x => x)
  obtain ⟨e, oe, rfl, XC, he, hE⟩ := h₁
  have hC := XC _ _ hC0
  obtain ⟨hp, g, d, tk, os⟩ := s₁
  repeat (first | with_reducible refine wpAny_loadPart_at he ?_ | with_reducible refine wpAny_loadPart_at hC ?_ | (with_reducible refine wpAny_isSubtype_exc hC ?_; rw [hcB]) | wp_step)
  exact wpAny_raiseNew_none hh hE

theorem call_bad {tx : Str} {k : Tok} (B : Below A₀ base outer h₀) (F : Fr h₀ L s.heap m) (X : (KK w.params).In h₀) (T : Top vw lo mean mg mb h₀) (hk : cs.kind = .function) (hroom : dp + 2 < recursionLimit)
    (ret : ∀ h' tk' e dd t', Fr h₀ L h' m → News h₀ L h' [(e, excOb 44 dd t')] → Q (.ref e) { s with heap := h', toks := tk' }) :
    wpAny (model PySem.Challenge.rw_qz0086_01.row.prog w) (ktrTop dp un gd cn cs L a ccd cl outer) (call (.ref 44) [.str tx k]) Q E s := by
  have hi : findIn (KK w.params) (.ref 44) "__init__" = some (some (.ref 28)) := by
    revert X T; k_fill; intro X T; k_is
  have X1 := X.keeps F.keep
  have hf : ∃ oI, s.heap.get? 28 = some oI ∧ oI.cls = .type "function" := ⟨_, X1 28 _ (by with_unfolding_all rfl), rfl⟩
  obtain ⟨oI, hfI, hfc⟩ := hf
  obtain ⟨hp, g, d, tk, os⟩ := s
  refine call_own PySem.F.excBase_Exception ?_ ?_ ?_ X1 (X1 44 _ (by with_unfolding_all rfl)) hi hfI hfc (fun h' e hm => ?_)
  · decide +kernel
  · decide +kernel
  · decide +kernel
  obtain ⟨hkp, hnew, t, he, ht, htup⟩ := hm
  have F1 : Fr h₀ L h' m := F.after hkp
  have hL : e ≠ L := fun z => by
    obtain ⟨o, es, ep, q, r⟩ := F.ns
    rw [z] at hnew; rw [hnew] at q; cases q
  have hg : h₀.get? e = none := by
    cases q : h₀.get? e with
    | none => rfl
    | some o => have := F.keep _ _ q; rw [hnew] at this; cases this
  refine init_bad (args := ⟨[.str tx k], []⟩) B F1 X (fun p hp => by rw [List.mem_singleton.mp hp]; exact ⟨he, hL, hg⟩) T hk hroom fun h2 tk2 dd t' F2 N2 => ⟨rfl, ret h2 tk2 e dd t' F2 N2⟩

theorem raise_bad {A : Around} {env : Env} {e : Expr} {pos : Pos} {Q : Flow → Shared → Prop} (hA : A.handled = none) (_F : Fr h₀ L s.heap m) (X : (KK w.params).In h₀)
    (h : wpAny (model PySem.Challenge.rw_qz0086_01.row.prog w) A (eval e env) (fun v s₁ => ∃ x dd t', v = .ref x ∧ Fr h₀ L s₁.heap m ∧ News h₀ L s₁.heap [(x, excOb 44 dd t')] ∧ E v s₁) E s) :
    wpAny (model PySem.Challenge.rw_qz0086_01.row.prog w) A (exec (.Raise (some e) none pos) env) Q E s := by
  rw [arm_exec_Raise]
  refine' wpAny_bind (wpAny_standAt (raise_new (K := KK w.params) (C := 44) ?hl ?hb hA (wpAny_bind (wpAny_mono h (fun v s₁ h₁ => wpAny_bind (wpAny_standAt (wpAny_pure ?_))) fun _ _ x => x))))
  case hl => with_unfolding_all rfl
  case hb => decide +kernel
  obtain ⟨x, dd, t', rfl, F, N, hE⟩ := h₁
  exact ⟨x, (dd, t'), rfl, X.keeps F.keep, (N _ (.head _)).1, hE⟩
end
end -- R1
section -- C1
open PySem PySem.W PyProof.Rows PySem.Calls
set_option maxRecDepth 100000
set_option maxHeartbeats 8000000
noncomputable def Flew (base h₀ : Heap) (l : List Env) (L : Addr) (m : Str → Option Value) (x : Value) (h : Heap) : Prop :=
  ∃ e g, x = .ref e ∧ Fr h₀ L g m ∧ g.UpToSlots h ∧ RaisedN base l e (.ref 44) [] h
theorem allne_of {l : List (Addr × Obj)} {b d : Nat} (h : ∀ p ∈ l, p.1 < b) (hle : b ≤ d) : ∀ p ∈ l, p.1 ≠ d := fun p hp => Nat.ne_of_lt (Nat.lt_of_lt_of_le (h p hp) hle)
theorem news_sub2 {g h : Heap} {L : Addr} {q c1 c2 : Addr × Obj} {news : List (Addr × Obj)} (N : News g L h (q :: c1 :: c2 :: news)) : News g L h (q :: news) := fun p hp => N p ((List.mem_cons.mp hp).elim (fun e => e ▸ .head _) fun e => .tail _ (.tail _ (.tail _ e)))
theorem news_tail {g h : Heap} {L : Addr} {q : Addr × Obj} {news : List (Addr × Obj)} (N : News g L h (q :: news)) : News g L h news := fun p hp => N p (.tail _ hp)
theorem off1_mem {D : Addr} : ∀ {l : List (Addr × Obj)}, LCg.Off1 D l → ∀ p ∈ l, p.1 ≠ D
  | [], _, _, h => nomatch h
  | _ :: _, x, p, h => by
    rcases List.mem_cons.mp h with rfl | h
    · exact x.1
    · exact off1_mem x.2 p h
section
variable {M : Model} {A : Around} {E : Value → Shared → Prop} {s' : Shared} {base g h₀ : Heap} {envc : Env} {outer : List Env} {L L' a e : Addr} {m m' : Str → Option Value} {name : Str} {scope : Scope} {cd : Value} {Q : Unit → Shared → Prop}
theorem leave_own {dd : Option Addr} {t' : Addr} (K : Below A base outer g) (FG : Fr h₀ L g m) (F : Fr g L' s'.heap m') (N : News g L' s'.heap [(e, excOb 44 dd t')])
    (hQ : ∀ h', Flew base h₀ outer L m (.ref e) h' → Q () { s' with heap := h' }) (hk : scope.kind = .function := by rfl) :
    wpAny M (A.deeper (envOf name scope L' a cd)) (leaving (envOf name scope L' a cd) (.ref e)) Q E s' :=
  leave_bad K F (N _ (.head _)).1 (N _ (.head _)).2.2 rfl rfl rfl rfl (fun h' R u => hQ h' ⟨e, g, rfl, FG, u, R⟩) hk
theorem leave_pass {x : Value} (K : Below A base outer g) (FG : Fr h₀ L g m) (R : Flew base g (envOf name scope L' a cd :: outer) L' m' x s'.heap)
    (hQ : ∀ h', Flew base h₀ outer L m x h' → Q () { s' with heap := h' }) :
    wpAny M (A.deeper (envOf name scope L' a cd)) (leaving (envOf name scope L' a cd) x) Q E s' := by
  obtain ⟨e, g₂, rfl, F, u, R⟩ := R
  exact leave_onN K F R u fun h' R' u' => hQ h' ⟨e, g, rfl, FG, u', R'⟩
end
end -- C1
section -- C2
open PySem PySem.W PyProof.Rows PySem.Calls
set_option maxRecDepth 100000
set_option maxHeartbeats 4000000
section
variable {w : World} {A₀ : Around} {E : Value → Shared → Prop} {s' : Shared} {h₀ : Heap} {outer : List Env} {L a : Addr} {m : Str → Option Value} {name : Str} {scope : Scope} {cd : Value}
  {b₀ : Stmt} {suite : List Stmt} {pos np : Pos} {rest : List ExceptHandler} {Q : Flow → Shared → Prop} {p : Program} {loose : List Str} {mg mb : Str → Option Value} {x : Str} {ev : Value}
theorem bad_cls (w : World) : ∃ nm q N bs bm hdct sn sub ab col dd k0 k1 k2 k3 k5 newId, (KK w.params).lookup 44 = some (excClassObj nm q 44 N bs bm hdct sn sub ab col dd k0 k1 k2 k3 k5 newId) ∧ bm.contains (.type "BaseException") = true :=
  ⟨_, _, _, _, _, _, _, _, _, _, _, _, _, _, _, _, _, by with_unfolding_all rfl, by decide +kernel⟩
theorem caught_bad (K : Below A₀ h₀ outer h₀) (R : Flew h₀ h₀ (envOf name scope L a cd :: outer) L m ev s'.heap) (X : (KK w.params).In h₀) (T : TopRead p loose mg mb h₀) (ex : nsIn (KK w.params) mainGlobals x = some (some (.ref 44)))
    (k : ∀ h', Fr h₀ L h' m → wpAny (model PySem.Challenge.rw_qz0086_01.row.prog w) ((A₀.deeper (envOf name scope L a cd)).mark (some ev)) (execs (b₀ :: suite) (envOf name scope L a cd)) Q E { s' with heap := h' })
    (hk : scope.kind = .function := by rfl) (hx : (envOf name scope L a cd).kindOf x = some .globalImplicit := by rfl) (hd : (x == ("__debug__" : Str)) = false := by decide)
    (hE : ∀ e, PassesOwnAt (model PySem.Challenge.rw_qz0086_01.row.prog w) ((A₀.deeper (envOf name scope L a cd)).mark (some (.ref e))) (A₀.deeper (envOf name scope L a cd)) (envOf name scope L a cd) E := by intro e; passes_own) :
    wpAny (model PySem.Challenge.rw_qz0086_01.row.prog w) (A₀.deeper (envOf name scope L a cd)) (noteFrame ev (envOf name scope L a cd))
      (fun _ s₂ => wpAny (model PySem.Challenge.rw_qz0086_01.row.prog w) (A₀.deeper (envOf name scope L a cd)) (setFlight ev none) (fun _ s₃ =>
        wpAny (model PySem.Challenge.rw_qz0086_01.row.prog w) (A₀.deeper (envOf name scope L a cd)) (handleBy ev (envOf name scope L a cd) (.ExceptHandler (some (.Name x np)) none (b₀ :: suite) pos :: rest)) Q E s₃) E s₂) E s' := by
  obtain ⟨e, g, rfl, F, hsm, B, a0, hB, hl, hfl⟩ := R
  refine wpAny_looks_onW (Around.frames_deeper K.stack) rfl hfl fun h₄ hheld₄ hsm₄ => ?_
  refine wpAny_landsW hheld₄ fun h₅ hheld hsm₅' => ?_
  have hsm₅ := hsm₄.trans hsm₅'
  have hheld' := flyingW_base hB hheld
  have F₅ := F.of_stays hheld'.1 (hsm.trans hsm₅)
  obtain ⟨ob, hob, hobc⟩ := hheld'.there
  refine wpAny_handleBy_cons (codeAny_handlers_test (name_K F₅ X T ex ?_ hk hx hd)) (by intro q; cases q)
  obtain ⟨nm, q, N, bs, bm, hdct, sn, sub, ab, col, dd, k0, k1, k2, k3, k5, newId, hC, hbase⟩ := bad_cls w
  refine wpAny_excMatches_sub_self (X.keeps F₅.keep _ _ hC) hob hobc hbase (codeAny_handlers_suite ?_)
  refine lands_againW hheld fun h₆ hfl₆ hsm₆ => ?_
  have hfl₆' := flyingW_base hB hfl₆
  have F₆ := F.of_stays hfl₆'.1 ((hsm.trans hsm₅).trans hsm₆)
  exact wpAny_passesOwnAt (hE e) (k h₆ F₆)
end
end -- C2
section -- V0
open PySem PySem.W PyProof.Rows PySem.Calls
section
variable {prog : Program} {w : World} {A : Around} {E : Value → Shared → Prop} {s : Shared} {env : Env} {h₀ : Heap} {L : Addr}
noncomputable def WStep (h₀ : Heap) (L : Addr) (s : Shared) (J : Nat → (Str → Option Value) → List (Addr × Obj) → Prop) (n : Nat) (f : Flow) (s₃ : Shared) : Prop :=
  (f = .next ∨ f = .cont) ∧ ∃ h' tk m₂ news₂ n', s₃ = { s with heap := h', toks := tk } ∧ Fr h₀ L h' m₂ ∧ News h₀ L h' news₂ ∧ n' < n ∧ J n' m₂ news₂
theorem While_own {test : PySem.Expr} {body : List Stmt} {pos : Pos} {m : Str → Option Value} {news : List (Addr × Obj)} {Q : Flow → Shared → Prop} (J : Nat → (Str → Option Value) → List (Addr × Obj) → Prop) {n₀ : Nat}
    (F : Fr h₀ L s.heap m) (N : News h₀ L s.heap news) (hJ : J n₀ m news)
    (turn : ∀ n m₁ news₁ h₁ tk₁, Fr h₀ L h₁ m₁ → News h₀ L h₁ news₁ → J n m₁ news₁ →
      wpAny (model prog w) A (isTrue test env (eval test env)) (fun b s₂ =>
        if b = true then wpAny (model prog w) A (execs body env) (WStep h₀ L s J n) E s₂ else Q .next s₂) E { s with heap := h₁, toks := tk₁ })
    (hE : PassesOwn (model prog w) A env E := by passes_own) :
    wpAny (model prog w) A (exec (.While test body [] pos) env) Q E s := by
  refine wpAny_While (codeAny_whileLoop (fun n s' => ∃ h₁ tk₁ m₁ news₁, s' = { s with heap := h₁, toks := tk₁ } ∧ Fr h₀ L h₁ m₁ ∧ News h₀ L h₁ news₁ ∧ J n m₁ news₁) ?_ n₀ ⟨s.heap, s.toks, m, news, rfl, F, N, hJ⟩)
  rintro n s' ⟨h₁, tk₁, m₁, news₁, rfl, F₁, N₁, J₁⟩
  refine wpAny_mono (turn n m₁ news₁ h₁ tk₁ F₁ N₁ J₁) (fun b s₂ h₂ => ?_) hE
  cases b with
  | false =>
    simp only [Bool.false_eq_true, if_false] at h₂ ⊢
    exact wpAny_execs_nil h₂
  | true =>
    simp only [if_true] at h₂ ⊢
    refine wpAny_mono h₂ (fun f s₃ h₃ => ?_) hE
    obtain ⟨hf, h', tk, m₂, news₂, n', rfl, F₂, N₂, hn, J₂⟩ := h₃
    rcases hf with rfl | rfl <;> exact ⟨n', hn, h', tk, m₂, news₂, rfl, F₂, N₂, J₂⟩
end
section
variable {prog : Program} {w : World} {A : Around} {E : Value → Shared → Prop} {s : Shared} {h₀ : Heap} {L D : Addr} {m : Str → Option Value} {news news' : List (Addr × Obj)} {vs : List Value} {n : Nat}
theorem lof_in {h : Heap} (N : News h₀ L h news) (hm : (D, W.listOf vs.toArray n) ∈ news) : h.IsList D vs.toArray := ⟨_, (N _ hm).1, rfl, _, rfl⟩
theorem lof_len {Q : Value → Shared → Prop} (N : News h₀ L s.heap news) (hm : (D, W.listOf vs.toArray n) ∈ news) (hf : vs.length ≤ 1000)
    (h : Q (.int (vs.length : Nat) (s.toks + 1)) { s with toks := s.toks + 1 + 1 }) : wpAny (model prog w) A (call (.builtin "len") [.ref D]) Q E s :=
  len_list (lof_in N hm) (by simp only [List.size_toArray]; omega) (by simpa only [List.size_toArray] using h)
theorem lof_item {value slice : PySem.Expr} {i : Nat} {u : Tok} {x : Value} {Q : Value → Shared → Prop} (N : News h₀ L s.heap news) (hm : (D, W.listOf vs.toArray n) ∈ news) (hi : vs[i]? = some x) (hf : vs.length ≤ 1000) (h : Q x s)
    (hs : subscripted slice false (.ref D) (.int (i : Int) u) = operate [.ref D, .int (i : Int) u] (getItem (.ref D) (.int (i : Int) u)) := by with_unfolding_all rfl) (hg : ∀ r, letTemporaryGo value (.ref D) r = pure () := by intro _; with_unfolding_all rfl) :
    wpAny (model prog w) A (subscriptTail value slice (.ref D) (.int (i : Int) u)) Q E s := by
  have hlt : i < vs.length := (List.getElem?_eq_some_iff.mp hi).1
  exact PyProof.Rows.item_list (lof_in N hm) (Int.natCast_nonneg i) (by omega) (by simpa using hi) h hs hg
theorem lof_truthy {Q : Bool → Shared → Prop} (N : News h₀ L s.heap news) (hm : (D, W.listOf vs.toArray n) ∈ news) (hf : vs.length ≤ 1000)
    (h : Q (!vs.isEmpty) { s with toks := s.toks + 1 + 1 }) : wpAny (model prog w) A (truthy (.ref D)) Q E s :=
  wpAny_truthy_list (lof_in N hm) (by simp only [List.size_toArray]; omega) (by rw [show (!vs.toArray.isEmpty) = !vs.isEmpty by cases vs <;> rfl]; exact h)
theorem lof_truthy1 {x : Value} {Q : Bool → Shared → Prop} (N : News h₀ L s.heap news) (hm : (D, W.listOf (vs ++ [x]).toArray n) ∈ news) (hf : vs.length ≤ 900)
    (h : Q true { s with toks := s.toks + 1 + 1 }) : wpAny (model prog w) A (truthy (.ref D)) Q E s :=
  lof_truthy N hm (by rw [List.length_append]; simp; omega) (by rw [show (!(vs ++ [x]).isEmpty) = true by cases vs <;> rfl]; exact h)
theorem lof_set {i : Nat} {t : Tok} {v : Value} {Q : Unit → Shared → Prop} (F : Fr h₀ L s.heap m) (N : News h₀ L s.heap news) (U : Upd D (W.listOf vs.toArray n) (W.listOf (vs.set i v).toArray n) news news') (hi : i < vs.length) (hf : vs.length ≤ 1000)
    (h : ∀ h', Fr h₀ L h' m → News h₀ L h' news' → Q () { s with heap := h' }) :
    wpAny (model prog w) A (setItem (.ref D) (.int (i : Int) t) v) Q E s := by
  obtain ⟨pre, post, rfl, rfl, a, b⟩ := U.split
  have z := N (D, W.listOf vs.toArray n) (List.mem_append.mpr (.inr (.head _)))
  have hs : vs.toArray.size = vs.length := List.size_toArray
  refine ki_setAt z.1 (Int.natCast_nonneg i) (by omega) (by omega) (h _ (F.change (Heap.SameBut.update ..) z.2.1 z.2.2) (ki_turn _ N a b ?_ ?_))
  · show vs.toArray.setIfInBounds (i : Int).toNat v = (vs.set i v).toArray
    apply Array.toList_inj.mp
    simp
  · simp
theorem kl_last_app : ∀ (p : List Value) (x : Value), kl_last (p ++ [x]) = some (p, x)
  | [], _ => rfl
  | y :: p, x => by
    show (match kl_last (p ++ [x]) with | some (p, z) => some (y :: p, z) | none => some ([], y)) = _
    rw [kl_last_app p x]
theorem lof_pop {x : Value} {Q : Value → Shared → Prop} (F : Fr h₀ L s.heap m) (N : News h₀ L s.heap news) (U : Upd D (W.listOf (vs ++ [x]).toArray n) (W.listOf vs.toArray (n + 1)) news news') (hf : vs.length ≤ 1000)
    (h : ∀ h', Fr h₀ L h' m → News h₀ L h' news' → Q x { s with heap := h' }) : wpAny (model prog w) A (call (.builtin "list.pop") [.ref D]) Q E s :=
  kl_pop F N (its := (vs ++ [x]).toArray) (by rw [List.toList_toArray]; exact kl_last_app vs x) U (by rw [List.toList_toArray, List.length_append, sizeLine_eq]; simp; omega) h
theorem lof_append {x : Value} {Q : Value → Shared → Prop} (F : Fr h₀ L s.heap m) (N : News h₀ L s.heap news) (U : Upd D (W.listOf vs.toArray n) (W.listOf (vs ++ [x]).toArray (n + 1)) news news') (hf : vs.length ≤ 1000)
    (h : ∀ h', Fr h₀ L h' m → News h₀ L h' news' → Q .none { s with heap := h' }) : wpAny (model prog w) A (call (.builtin "list.append") [.ref D, x]) Q E s :=
  append_K (its := vs.toArray) F N (by rw [List.push_toArray]; exact U) h (by rw [List.size_toArray, sizeLine_eq]; omega)
theorem rep_flat : ∀ k : Nat, (List.replicate k [Value.none]).flatten = List.replicate k Value.none
  | 0 => rfl
  | k + 1 => by rw [List.replicate_succ, List.flatten_cons, rep_flat k]; rfl
theorem none_mul {k : Nat} {u : Tok} {l : Addr} {Q : Value → Shared → Prop} (F : Fr h₀ L s.heap m) (N : News h₀ L s.heap news) (hm : (l, W.listOf [Value.none].toArray n) ∈ news) (hk : k ≤ 200)
    (h : ∀ D h', Fr h₀ L h' m → News h₀ L h' ((D, W.listOf (List.replicate k Value.none).toArray 0) :: news) → (∀ p ∈ news, p.1 < D) → Q (.ref D) { s with heap := h' }) :
    wpAny (model prog w) A (binaryOp .Mult (.ref l) (.int (k : Int) u)) Q E s :=
  KMa.mul F N (lof_in N hm) (by omega) (by omega) (by simp; omega) (by rw [Int.toNat_natCast]; exact rep_flat k) h
end
end -- V0
section -- J0
open PySem PySem.W PyProof.Rows PySem.Calls
noncomputable def Stop (P : Prop) : Prop := P
theorem stopH {P : Prop} (h : Stop P) : P := h
theorem stopG {P : Prop} (h : P) : Stop P := h
theorem rng3 {rn : Nat} (h : rn ≤ 3) : Builtin.Range.small 0 (rn : Int) 1 = true ∧ Builtin.Range.rangeSize 0 (rn : Int) 1 = (rn : Int) := by
  rcases (by omega : rn = 0 ∨ rn = 1 ∨ rn = 2 ∨ rn = 3) with rfl | rfl | rfl | rfl <;> decide
section
variable {prog : Program} {w : World} {A : Around} {E : Value → Shared → Prop} {s : Shared} {env : Env} {h₀ : Heap} {x : Str} {body : List Stmt} {Q : Flow → Shared → Prop}
noncomputable def JEnd (h₀ : Heap) (L : Addr) (I : Addr) (it : Obj) (J : (Str → Option Value) → List (Addr × Obj) → Prop) (s₁ s₂ : Shared) : Prop :=
  ∃ h' tk m' news', s₂ = { s₁ with heap := h', toks := tk } ∧ Fr h₀ L h' m' ∧ News h₀ L h' ((I, it) :: news') ∧ (∀ p ∈ news', p.1 ≠ I) ∧ J m' news'
noncomputable def JPost (h₀ : Heap) (L : Addr) (I : Addr) (it : Obj) (J : (Str → Option Value) → List (Addr × Obj) → Prop) (s₁ : Shared) (Q : Flow → Shared → Prop) (f : Flow) (s₂ : Shared) : Prop :=
  match f with
  | .ret v => Q (.ret v) s₂
  | .brk => Q .next s₂
  | _ => JEnd h₀ L I it J s₁ s₂
theorem iter_lofJ {ax : Addr} {lo : Obj} {vs : List Value} {n : Nat} {m₀ : Str → Option Value} {news : List (Addr × Obj)} (J : Nat → (Str → Option Value) → List (Addr × Obj) → Prop)
    (hh : A.handled = none) (F : Fr h₀ env.locals s.heap m₀) (N : News h₀ env.locals s.heap news) (hm : (ax, lo) ∈ news) (hc : lo.cls = .type "list") (hd : lo.data = .seq vs.toArray n)
    (hJ : J 0 m₀ news) (hmem : ∀ i m₁ news₁, J i m₁ news₁ → (ax, lo) ∈ news₁)
    (turn : ∀ I it i v m₁ news₁ h tk, vs[i]? = some v → J i m₁ news₁ → (∀ p ∈ news₁, p.1 ≠ I) → Fr h₀ env.locals h (fun y => if y = x then some v else m₁ y) → News h₀ env.locals h ((I, it) :: news₁) →
      wpAny (model prog w) A (execs body env) (JPost h₀ env.locals I it (J (i + 1)) { s with heap := h, toks := tk } Q) E { s with heap := h, toks := tk })
    (done : ∀ m₁ news₁ h tk, J vs.length m₁ news₁ → Fr h₀ env.locals h m₁ → News h₀ env.locals h news₁ → Q .next { s with heap := h, toks := tk }) :
    wpAny (model prog w) A (pyIter (.ref ax)) (fun it s₂ => LoopAtV prog w A h₀ env x body Q E it s₂) E s := by
  have hax := N _ hm
  have hl : s.heap.IsList ax vs.toArray := ⟨lo, hax.1, hc, n, hd⟩
  have hlt : ax < s.heap.objs.size := Heap.lt_size hax.1
  have hne : ax ≠ s.heap.objs.size := Nat.ne_of_lt hlt
  refine wpAny_pyIter_list hl ?_
  have W := Walks.list (prog := prog) (w := w) hh s.heap.objs.size ax hne vs.toArray
  have hnew := next_is_new F
  have hlen : vs.toArray.size = vs.length := by simp
  rw [hlen] at W
  refine ⟨_, _, _, vs.length, _, _, m₀, news, J, rfl, W, ?_, ?_, ?_, ⟨⟨_, Heap.get?_push_size _ rfl, rfl, rfl⟩, hl.at fun o e => Heap.get?_push_of_some _ e⟩, F.push _, (fun p hp => ⟨Heap.get?_push_of_some _ (N p hp).1, (N p hp).2⟩), hJ, ?_, ?_⟩
  · intro hmm
    rcases List.mem_cons.mp hmm with e | hmm
    · exact absurd F.ns.lt (e ▸ Nat.lt_irrefl _)
    · exact hax.2.1 (List.mem_singleton.mp hmm).symm
  · intro b hb
    rw [List.mem_singleton.mp hb]
    exact hnew
  · intro p hp hI
    exact absurd (Heap.lt_size (N p hp).1) ((List.mem_singleton.mp hI) ▸ Nat.lt_irrefl _)
  · rintro i v m₁ news₁ s₁ own ⟨hh', tk', rfl⟩ hin hP hJ hoff hown hget hall hst F₁ N₁
    obtain ⟨it, hit, hic, hid⟩ := hst.1
    have hmemI := hall s.heap.objs.size (List.mem_cons_self ..) hnew _ hit
    have hv : vs[i]? = some v := by simpa using hP
    have N₂ : News h₀ env.locals hh' ((s.heap.objs.size, it) :: news₁) := fun p hp => by
      rcases List.mem_cons.mp hp with rfl | hp
      · exact N₁ _ (List.mem_append_left _ hmemI)
      · exact N₁ _ (List.mem_append_right _ hp)
    have hoff' : ∀ p ∈ news₁, p.1 ≠ s.heap.objs.size := fun p hp e => hoff p hp (List.mem_singleton.mpr e)
    have hax₁ := hmem _ _ _ hJ
    refine wpAny_mono (turn s.heap.objs.size it i v m₁ news₁ hh' tk' hv hJ hoff' F₁ N₂) (fun f s₂ p => ?_) fun _ _ e => e
    have fin : JEnd h₀ env.locals s.heap.objs.size it (J (i + 1)) { s with heap := hh', toks := tk' } s₂ →
        LoopStepU h₀ env.locals [s.heap.objs.size] own (J (i + 1)) { s with heap := hh', toks := tk' } .next s₂ := by
      rintro ⟨h', tk, m', news', e, F', N', ho, r⟩
      refine ⟨rfl, h', tk, m', news', e, F', fun p hp => ?_, fun p hp hI => ho p hp (List.mem_singleton.mp hI), r⟩
      rcases List.mem_append.mp hp with hp | hp
      · have h2 : hh'.get? p.1 = some p.2 := hget p hp
        rcases List.mem_cons.mp (hown p hp) with h1 | h1
        · rw [h1, hit] at h2
          have h5 : p.2 = it := (Option.some.inj h2).symm
          have : p = (s.heap.objs.size, it) := Prod.ext h1 h5
          subst this
          exact N' _ (.head _)
        · have h3 := List.mem_singleton.mp h1
          have h4 := N₂ _ (.tail _ hax₁)
          rw [h3, h4.1] at h2
          have h5 : p.2 = lo := (Option.some.inj h2).symm
          have : p = (ax, lo) := Prod.ext h3 h5
          subst this
          exact N' _ (.tail _ (hmem _ _ _ r))
      · exact N' _ (.tail _ hp)
    cases f with
    | ret v => exact .ret p
    | brk => exact .brk p
    | next => exact .next (fin p)
    | cont => exact .cont (fin p)
  · rintro h' tk m' news' F' N' _ hJ
    exact done m' news' h' tk hJ F' N'
theorem iter_rangeJ {r : Addr} {a b : Int} {t u v : Tok} {n : Nat} {m₀ : Str → Option Value} {news : List (Addr × Obj)} (J : Nat → (Str → Option Value) → List (Addr × Obj) → Prop)
    (hh : A.handled = none) (hr : IsRange s.heap r a b 1 t u v) (hsm : Builtin.Range.small a b 1 = true) (hn : Builtin.Range.rangeSize a b 1 = ((n : Nat) : Int)) (F : Fr h₀ env.locals s.heap m₀) (N : News h₀ env.locals s.heap news) (hJ : J 0 m₀ news)
    (turn : ∀ I it i tv m₁ news₁ h tk, i < n → J i m₁ news₁ → (∀ p ∈ news₁, p.1 ≠ I) → Fr h₀ env.locals h (fun y => if y = x then some (.int (a + (i : Int)) tv) else m₁ y) → News h₀ env.locals h ((I, it) :: news₁) →
      wpAny (model prog w) A (execs body env) (JPost h₀ env.locals I it (J (i + 1)) { s with heap := h, toks := tk } Q) E { s with heap := h, toks := tk })
    (done : ∀ m₁ news₁ h tk, J n m₁ news₁ → Fr h₀ env.locals h m₁ → News h₀ env.locals h news₁ → Q .next { s with heap := h, toks := tk }) :
    wpAny (model prog w) A (pyIter (.ref r)) (fun it s₂ => LoopAtV prog w A h₀ env x body Q E it s₂) E s := by
  refine wpAny_pyIter_range hr hsm ?_
  have W := LCg.range_walks (prog := prog) (w := w) (I := s.heap.objs.size) hh a n
  have hnew := next_is_new F
  refine ⟨_, _, _, n, _, _, m₀, news, J, rfl, W, ?_, ?_, ?_, (by show IsRangeIter _ _ _ _ _; rw [hn]; simpa using Heap.get?_push_size _ rfl), F.push _, (fun p hp => ⟨Heap.get?_push_of_some _ (N p hp).1, (N p hp).2⟩), hJ, ?_, ?_⟩
  · intro hmm
    rw [List.mem_singleton] at hmm
    exact absurd F.ns.lt (hmm ▸ Nat.lt_irrefl _)
  · intro b hb
    rw [List.mem_singleton.mp hb]
    exact hnew
  · intro p hp hI
    exact absurd (Heap.lt_size (N p hp).1) ((List.mem_singleton.mp hI) ▸ Nat.lt_irrefl _)
  · rintro i v m₁ news₁ s₁ own ⟨hh', tk', rfl⟩ hin hP hJ hoff hown hget hall hst F₁ N₁
    obtain ⟨tv, rfl⟩ := hP
    obtain ⟨it, hit⟩ : ∃ it, hh'.get? s.heap.objs.size = some it := ⟨_, hst⟩
    have hmemI := hall s.heap.objs.size (List.mem_cons_self ..) hnew _ hit
    have N₂ : News h₀ env.locals hh' ((s.heap.objs.size, it) :: news₁) := fun p hp => by
      rcases List.mem_cons.mp hp with rfl | hp
      · exact N₁ _ (List.mem_append_left _ hmemI)
      · exact N₁ _ (List.mem_append_right _ hp)
    have hoff' : ∀ p ∈ news₁, p.1 ≠ s.heap.objs.size := fun p hp e => hoff p hp (List.mem_singleton.mpr e)
    refine wpAny_mono (turn s.heap.objs.size it i tv m₁ news₁ hh' tk' hin hJ hoff' F₁ N₂) (fun f s₂ p => ?_) fun _ _ e => e
    have fin : JEnd h₀ env.locals s.heap.objs.size it (J (i + 1)) { s with heap := hh', toks := tk' } s₂ →
        LoopStepU h₀ env.locals [s.heap.objs.size] own (J (i + 1)) { s with heap := hh', toks := tk' } .next s₂ := by
      rintro ⟨h', tk, m', news', e, F', N', ho, r⟩
      refine ⟨rfl, h', tk, m', news', e, F', fun p hp => ?_, fun p hp hI => ho p hp (List.mem_singleton.mp hI), r⟩
      rcases List.mem_append.mp hp with hp | hp
      · have h2 : hh'.get? p.1 = some p.2 := hget p hp
        have h1 := List.mem_singleton.mp (hown p hp)
        rw [h1, hit] at h2
        have h5 : p.2 = it := (Option.some.inj h2).symm
        have : p = (s.heap.objs.size, it) := Prod.ext h1 h5
        subst this
        exact N' _ (.head _)
      · exact N' _ (.tail _ hp)
    cases f with
    | ret v => exact .ret p
    | brk => exact .brk p
    | next => exact .next (fin p)
    | cont => exact .cont (fin p)
  · rintro h' tk m' news' F' N' _ hJ
    exact done m' news' h' tk hJ F' N'
end
end -- J0
section -- D1
open PySem PySem.W PyProof.Rows PySem.Calls
section
variable {prog : Program} {w : World} {A : Around} {E : Value → Shared → Prop} {R : Result → Shared → Prop} {s : Shared} {h₀ : Heap} {L : Addr} {m : Str → Option Value} {env : Env}
noncomputable abbrev lc2 (elt : Expr) (x1 : Str) (p1 : Pos) (i1 : Expr) (x2 : Str) (p2 : Pos) (i2 : Expr) (scope : Scope) (pos : Pos) : Expr :=
  .ListComp elt [⟨.Name x1 p1, i1, [], 0⟩, ⟨.Name x2 p2, i2, [], 0⟩] scope pos
theorem compTurn_d1 (elt : Expr) (x1 : Str) (p1 : Pos) (i1 : Expr) (x2 : Str) (p2 : Pos) (i2 : Expr) (scope : Scope) (pos : Pos) (it acc : Value) (env : Env) :
    compTurn (lc2 elt x1 p1 i1 x2 p2 i2 scope pos) 1 it acc env = (standAt i2.pos >>= fun _ => pyNext it >>= fun r => match r with
      | none => pure (.done .next)
      | some v => letOwnedTupleGo (.Name x2 p2) it v >>= fun _ => assign (.Name x2 p2) env v >>= fun _ =>
        (eval elt env >>= fun x => call (.builtin "list.append") [acc, x] >>= fun _ => pure ()) >>= fun _ =>
          again (.compLoop (lc2 elt x1 p1 i1 x2 p2 i2 scope pos) 1 it acc env)) := by rfl
theorem compTurn_d0 (elt : Expr) (x1 : Str) (p1 : Pos) (i1 : Expr) (x2 : Str) (p2 : Pos) (i2 : Expr) (scope : Scope) (pos : Pos) (it acc : Value) (env : Env) :
    compTurn (lc2 elt x1 p1 i1 x2 p2 i2 scope pos) 0 it acc env = (standAt i1.pos >>= fun _ => pyNext it >>= fun r => match r with
      | none => pure (.done .next)
      | some v => letOwnedTupleGo (.Name x1 p1) it v >>= fun _ => assign (.Name x1 p1) env v >>= fun _ =>
        (eval i2 env >>= fun x => standAt i2.pos >>= fun _ => foldedSetIterable i2 env x >>= fun x => holding [x] (pyIter x) >>= fun it' =>
          runOwn (.compStart (lc2 elt x1 p1 i1 x2 p2 i2 scope pos) 1 it' acc env) env >>= fun _ =>
          again (.compLoop (lc2 elt x1 p1 i1 x2 p2 i2 scope pos) 0 it acc env))) := by rfl
theorem codeAny_loop_d1 {elt : Expr} {x1 : Str} {p1 : Pos} {i1 : Expr} {x2 : Str} {p2 : Pos} {i2 : Expr} {scope : Scope} {pos : Pos} {it acc : Value} {env : Env} (I : Nat → Shared → Prop)
    (turn : ∀ n s, I n s → wpAny (model prog w) A (pyNext it) (fun r s₁ => match r with
      | none => R (.ok .next) s₁
      | some v => wpAny (model prog w) A (assign (.Name x2 p2) env v) (fun _ s₂ => wpAny (model prog w) A (eval elt env) (fun x s₃ =>
          wpAny (model prog w) A (call (.builtin "list.append") [acc, x]) (fun _ s₄ => ∃ m, m < n ∧ I m s₄) (notedBy (model prog w) A env fun e s' => R (.error e) s') s₃)
          (notedBy (model prog w) A env fun e s' => R (.error e) s') s₂) (notedBy (model prog w) A env fun e s' => R (.error e) s') s₁) (notedBy (model prog w) A env fun e s' => R (.error e) s') s)
    (n : Nat) (h : I n s) :
    codeAny (model prog w) A (.compLoop (lc2 elt x1 p1 i1 x2 p2 i2 scope pos) 1 it acc env) R s := by
  refine codeAny_loop rfl I (fun n s hI => ?_) n h
  show wpAny _ _ ((compTurn (lc2 elt x1 p1 i1 x2 p2 i2 scope pos) 1 it acc env).onRaise (fun x => do noteFrame x env; theTreesLotGoes x)) _ _ s
  refine wpAny_noted ?_
  rw [compTurn_d1]
  refine wpAny_bind (wpAny_standAt (wpAny_bind (wpAny_mono (turn n s hI) (fun r s₁ h₁ => ?_) fun _ _ h' => h')))
  cases r with
  | none => exact wpAny_pure h₁
  | some v =>
    refine wpAny_bind (wpAny_of_eq (show letOwnedTupleGo (.Name x2 p2) it v = pure () from rfl) ?_)
    exact wpAny_bind (wpAny_mono h₁ (fun _ s₂ h₂ => wpAny_bind (wpAny_bind (wpAny_mono h₂ (fun x s₃ h₃ => wpAny_bind (wpAny_mono h₃
      (fun _ s₄ h₄ => wpAny_pure (wpAny_pure ⟨rfl, h₄⟩)) fun _ _ h' => h')) fun _ _ h' => h'))) fun _ _ h' => h')
theorem codeAny_loop_d0 {elt : Expr} {x1 : Str} {p1 : Pos} {i1 : Expr} {x2 : Str} {p2 : Pos} {i2 : Expr} {scope : Scope} {pos : Pos} {it acc : Value} {env : Env} (I : Nat → Shared → Prop)
    (turn : ∀ n s, I n s → wpAny (model prog w) A (pyNext it) (fun r s₁ => match r with
      | none => R (.ok .next) s₁
      | some v => wpAny (model prog w) A (assign (.Name x1 p1) env v) (fun _ s₂ => wpAny (model prog w) A (eval i2 env) (fun x s₃ =>
          wpAny (model prog w) A (pyIter x) (fun it' s₄ => codeAny (model prog w) A (.compStart (lc2 elt x1 p1 i1 x2 p2 i2 scope pos) 1 it' acc env)
             (fun r s' => r = .ok .next ∧ ∃ m, m < n ∧ I m s') s₄) (notedBy (model prog w) A env fun e s' => R (.error e) s') s₃)
          (notedBy (model prog w) A env fun e s' => R (.error e) s') s₂) (notedBy (model prog w) A env fun e s' => R (.error e) s') s₁) (notedBy (model prog w) A env fun e s' => R (.error e) s') s)
    (n : Nat) (h : I n s) (hs : ∀ x, foldedSetIterable i2 env x = pure x) :
    codeAny (model prog w) A (.compLoop (lc2 elt x1 p1 i1 x2 p2 i2 scope pos) 0 it acc env) R s := by
  refine codeAny_loop rfl I (fun n s hI => ?_) n h
  show wpAny _ _ ((compTurn (lc2 elt x1 p1 i1 x2 p2 i2 scope pos) 0 it acc env).onRaise (fun x => do noteFrame x env; theTreesLotGoes x)) _ _ s
  refine wpAny_noted ?_
  rw [compTurn_d0]
  refine wpAny_bind (wpAny_standAt (wpAny_bind (wpAny_mono (turn n s hI) (fun r s₁ h₁ => ?_) fun _ _ h' => h')))
  cases r with
  | none => exact wpAny_pure h₁
  | some v =>
    refine wpAny_bind (wpAny_of_eq (show letOwnedTupleGo (.Name x1 p1) it v = pure () from rfl) ?_)
    refine wpAny_bind (wpAny_mono h₁ (fun _ s₂ h₂ => wpAny_bind (wpAny_mono h₂ (fun x s₃ h₃ => wpAny_bind (wpAny_standAt (wpAny_bind (wpAny_of_eq (hs x) (wpAny_bind (wpAny_holding (wpAny_mono h₃
      (fun it' s₄ h₄ => wpAny_bind (wpAny_runOwn (codeAny_mono h₄ fun r s₅ h₅ => ?_))) fun _ _ h' => h'))))))) fun _ _ h' => h')) fun _ _ h' => h')
    obtain ⟨rfl, h₅⟩ := h₅
    exact wpAny_pure ⟨rfl, h₅⟩
theorem codeAny_start_d1 {elt : Expr} {x1 : Str} {p1 : Pos} {i1 : Expr} {x2 : Str} {p2 : Pos} {i2 : Expr} {scope : Scope} {pos : Pos} {it acc : Value} {env : Env}
    (h0 : codeAny (model prog w) A (.compLoop (lc2 elt x1 p1 i1 x2 p2 i2 scope pos) 1 it acc env) R s)
    (h : wpAny (model prog w) A (pyIter it) (fun it' s' => codeAny (model prog w) A (.compLoop (lc2 elt x1 p1 i1 x2 p2 i2 scope pos) 1 it' acc env) R s')
      (notedBy (model prog w) A env fun x s' => R (.error x) s') s) :
    codeAny (model prog w) A (.compStart (lc2 elt x1 p1 i1 x2 p2 i2 scope pos) 1 it acc env) R s := by
  refine codeAny_of_tree ?_
  show wpAny _ _ ((compStart (lc2 elt x1 p1 i1 x2 p2 i2 scope pos) 1 it acc env).onRaise (fun x => do noteFrame x env; standAt theWindowsPlace)) _ _ s
  refine wpAny_notedAt ?_
  unfold compStart
  show wpAny _ _ (ask >>= _) _ _ s
  refine wpAny_bind (wpAny_askSetting (wpAny_ite ?_))
  split
  · first
      | exact wpAny_bind (wpAny_pure (wpAny_pure (And.intro rfl h0)))
      | exact wpAny_pure (And.intro rfl h0)
  · first
      | exact wpAny_bind (wpAny_rule (wpAny_bind (wpAny_standAt (wpAny_bind (wpAny_mono h (fun it' s' h' => wpAny_pure (And.intro rfl h')) fun _ _ x => x)))))
      | (refine wpAny_bind (wpAny_rule ?_); show wpAny _ _ (standAt i2.pos >>= _) _ _ s; exact wpAny_bind (wpAny_standAt (wpAny_bind (wpAny_mono h (fun it' s' h' => wpAny_pure (And.intro rfl h')) fun _ _ x => x))))
end
end -- D1
section -- D2
open PySem PySem.W PyProof.Rows PySem.Calls
section
variable {prog : Program} {w : World} {A : Around} {E : Value → Shared → Prop} {R : Result → Shared → Prop} {s : Shared} {h₀ : Heap} {L : Addr} {m : Str → Option Value} {env : Env}
noncomputable def SpotEnd (h₀ : Heap) (L : Addr) (m : Str → Option Value) (s₁ : Shared) (pre news : List (Addr × Obj)) (As : List Addr) (J : Value → List (Addr × Obj) → Prop) (y : Value) (s₂ : Shared) : Prop :=
  ∃ h' tk news', s₂ = { s₁ with heap := h', toks := tk } ∧ Fr h₀ L h' m ∧ News h₀ L h' (pre ++ news') ∧ (∀ p ∈ news, p ∈ news') ∧ (∀ p ∈ news', p.1 ∉ As) ∧ J y news'
noncomputable def SpotOut (h₀ : Heap) (L : Addr) (m : Str → Option Value) (s₁ : Shared) (pre news : List (Addr × Obj)) (As : List Addr) (V : Value → Prop) (J : List (Addr × Obj) → Prop) (x : Value) (s₂ : Shared) : Prop :=
  ∃ al its, x = .ref al ∧ its.size ≤ 3 ∧ (∀ p ∈ its.toList, V p) ∧ SpotEnd h₀ L m s₁ pre news As (fun _ nw => J nw ∧ LCg.SrcAt h₀ al its nw) x s₂
noncomputable def SpotT1 (prog : Program) (w : World) (A : Around) (h₀ : Heap) (L : Addr) (m : Str → Option Value) (env : Env) (i2 : Expr) (x1 : Str) (scope : Scope) (cl : List (Str × Addr)) (s : Shared) (n : Nat) (Valid : Nat → Value → Prop) (J : List Value → List (Addr × Obj) → Prop) : Prop :=
  ∀ i t I oI C oC D m₂ h tk ys news' (E' : Value → Shared → Prop), i < n → LCg.NsObj oC m₂ → m₂ x1 = some (.int ((i : Nat) : Int) t) → Fr h₀ L h m → News h₀ L h ((I, oI) :: (C, oC) :: (D, LCg.lst ys) :: news') → (∀ q ∈ news', q.1 ∉ [I, C, D]) → J ys news' →
    wpAny (model prog w) A (eval i2 (compEnvC scope cl C env)) (SpotOut h₀ L m { s with heap := h, toks := tk } [(I, oI), (C, oC), (D, LCg.lst ys)] news' [I, C, D] (Valid i) (J ys)) E' { s with heap := h, toks := tk }
noncomputable def SpotT2 (prog : Program) (w : World) (A : Around) (h₀ : Heap) (L : Addr) (m : Str → Option Value) (env : Env) (elt : Expr) (x1 x2 : Str) (scope : Scope) (cl : List (Str × Addr)) (s : Shared) (n : Nat) (Valid : Nat → Value → Prop) (J : List Value → List (Addr × Obj) → Prop) : Prop :=
  ∀ i t p I2 oI2 I oI C oC D m₂ h tk ys news' (E' : Value → Shared → Prop), i < n → Valid i p → LCg.NsObj oC m₂ → m₂ x1 = some (.int ((i : Nat) : Int) t) → m₂ x2 = some p → Fr h₀ L h m → News h₀ L h ((I2, oI2) :: (I, oI) :: (C, oC) :: (D, LCg.lst ys) :: news') → (∀ q ∈ news', q.1 ∉ [I2, I, C, D]) → J ys news' →
    wpAny (model prog w) A (eval elt (compEnvC scope cl C env)) (SpotEnd h₀ L m { s with heap := h, toks := tk } [(I2, oI2), (I, oI), (C, oC), (D, LCg.lst ys)] news' [I2, I, C, D] (fun y nw => J (ys ++ [y]) nw)) E' { s with heap := h, toks := tk }
theorem SrcAt_mono {al : Addr} {its : Array Value} {n1 n2 : List (Addr × Obj)} (x : LCg.SrcAt h₀ al its n1) (h : ∀ p ∈ n1, p ∈ n2) : LCg.SrcAt h₀ al its n2 := by
  rcases x with x | ⟨o, hm, r⟩
  · exact .inl x
  · exact .inr ⟨o, h _ hm, r⟩
/-- the inner loop -/
theorem inner_D {elt : Expr} {x1 : Str} {p1 : Pos} {i1 : Expr} {x2 : Str} {p2 : Pos} {i2 : Expr} {scope : Scope} {cl : List (Str × Addr)} {pos : Pos} {n b0 i : Nat} {t : Tok} {Valid : Nat → Value → Prop} {J : List Value → List (Addr × Obj) → Prop}
    (T2 : SpotT2 prog w A h₀ L m env elt x1 x2 scope cl s n Valid J) (hh : A.handled = none) (hkind : scope.kind = .function) (hx2 : scope.names.lookup x2 = some .local) (hx12 : x1 ≠ x2) (hin : i < n) (hb0 : b0 ≤ 1000)
    {I2 al I C D : Addr} {oI : Obj} {its : Array Value} {ys : List Value} {news : List (Addr × Obj)} {m1 : Str → Option Value} {h1 : Heap} {tk1 : Nat} (hits : its.size ≤ 3) (hval : ∀ p ∈ its.toList, Valid i p)
    (hit : h1.IsListIter I2 al 0) (F : Fr h₀ L h1 m) (hn : h1.Ns C m1) (hm1 : m1 x1 = some (.int ((i : Nat) : Int) t)) (N : News h₀ L h1 ((I, oI) :: (D, LCg.lst ys) :: news)) (off : ∀ q ∈ news, q.1 ∉ [I2, I, C, D]) (hJ : J ys news) (hS : LCg.SrcAt h₀ al its news) (hyl : ys.length ≤ b0)
    (d1 : I2 ≠ I) (d2 : I2 ≠ C) (d3 : I2 ≠ D) (d4 : I ≠ C) (d5 : I ≠ D) (d6 : C ≠ D) (hI2L : I2 ≠ L) (hI2₀ : h₀.get? I2 = none) (hCL : C ≠ L) (hC₀ : h₀.get? C = none)
    (fin : ∀ h tk ys' m' news', ys'.length ≤ b0 + 3 → Fr h₀ L h m → h.Ns C m' → News h₀ L h ((I, oI) :: (D, LCg.lst ys') :: news') → (∀ q ∈ news', q.1 ∉ [I, C, D]) → J ys' news' → R (.ok .next) { s with heap := h, toks := tk }) :
    codeAny (model prog w) A (.compLoop (lc2 elt x1 p1 i1 x2 p2 i2 scope pos) 1 (.ref I2) (.ref D) (compEnvC scope cl C env)) R { s with heap := h1, toks := tk1 } := by
  refine codeAny_loop_d1
    (fun k s' => ∃ h' tk j ys m' news', s' = { s with heap := h', toks := tk } ∧ j ≤ its.size ∧ k = its.size + 1 - j ∧ ys.length ≤ b0 + j ∧ h'.IsListIter I2 al j ∧ Fr h₀ L h' m ∧ h'.Ns C m' ∧ m' x1 = some (.int ((i : Nat) : Int) t) ∧
      News h₀ L h' ((I, oI) :: (D, LCg.lst ys) :: news') ∧ (∀ q ∈ news', q.1 ∉ [I2, I, C, D]) ∧ J ys news' ∧ LCg.SrcAt h₀ al its news') ?_ (its.size + 1)
    ⟨h1, tk1, 0, ys, m1, news, rfl, Nat.zero_le _, rfl, hyl, hit, F, hn, hm1, N, off, hJ, hS⟩
  rintro k s' ⟨h', tk, j, ys, m', news', rfl, hj, rfl, hyl, hit', F', hn', hm', N', off', hJ', hS'⟩
  have hDL : D ≠ L := (N' _ (.tail _ (.head _))).2.1
  have hD₀ : h₀.get? D = none := (N' _ (.tail _ (.head _))).2.2
  have hIL : I ≠ L := (N' _ (.head _)).2.1
  have hI₀ : h₀.get? I = none := (N' _ (.head _)).2.2
  have hl' : h'.IsList al its := hS'.list F'.keep fun p hp => N' p (.tail _ (.tail _ hp))
  have offI2 : ∀ q ∈ (I, oI) :: (D, LCg.lst ys) :: news', q.1 ≠ I2 := fun q hq => by
    rcases List.mem_cons.mp hq with rfl | hq
    · exact d1.symm
    · rcases List.mem_cons.mp hq with rfl | hq
      · exact d3.symm
      · intro e; exact off' q hq (e ▸ .head _)
  have offC : ∀ q ∈ (I, oI) :: (D, LCg.lst ys) :: news', q.1 ≠ C := fun q hq => by
    rcases List.mem_cons.mp hq with rfl | hq
    · exact d4
    · rcases List.mem_cons.mp hq with rfl | hq
      · exact d6.symm
      · intro e; exact off' q hq (e ▸ .tail _ (.tail _ (.head _)))
  by_cases hlt : j < its.size
  · refine wpAny_pyNext_list_item hit' hl' (x := its[j]) (by simp [hlt]) fun h₂ hit₂ hs₂ => ?_
    have hv : Valid i its[j] := hval _ (by simp)
    have F₂ : Fr h₀ L h₂ m := F'.change hs₂ hI2L hI2₀
    have N₂ : News h₀ L h₂ ((I, oI) :: (D, LCg.lst ys) :: news') := fun p hp => ⟨hs₂.extBut _ _ (offI2 p hp) (N' p hp).1, (N' p hp).2⟩
    have hn₂ : h₂.Ns C m' := hn'.sameBut hs₂ d2.symm
    refine wpAny_assign_Name (wpAny_storeName_local (env := compEnvC scope cl C env) (lookup_relabel_local hx2) hn₂ (fun h₃ hn₃ hs₃ => ?_) (by simp [compEnvC, relabel, hkind]))
    replace hn₃ : h₃.Ns C (fun x => if x = x2 then some its[j] else m' x) := hn₃
    replace hs₃ : Heap.SameBut C h₂ h₃ := hs₃
    have F₃ : Fr h₀ L h₃ m := F₂.change hs₃ hCL hC₀
    have hit₃ : h₃.IsListIter I2 al (j + 1) := hit₂.at fun o e => hs₃.extBut _ o d2 e
    obtain ⟨oI2, heI2, hrI2⟩ := id hit₃
    obtain ⟨oC, heC, hoC⟩ := LCg.ns_obj hn₃
    have N₃ : News h₀ L h₃ ((I2, oI2) :: (I, oI) :: (C, oC) :: (D, LCg.lst ys) :: news') := fun p hp => by
      have old : ∀ p ∈ (I, oI) :: (D, LCg.lst ys) :: news', h₃.get? p.1 = some p.2 ∧ p.1 ≠ L ∧ h₀.get? p.1 = none := fun p hp => ⟨hs₃.extBut _ _ (offC p hp) (N₂ p hp).1, (N₂ p hp).2⟩
      rcases List.mem_cons.mp hp with rfl | hp
      · exact ⟨heI2, hI2L, hI2₀⟩
      · rcases List.mem_cons.mp hp with rfl | hp
        · exact old _ (.head _)
        · rcases List.mem_cons.mp hp with rfl | hp
          · exact ⟨heC, hCL, hC₀⟩
          · exact old _ (.tail _ hp)
    refine wpAny_mono (T2 i t its[j] I2 oI2 I oI C oC D _ h₃ _ ys news' _ hin hv hoC (by simp [hx12, hm']) (by simp) F₃ N₃ off' hJ') (fun y s₄ h₄ => ?_) fun _ _ e => e
    obtain ⟨h₄, tk₄, news₄, rfl, F₄, N₄, sub₄, off₄, hJ₄⟩ := h₄
    have zI2 := (N₄ (I2, oI2) (.head _)).1
    have zI := N₄ (I, oI) (.tail _ (.head _))
    have zC := (N₄ (C, oC) (.tail _ (.tail _ (.head _)))).1
    have zD := (N₄ (D, LCg.lst ys) (.tail _ (.tail _ (.tail _ (.head _))))).1
    have zN : News h₀ L h₄ news₄ := fun p hp => N₄ p (.tail _ (.tail _ (.tail _ (.tail _ hp))))
    refine append_at (hsz := by show ys.toArray.size ≤ sizeLine; rw [List.size_toArray, sizeLine_eq]; omega) zD fun h₅ hs₅ hD₅ => ?_
    refine ⟨its.size + 1 - (j + 1), by omega, h₅, tk₄, j + 1, ys ++ [y], _, news₄, rfl, hlt, rfl, by rw [List.length_append, List.length_singleton]; omega, ⟨oI2, hs₅.extBut _ _ d3 zI2, hrI2⟩, F₄.change hs₅ hDL hD₀,
      (hoC.ns zC).sameBut hs₅ d6, by simp [hx12, hm'], fun p hp => ?_, off₄, hJ₄, SrcAt_mono hS' sub₄⟩
    rcases List.mem_cons.mp hp with rfl | hp
    · exact ⟨hs₅.extBut _ _ d5 zI.1, zI.2⟩
    · rcases List.mem_cons.mp hp with rfl | hp
      · exact ⟨hD₅.trans (congrArg some (LCg.lst_snoc ys y)), hDL, hD₀⟩
      · exact ⟨hs₅.extBut _ _ (fun e => off₄ p hp (by rw [e]; exact .tail _ (.tail _ (.tail _ (.head _))))) (zN p hp).1, (zN p hp).2⟩
  · obtain rfl : j = its.size := Nat.le_antisymm hj (Nat.not_lt.mp hlt)
    refine wpAny_pyNext_list_end hh hit' hl' (by simp) fun h₂ hs₂ => ?_
    refine fin h₂ _ ys m' news' (by omega) ⟨F'.ns.at' fun o e => hs₂ _ o hI2L.symm e, fun b o e => hs₂ b o (fun q => by rw [q, hI2₀] at e; cases e) (F'.keep b o e), F'.above⟩ (hn'.at' fun o e => hs₂ _ o d2.symm e) (fun p hp => ⟨hs₂ _ _ (offI2 p hp) (N' p hp).1, (N' p hp).2⟩) (fun q hq hm => off' q hq (.tail _ hm)) hJ'
end
end -- D2
section -- D3
open PySem PySem.W PyProof.Rows PySem.Calls
section
variable {prog : Program} {w : World} {A : Around} {E : Value → Shared → Prop} {R : Result → Shared → Prop} {s : Shared} {h₀ : Heap} {L : Addr} {m : Str → Option Value} {env : Env}
/-- the outer loop -/
theorem outer_D {elt : Expr} {x1 : Str} {p1 : Pos} {i1 : Expr} {x2 : Str} {p2 : Pos} {i2 : Expr} {scope : Scope} {cl : List (Str × Addr)} {pos : Pos} {n : Nat} {Valid : Nat → Value → Prop} {J : List Value → List (Addr × Obj) → Prop}
    (T1 : SpotT1 prog w A h₀ L m env i2 x1 scope cl s n Valid J) (T2 : SpotT2 prog w A h₀ L m env elt x1 x2 scope cl s n Valid J) (hh : A.handled = none) (hkind : scope.kind = .function) (hx1 : scope.names.lookup x1 = some .local) (hx2 : scope.names.lookup x2 = some .local) (hx12 : x1 ≠ x2) (hn100 : n ≤ 100)
    (hs2 : ∀ C x, foldedSetIterable i2 (compEnvC scope cl C env) x = pure x)
    {I C D : Addr} {news : List (Addr × Obj)} {m1 : Str → Option Value} {h1 : Heap} {tk1 : Nat}
    (hit : IsRangeIter h1 I 0 ((n : Nat) : Int) 1) (F : Fr h₀ L h1 m) (hn : h1.Ns C m1) (N : News h₀ L h1 ((D, LCg.lst []) :: news)) (off : ∀ q ∈ news, q.1 ∉ [I, C, D]) (hJ : J [] news)
    (d4 : I ≠ C) (d5 : I ≠ D) (d6 : C ≠ D) (hIL : I ≠ L) (hI₀ : h₀.get? I = none) (hCL : C ≠ L) (hC₀ : h₀.get? C = none)
    (fin : ∀ h tk ys' m' news', ys'.length ≤ 300 → Fr h₀ L h m → h.Ns C m' → News h₀ L h ((D, LCg.lst ys') :: news') → (∀ q ∈ news', q.1 ∉ [I, C, D]) → J ys' news' → R (.ok .next) { s with heap := h, toks := tk }) :
    codeAny (model prog w) A (.compLoop (lc2 elt x1 p1 i1 x2 p2 i2 scope pos) 0 (.ref I) (.ref D) (compEnvC scope cl C env)) R { s with heap := h1, toks := tk1 } := by
  have W := LCg.range_walks (prog := prog) (w := w) (I := I) hh 0 n
  refine codeAny_loop_d0
    (fun k s' => ∃ h' tk i ys m' news', s' = { s with heap := h', toks := tk } ∧ i ≤ n ∧ k = n + 1 - i ∧ ys.length ≤ 3 * i ∧ IsRangeIter h' I (0 + (i : Nat) * 1) ((n : Int) - (i : Nat)) 1 ∧ Fr h₀ L h' m ∧ h'.Ns C m' ∧
      News h₀ L h' ((D, LCg.lst ys) :: news') ∧ (∀ q ∈ news', q.1 ∉ [I, C, D]) ∧ J ys news') ?_ (n + 1)
    ⟨h1, tk1, 0, [], m1, news, rfl, Nat.zero_le _, rfl, Nat.zero_le _, (by simpa using hit), F, hn, N, off, hJ⟩ (hs2 C)
  rintro k s' ⟨h', tk, i, ys, m', news', rfl, hi, rfl, hyl, hst', F', hn', N', off', hJ'⟩
  have hDL : D ≠ L := (N' _ (.head _)).2.1
  have hD₀ : h₀.get? D = none := (N' _ (.head _)).2.2
  have offI : ∀ q ∈ (D, LCg.lst ys) :: news', q.1 ≠ I := fun q hq => by
    rcases List.mem_cons.mp hq with rfl | hq
    · exact d5.symm
    · intro e; exact off' q hq (e ▸ .head _)
  have offC : ∀ q ∈ (D, LCg.lst ys) :: news', q.1 ≠ C := fun q hq => by
    rcases List.mem_cons.mp hq with rfl | hq
    · exact d6.symm
    · intro e; exact off' q hq (e ▸ .tail _ (.head _))
  by_cases hlt : i < n
  · refine W.item i _ _ _ hlt hst' fun v h₂ tk₂ hPv hst₂ hk₂ => ?_
    obtain ⟨t, rfl⟩ := hPv
    have hk2 : ∀ b o, b ≠ I → h'.get? b = some o → h₂.get? b = some o := fun b o hb e => hk₂ b o (by simpa using hb) e
    have F₂ : Fr h₀ L h₂ m := ⟨F'.ns.at' fun o e => hk2 _ o hIL.symm e, fun b o e => hk2 b o (fun q => by rw [q, hI₀] at e; cases e) (F'.keep b o e), F'.above⟩
    have N₂ : News h₀ L h₂ ((D, LCg.lst ys) :: news') := fun p hp => ⟨hk2 _ _ (offI p hp) (N' p hp).1, (N' p hp).2⟩
    have hn₂ : h₂.Ns C m' := hn'.at' fun o e => hk2 _ o d4.symm e
    refine wpAny_assign_Name (wpAny_storeName_local (env := compEnvC scope cl C env) (lookup_relabel_local hx1) hn₂ (fun h₃ hn₃ hs₃ => ?_) (by simp [compEnvC, relabel, hkind]))
    replace hn₃ : h₃.Ns C (fun x => if x = x1 then some (.int (0 + (i : Int)) t) else m' x) := hn₃
    replace hs₃ : Heap.SameBut C h₂ h₃ := hs₃
    have F₃ : Fr h₀ L h₃ m := F₂.change hs₃ hCL hC₀
    have hst₃ : IsRangeIter h₃ I (0 + ((i + 1 : Nat) : Nat) * 1) ((n : Int) - ((i + 1 : Nat) : Nat)) 1 := W.frame _ _ _ hst₂ fun b hb o e => hs₃.extBut b o (fun q => d4 (by rw [← q]; exact (List.mem_singleton.mp hb).symm)) e
    obtain ⟨oI, heI⟩ : ∃ o, h₃.get? I = some o := ⟨_, hst₃⟩
    obtain ⟨oC, heC, hoC⟩ := LCg.ns_obj hn₃
    have N₃ : News h₀ L h₃ ((I, oI) :: (C, oC) :: (D, LCg.lst ys) :: news') := fun p hp => by
      rcases List.mem_cons.mp hp with rfl | hp
      · exact ⟨heI, hIL, hI₀⟩
      · rcases List.mem_cons.mp hp with rfl | hp
        · exact ⟨heC, hCL, hC₀⟩
        · exact ⟨hs₃.extBut _ _ (offC p hp) (N₂ p hp).1, (N₂ p hp).2⟩
    refine wpAny_mono (T1 i t I oI C oC D _ h₃ _ ys news' _ hlt hoC (by simp) F₃ N₃ off' hJ') (fun x s₄ h₄ => ?_) fun _ _ e => e
    obtain ⟨al, its, rfl, hits, hval, h₄, tk₄, news₄, rfl, F₄, N₄, sub₄, off₄, hJ₄, hS₄⟩ := h₄
    have zI := N₄ (I, oI) (.head _)
    have zC := (N₄ (C, oC) (.tail _ (.head _))).1
    have zD := N₄ (D, LCg.lst ys) (.tail _ (.tail _ (.head _)))
    have zN : News h₀ L h₄ news₄ := fun p hp => N₄ p (.tail _ (.tail _ (.tail _ hp)))
    have hl₄ : h₄.IsList al its := hS₄.list F₄.keep zN
    refine wpAny_pyIter_list hl₄ ?_
    have up : ∀ b o, h₄.get? b = some o → (h₄.push { cls := .type "list_iterator", data := .fields #[.ref al, .int 0 0] }).get? b = some o := fun b o e => Heap.get?_push_of_some _ e
    have lt : ∀ b o, h₄.get? b = some o → b ≠ h₄.objs.size := fun b o e => Nat.ne_of_lt (Heap.lt_size e)
    have hnew := next_is_new F₄
    have hst₄ : IsRangeIter h₄ I (0 + ((i + 1 : Nat) : Nat) * 1) ((n : Int) - ((i + 1 : Nat) : Nat)) 1 := W.frame _ _ _ hst₃ fun b hb o e => by
      rw [List.mem_singleton.mp hb] at e ⊢
      exact (heI.symm.trans e) ▸ zI.1
    have inner : ∀ s5 : Shared, (∃ tk5, s5 = { s with heap := h₄.push { cls := .type "list_iterator", data := .fields #[.ref al, .int 0 0] }, toks := tk5 }) →
        codeAny (model prog w) A (.compLoop (lc2 elt x1 p1 i1 x2 p2 i2 scope pos) 1 (.ref h₄.objs.size) (.ref D) (compEnvC scope cl C env))
          (fun r s' => r = .ok .next ∧ ∃ k', k' < n + 1 - i ∧ ∃ h' tk i ys m' news', s' = { s with heap := h', toks := tk } ∧ i ≤ n ∧ k' = n + 1 - i ∧ ys.length ≤ 3 * i ∧ IsRangeIter h' I (0 + (i : Nat) * 1) ((n : Int) - (i : Nat)) 1 ∧ Fr h₀ L h' m ∧ h'.Ns C m' ∧
            News h₀ L h' ((D, LCg.lst ys) :: news') ∧ (∀ q ∈ news', q.1 ∉ [I, C, D]) ∧ J ys news') s5 := by
      rintro _ ⟨tk5, rfl⟩
      refine inner_D (oI := oI) (C := C) (I := I) (D := D) (b0 := 3 * i) (i := i) (t := t) T2 hh hkind hx2 hx12 hlt (by omega) hits hval (m1 := fun x => if x = x1 then some (.int (0 + (i : Int)) t) else m' x) ⟨_, Heap.get?_push_size _ rfl, rfl, rfl⟩ (F₄.keeps up) ?_ (by simp) (fun p hp => ?_) (fun q hq hm => ?_) hJ₄ hS₄ hyl
        (lt _ _ zI.1).symm (lt _ _ zC).symm (lt _ _ zD.1).symm d4 d5 d6 (Nat.ne_of_gt F₄.ns.lt) hnew hCL hC₀ ?_
      · exact (hoC.ns zC).at' fun o e => up _ o e
      · have old : ∀ q, q ∈ (I, oI) :: (C, oC) :: (D, LCg.lst ys) :: news₄ → (h₄.push { cls := .type "list_iterator", data := .fields #[.ref al, .int 0 0] }).get? q.1 = some q.2 ∧ q.1 ≠ L ∧ h₀.get? q.1 = none := fun q hq => ⟨up _ _ (N₄ q hq).1, (N₄ q hq).2⟩
        rcases List.mem_cons.mp hp with rfl | hp
        · exact old _ (.head _)
        · exact old _ (.tail _ (.tail _ hp))
      · rcases List.mem_cons.mp hm with e | hm
        · exact lt _ _ (zN q hq).1 e
        · exact off₄ q hq hm
      · intro h6 tk6 ys6 m6 news6 hl6 F6 hn6 N6 off6 hJ6
        refine ⟨rfl, n + 1 - (i + 1), by omega, h6, tk6, i + 1, ys6, m6, news6, rfl, hlt, rfl, by omega, ?_, F6, hn6, fun p hp => N6 p (.tail _ hp), off6, hJ6⟩
        exact W.frame _ _ _ hst₃ fun b hb o e => by
          rw [List.mem_singleton.mp hb] at e ⊢
          exact (heI.symm.trans e) ▸ (N6 _ (.head _)).1
    refine codeAny_start_d1 (inner _ ⟨_, rfl⟩) ?_
    exact wpAny_pyIter_listiter (i := 0) (l := al) ⟨_, Heap.get?_push_size _ rfl, rfl, rfl⟩ (inner _ ⟨_, rfl⟩)
  · obtain rfl : i = n := Nat.le_antisymm hi (Nat.not_lt.mp hlt)
    refine W.done _ _ _ hst' fun h₂ tk₂ hk₂ => ?_
    have hk2 : ∀ b o, b ≠ I → h'.get? b = some o → h₂.get? b = some o := fun b o hb e => hk₂ b o (by simpa using hb) e
    exact fin h₂ tk₂ ys m' news' (by omega) ⟨F'.ns.at' fun o e => hk2 _ o hIL.symm e, fun b o e => hk2 b o (fun q => by rw [q, hI₀] at e; cases e) (F'.keep b o e), F'.above⟩ (hn'.at' fun o e => hk2 _ o d4.symm e) (fun p hp => ⟨hk2 _ _ (offI p hp) (N' p hp).1, (N' p hp).2⟩) off' hJ'
noncomputable def SpotFin (h₀ : Heap) (L : Addr) (m : Str → Option Value) (s : Shared) (y : Str) (J : List Value → List (Addr × Obj) → Prop) (Q : Flow → Shared → Prop) : Prop :=
  ∀ D h' tk ys news', ys.length ≤ 300 → Fr h₀ L h' (fun z => if z = y then some (.ref D) else m z) → News h₀ L h' ((D, LCg.lst ys) :: news') → (∀ q ∈ news', q.1 ≠ D) → J ys news' → Q .next { s with heap := h', toks := tk }
noncomputable def SpotSrc (prog : Program) (w : World) (A : Around) (h₀ : Heap) (L : Addr) (m : Str → Option Value) (env : Env) (elt i2 : Expr) (x1 x2 : Str) (scope : Scope) (cl : List (Str × Addr)) (y : Str) (Q : Flow → Shared → Prop) (xv : Value) (s₁ : Shared) : Prop :=
  ∃ r n t u v news Valid J, xv = .ref r ∧ Fr h₀ L s₁.heap m ∧ News h₀ L s₁.heap news ∧ IsRange s₁.heap r 0 ((n : Nat) : Int) 1 t u v ∧ n ≤ 100 ∧ J [] news ∧
    SpotT1 prog w A h₀ L m env i2 x1 scope cl s₁ n Valid J ∧ SpotT2 prog w A h₀ L m env elt x1 x2 scope cl s₁ n Valid J ∧ SpotFin h₀ L m s₁ y J Q
theorem Assign_ListComp_D {elt : Expr} {x1 : Str} {p1 : Pos} {i1 : Expr} {x2 : Str} {p2 : Pos} {i2 : Expr} {scope : Scope} {cl : List (Str × Addr)} {pos spos py : Pos} {y : Str} {Q : Flow → Shared → Prop} (F₀ : Fr h₀ L s.heap m) (hLe : env.locals = L) (hh : A.handled = none)
    (hsw : swapsWith (lc2 elt x1 p1 i1 x2 p2 i2 scope pos) (some (.Name y py)) spos.line env = pure true)
    (hclos : closureFor scope env = pure cl) (hcell : ∀ z ∈ scope.names, z.2 ≠ .cell) (hkind : scope.kind = .function)
    (hnames : ∀ z ∈ scope.names, z.2 = .local → scope.names.lookup z.1 = some .local) (hx1 : scope.names.lookup x1 = some .local) (hx2 : scope.names.lookup x2 = some .local) (hx12 : x1 ≠ x2)
    (hy : env.kindOf y = some .local) (hp : (env.scope.kind == .class || (env.scope.kind == .module && env.locals != env.globals)) = false)
    (h : wpAny (model prog w) A (eval i1 env) (SpotSrc prog w A h₀ L m env elt i2 x1 x2 scope cl y Q) E s)
    (hs1 : ∀ x, foldedSetIterable i1 env x = pure x := by intro _; rfl) (hs2 : ∀ C x, foldedSetIterable i2 (compEnvC scope cl C env) x = pure x := by intro _ _; rfl) :
    wpAny (model prog w) A (exec (.Assign [.Name y py] (lc2 elt x1 p1 i1 x2 p2 i2 scope pos) spos) env) Q E s := by
  subst hLe
  rw [exec_Assign_Name_used _ _ _ _ hsw]
  refine wpAny_bind (wpAny_standAt (wpAny_bind ?_))
  show wpAny _ A (do let _ ← comprehension (lc2 elt x1 p1 i1 x2 p2 i2 scope pos) scope env _ (newList []) false (eval i1 env) (some (assign (.Name y py) env))) _ _ s
  refine wpAny_bind (wpAny_mono (wpAny_comprehension_free (use := some (assign (.Name y py) env)) (Q := fun _ s' => Q .next s') rfl hs1 hclos hkind hnames
    (wpAny_mono h (fun xv s₁ h₁ => ?_) fun _ _ e => e)) (fun _ s' hq => wpAny_pure (wpAny_pure hq)) fun _ _ e => e)
  obtain ⟨r, n, t, u, v, news, Valid, J, rfl, F, N, hr, hn100, hJ, T1, T2, fin⟩ := h₁
  have hsm : Builtin.Range.small 0 ((n : Nat) : Int) 1 = true := by
    have : ∀ n, n ≤ 100 → Builtin.Range.small 0 ((n : Nat) : Int) 1 = true := by decide +kernel
    exact this n hn100
  have hsz : Builtin.Range.rangeSize 0 ((n : Nat) : Int) 1 = ((n : Nat) : Int) := by
    have : ∀ n, n ≤ 100 → Builtin.Range.rangeSize 0 ((n : Nat) : Int) 1 = ((n : Nat) : Int) := by decide +kernel
    exact this n hn100
  refine wpAny_pyIter_range hr hsm ?_
  refine wpAny_newObj_type (wpAny_newFunctionEnv hcell (by intro y hy; simp at hy) (fun h₁ hns₁ hsb₁ => ?_) hkind)
  rw [hsz] at hns₁ hsb₁ ⊢
  dsimp only at hns₁ hsb₁ ⊢
  generalize hH1 : s₁.heap.push { cls := .type "range_iterator", data := .fields #[rawInt 0, rawInt ((n : Nat) : Int), rawInt 1] } = H1 at hns₁ hsb₁ ⊢
  generalize hH2 : H1.push { cls := .type "list", dict := none, data := .seq ([] : List Value).toArray } = H2 at hns₁ hsb₁ ⊢
  have s1 : H1.objs.size = s₁.heap.objs.size + 1 := by rw [← hH1, Heap.size_push]
  have s2 : H2.objs.size = H1.objs.size + 1 := by rw [← hH2, Heap.size_push]
  have l1 : s₁.heap.objs.size < H1.objs.size := by rw [s1]; exact Nat.lt_succ_self _
  have l2 : H1.objs.size < H2.objs.size := by rw [s2]; exact Nat.lt_succ_self _
  have below : ∀ b, b < s₁.heap.objs.size → b ≠ H2.objs.size ∧ b ≠ H1.objs.size ∧ b ≠ s₁.heap.objs.size := fun b hb => ⟨Nat.ne_of_lt (Nat.lt_trans hb (Nat.lt_trans l1 l2)), Nat.ne_of_lt (Nat.lt_trans hb l1), Nat.ne_of_lt hb⟩
  have u1 : ∀ b o, s₁.heap.get? b = some o → H1.get? b = some o := fun b o e => by rw [← hH1]; exact Heap.get?_push_of_some _ e
  have u2 : ∀ b o, H1.get? b = some o → H2.get? b = some o := fun b o e => by rw [← hH2]; exact Heap.get?_push_of_some _ e
  have u3 : ∀ b o, b ≠ H2.objs.size → H2.get? b = some o → h₁.get? b = some o := fun b o hb e => hsb₁.extBut b o hb (Heap.get?_push_of_some _ e)
  have old : ∀ b o, s₁.heap.get? b = some o → h₁.get? b = some o := fun b o e => u3 b o (below b (Heap.lt_size e)).1 (u2 _ _ (u1 _ _ e))
  have hacc : h₁.get? H1.objs.size = some (LCg.lst []) := u3 _ _ (Nat.ne_of_lt l2) (by rw [← hH2]; exact Heap.get?_push_size _ rfl)
  have hI : h₁.get? s₁.heap.objs.size = some { cls := .type "range_iterator", data := .fields #[rawInt 0, rawInt ((n : Nat) : Int), rawInt 1] } :=
    u3 _ _ (Nat.ne_of_lt (Nat.lt_trans l1 l2)) (u2 _ _ (by rw [← hH1]; exact Heap.get?_push_size _ rfl))
  have fresh₀ : ∀ a, s₁.heap.objs.size ≤ a → h₀.get? a = none := fun a ha => by
    cases e : h₀.get? a with
    | none => rfl
    | some o' => exact absurd (Heap.lt_size (F.keep a o' e)) (Nat.not_lt.mpr ha)
  have hLlt : env.locals < s₁.heap.objs.size := F.ns.lt
  have hL := below env.locals hLlt
  have hst₁ : IsRangeIter h₁ s₁.heap.objs.size 0 ((n : Nat) : Int) 1 := hI
  have loop : ∀ s₃ : Shared, (∃ tk, s₃ = { s₁ with heap := h₁, toks := tk }) →
      codeAny (model prog w) A (.compLoop (lc2 elt x1 p1 i1 x2 p2 i2 scope pos) 0 (.ref s₁.heap.objs.size) (.ref H1.objs.size) (compEnvC scope cl H2.objs.size env))
        (compPost (model prog w) A E (some (assign (.Name y py) env)) (fun _ s' => Q .next s') (.ref H1.objs.size) H2.objs.size) s₃ := by
    rintro _ ⟨tk, rfl⟩
    refine outer_D (I := s₁.heap.objs.size) (C := H2.objs.size) (D := H1.objs.size) (news := news) T1 T2 hh hkind hx1 hx2 hx12 hn100 hs2 hst₁ (F.keeps old) hns₁ (fun p hp => ?_) (fun q hq hm => ?_) hJ
      (Nat.ne_of_lt (Nat.lt_trans l1 l2)) (Nat.ne_of_lt l1) (Nat.ne_of_gt l2) hL.2.2.symm (fresh₀ _ (Nat.le_refl _)) hL.1.symm (fresh₀ _ (Nat.le_of_lt (Nat.lt_trans l1 l2))) ?_
    · rcases List.mem_cons.mp hp with rfl | hp
      · exact ⟨hacc, hL.2.1.symm, fresh₀ _ (Nat.le_of_lt l1)⟩
      · exact ⟨old _ _ (N p hp).1, (N p hp).2⟩
    · have b := below q.1 (Heap.lt_size (N q hq).1)
      rcases List.mem_cons.mp hm with e | hm
      · exact b.2.2 e
      · rcases List.mem_cons.mp hm with e | hm
        · exact b.1 e
        · exact b.2.1 (List.mem_singleton.mp hm)
    · intro h' tk' ys' m' news' hyl F' hn N' off' hJ'
      show wpAny _ A (assign (.Name y py) env (.ref H1.objs.size)) _ _ _
      refine wpAny_assign_Name (wpAny_storeName_local hy F'.ns (fun h₂ hn₂ hs₂ => ?_) hp)
      have hL₀ : h₀.get? env.locals = none := Heap.get?_none_of_le F'.above
      have F₂ : Fr h₀ env.locals h₂ (fun z => if z = y then some (.ref H1.objs.size) else m z) := ⟨hn₂, fun b o e => hs₂.extBut b o (fun q => by rw [q, hL₀] at e; cases e) (F'.keep b o e), F'.above⟩
      refine ⟨m', hn.sameBut hs₂ hL.1.symm, fun h'' hs'' => fin H1.objs.size h'' _ ys' news' hyl (F₂.change hs'' hL.1.symm (fresh₀ _ (Nat.le_of_lt (Nat.lt_trans l1 l2)))) (fun p hp => ?_) (fun q hq e => off' q hq (e ▸ .tail _ (.tail _ (.head _)))) hJ'⟩
      have z : h₂.get? p.1 = some p.2 := hs₂.extBut _ _ (N' p hp).2.1 (N' p hp).1
      refine ⟨hs''.extBut _ _ ?_ z, (N' p hp).2⟩
      rcases List.mem_cons.mp hp with rfl | hp
      · exact Nat.ne_of_lt l2
      · exact fun e => off' p hp (e ▸ .tail _ (.head _))
  have W := LCg.range_walks (prog := prog) (w := w) (I := s₁.heap.objs.size) hh 0 n
  exact codeAny_compStart_list (loop _ ⟨_, rfl⟩) (W.self 0 _ _ _ (by simpa using hst₁) (loop _ ⟨_, rfl⟩))
end
end -- D3
section -- D4
open PySem PySem.W PyProof.Rows PySem.Calls
section
variable {prog : Program} {w : World} {A : Around} {E : Value → Shared → Prop} {s : Shared} {h₀ : Heap} {L : Addr} {m : Str → Option Value} {news : List (Addr × Obj)}
theorem adjust_upto (b n : Nat) (hb : b ≤ n) : Builtin.Slice.sliceAdjust none (some (b : Int)) 1 (n : Int) = (0, (b : Int)) := by
  unfold Builtin.Slice.sliceAdjust
  have h1 : ¬ ((1 : Int) < 0) := by omega
  have h2 : ¬ ((b : Int) < 0) := by omega
  simp only [h1, h2, if_false]
  congr 1
  omega
theorem places_upto (b : Nat) : Builtin.Slice.slicePlaces 0 (b : Int) 1 = b := by
  unfold Builtin.Slice.slicePlaces
  have h1 : (1 : Int) > 0 := by omega
  simp only [h1, if_true, Int.ediv_one]
  split <;> omega
theorem sliceApplied_upto {sl : Addr} {b n : Nat} {u : Tok} {Q : Int × Int × Nat → Shared → Prop} (hs : s.heap.IsSliceOf sl .none (.int b u) .none) (hb : b ≤ n) (h : Q (0, 1, b) s) :
    wpAny (model prog w) A (Builtin.Slice.sliceApplied (.ref sl) (pure (n : Int))) Q E s := by
  obtain ⟨os, hos, hcs, hds⟩ := id hs
  unfold Builtin.Slice.sliceApplied Builtin.Slice.sliceFields
  refine wpAny_bind (wpAny_bind (wpAny_field hos hds (x := .none) rfl (wpAny_bind (wpAny_field hos hds (x := .int b u) rfl (wpAny_bind (wpAny_field hos hds (x := .none) rfl (wpAny_pure ?_)))))))
  refine wpAny_bind (slicePart_none ?_)
  show wpAny _ _ (if ((1 : Int) == 0) = true then _ else _) _ _ s
  rw [if_neg (by decide)]
  refine wpAny_bind (slicePart_none (wpAny_bind (slicePart_int (wpAny_bind (wpAny_pure ?_)))))
  show wpAny _ _ (match Builtin.Slice.sliceAdjust none (some (b : Int)) 1 (n : Int) with | (lo, hi) => pure (lo, (1 : Int), Builtin.Slice.slicePlaces lo hi 1)) _ _ s
  rw [adjust_upto b n hb]
  show wpAny _ _ (pure ((0 : Int), (1 : Int), Builtin.Slice.slicePlaces 0 (b : Int) 1)) _ _ s
  rw [places_upto b]
  exact wpAny_pure h
theorem pick_upto (xs : Array Value) (b : Nat) : ((List.range b).filterMap fun (k : Nat) => xs[((0 : Int) + (k : Int) * 1).toNat]?).toArray = (xs.toList.take b).toArray := by
  have e : (fun (k : Nat) => xs[((0 : Int) + (k : Int) * 1).toNat]?) = fun k => xs[0 + k]? := by
    funext k
    have : ((0 : Int) + (k : Int) * 1).toNat = 0 + k := by omega
    rw [this]
  rw [e]
  have := pick_run xs 0 b
  rw [List.filterMap_map] at this
  have e2 : ((fun x => xs[x]?) ∘ fun x => 0 + x) = fun k => xs[0 + k]? := rfl
  rw [e2] at this
  rw [this, List.drop_zero]
theorem getItem_tuple_upto {t sl : Addr} {items : Array Value} {b : Nat} {u : Tok} {Q : Value → Shared → Prop} (ht : IsTup s.heap t items) (hs : s.heap.IsSliceOf sl .none (.int b u) .none) (hb : b < items.size)
    (h : Q (.ref s.heap.objs.size) { s with heap := s.heap.push { cls := .type "tuple", data := .seq (items.toList.take b).toArray } })
    (hsz : items.size ≤ sizeLine := by size_fits) : wpAny (model prog w) A (getItem (.ref t) (.ref sl)) Q E s := by
  have hdrop : sizeOk (.seq (items.toList.take b).toArray) := by
    show (items.toList.take b).toArray.size ≤ sizeLine
    rw [List.size_toArray, List.length_take, Array.length_toList]
    omega
  obtain ⟨os, hos, hcs, hds⟩ := id hs
  have hTs : s.TypeIs (.ref sl) "slice" := ⟨os, hos, hcs⟩
  unfold getItem
  try with_reducible refine wpAny_holding ?_
  first | refine wpAny_bind (wpAny_pure ?_) | skip
  refine wpAny_bind (wpAny_sequenceKey ht.typeIs (by decide) ?_)
  refine wpAny_bind (wpAny_callSpecial?_slot (name := Str.ofString "__getitem__") ht.typeIs slot_tuple_getitem
    (wpAny_call_entry slot_tuple_getitem ht.typeIs entry_tuple_getitem ?_ (args_tuple_getitem _ _)))
  show wpAny _ _ (Builtin.Tuple.tupleItemsOf (.ref t) >>= _) _ _ s
  refine wpAny_bind (tupleItemsOf_ ht ?_)
  refine wpAny_bind (wpAny_typeOf hTs ?_)
  rw [if_pos (by decide)]
  refine wpAny_bind (sliceApplied_upto hs (Nat.le_of_lt hb) ?_)
  have hno : ¬ (((0 : Int) == 0 && (1 : Int) == 1 && b == items.size) = true) := by
    have : (b == items.size) = false := by rw [beq_eq_false_iff_ne]; omega
    rw [this]; simp
  show wpAny _ _ (if ((0 : Int) == 0 && (1 : Int) == 1 && b == items.size) = true then _ else _) _ _ s
  rw [if_neg hno, pick_upto items b]
  first
    | exact wpAny_bind (m := Builtin.Tuple.tupleExact _) (wpAny_newObj_type (wpAny_pure ⟨_, rfl, wpAny_pure h⟩) hdrop)
    | exact wpAny_bind (m := Builtin.Tuple.tupleExact _) (wpAny_newObj_type (wpAny_bind (wpAny_pure (wpAny_pure ⟨_, rfl, wpAny_pure h⟩))) hdrop)
    | exact wpAny_bind (wpAny_bind (m := Builtin.Tuple.tupleExact _) (wpAny_newObj_type (wpAny_pure (wpAny_pure ⟨_, rfl, wpAny_pure h⟩)) hdrop))
    | exact wpAny_bind (wpAny_bind (m := Builtin.Tuple.tupleExact _) (wpAny_newObj_type (wpAny_pure ⟨_, rfl, wpAny_pure h⟩) hdrop))
theorem tup_upto {value slice : PySem.Expr} {t : Addr} {l : List Value} {b : Nat} {k : Int} {u : Tok} {Q : Value → Shared → Prop}
    (F : Fr h₀ L s.heap m) (N : News h₀ L s.heap news) (ht : IsTup s.heap t l.toArray) (hk : k = ((b : Nat) : Int)) (hb : b < l.length) (hl : l.length ≤ 100)
    (h : ∀ D h', Fr h₀ L h' m → News h₀ L h' ((D, { cls := .type "tuple", data := .seq (l.take b).toArray }) :: news) → (∀ p ∈ news, p.1 < D) → Q (.ref D) { s with heap := h' })
    (hs : subscripted slice false (.ref t) (.ref s.heap.objs.size) = operate [.ref s.heap.objs.size, .ref t] (getItem (.ref t) (.ref s.heap.objs.size)) := by with_unfolding_all rfl) :
    wpAny (model prog w) A (subscriptTail value slice (.ref t) (.ref s.heap.objs.size)) Q E { s with heap := s.heap.push { cls := .type "slice", data := .fields #[.none, .int k u, .none] } } := by
  subst hk
  have ht' : IsTup (s.heap.push { cls := .type "slice", data := .fields #[.none, .int b u, .none] }) t l.toArray := ht.keeps fun _ _ e => Heap.get?_push_of_some _ e
  refine tail_any (s := { s with heap := s.heap.push { cls := .type "slice", data := .fields #[.none, .int b u, .none] } }) ht'.typeIs slot_tuple_getitem.lookup
    (getItem_tuple_upto (hsz := by rw [List.size_toArray, sizeLine_eq]; omega) ht' (Heap.IsSliceOf.new ..) (by simpa using hb) ?_) hs
  have N1 := News.push (F.push { cls := .type "slice", data := .fields #[.none, .int b u, .none] }) (N.grown fun _ _ e => Heap.get?_push_of_some _ e) { cls := .type "tuple", data := .seq (l.toArray.toList.take b).toArray }
  exact h _ _ ((F.push _).push _) N1 fun p hp => by
    rw [Heap.size_push]; exact Nat.lt_succ_of_lt (Heap.lt_size (N p hp).1)
theorem tup_from {value slice : PySem.Expr} {t : Addr} {l : List Value} {b : Nat} {k : Int} {u : Tok} {Q : Value → Shared → Prop}
    (F : Fr h₀ L s.heap m) (N : News h₀ L s.heap news) (ht : IsTup s.heap t l.toArray) (hk : k = ((b : Nat) : Int)) (h1 : 1 ≤ b) (hb : b ≤ l.length) (hl : l.length ≤ 100)
    (h : ∀ D h', Fr h₀ L h' m → News h₀ L h' ((D, { cls := .type "tuple", data := .seq (l.drop b).toArray }) :: news) → (∀ p ∈ news, p.1 < D) → Q (.ref D) { s with heap := h' })
    (hs : subscripted slice false (.ref t) (.ref s.heap.objs.size) = operate [.ref s.heap.objs.size, .ref t] (getItem (.ref t) (.ref s.heap.objs.size)) := by with_unfolding_all rfl) :
    wpAny (model prog w) A (subscriptTail value slice (.ref t) (.ref s.heap.objs.size)) Q E { s with heap := s.heap.push { cls := .type "slice", data := .fields #[.int k u, .none, .none] } } := by
  subst hk
  have ht' : IsTup (s.heap.push { cls := .type "slice", data := .fields #[.int b u, .none, .none] }) t l.toArray := ht.keeps fun _ _ e => Heap.get?_push_of_some _ e
  refine tail_any (s := { s with heap := s.heap.push { cls := .type "slice", data := .fields #[.int b u, .none, .none] } }) ht'.typeIs slot_tuple_getitem.lookup
    (getItem_tuple_from (hsz := by rw [List.size_toArray, sizeLine_eq]; omega) ht' (Heap.IsSliceOf.new ..) h1 (by simpa using hb) ?_) hs
  have N1 := News.push (F.push { cls := .type "slice", data := .fields #[.int b u, .none, .none] }) (N.grown fun _ _ e => Heap.get?_push_of_some _ e) { cls := .type "tuple", data := .seq (l.toArray.toList.drop b).toArray }
  exact h _ _ ((F.push _).push _) N1 fun p hp => by
    rw [Heap.size_push]; exact Nat.lt_succ_of_lt (Heap.lt_size (N p hp).1)
theorem lof_upto {value slice : PySem.Expr} {D0 : Addr} {vs : List Value} {n i : Nat} {k : Int} {u : Tok} {Q : Value → Shared → Prop} (F : Fr h₀ L s.heap m) (N : News h₀ L s.heap news) (hm : (D0, W.listOf vs.toArray n) ∈ news) (hk : k = ((i : Nat) : Int)) (hi : i ≤ vs.length) (hl : vs.length ≤ 1000)
    (h : ∀ D h', Fr h₀ L h' m → News h₀ L h' ((D, W.listOf (vs.take i).toArray 0) :: news) → (∀ p ∈ news, p.1 < D) → Q (.ref D) { s with heap := h' })
    (hs : subscripted slice false (.ref D0) (.ref s.heap.objs.size) = operate [.ref s.heap.objs.size, .ref D0] (getItem (.ref D0) (.ref s.heap.objs.size)) := by with_unfolding_all rfl) (ht : ∀ r, letTemporaryGo value (.ref D0) r = pure () := by intro _; with_unfolding_all rfl) :
    wpAny (model prog w) A (subscriptTail value slice (.ref D0) (.ref s.heap.objs.size)) Q E { s with heap := s.heap.push { cls := .type "slice", data := .fields #[.none, .int k u, .none] } } := by
  subst hk
  have hl' : s.heap.IsList D0 vs.toArray := ⟨_, (N _ hm).1, rfl, _, rfl⟩
  refine kms_slice_lit F N hl' IsPart.none (IsPart.int _ _) ?_ h hs ht (by rw [List.size_toArray, sizeLine_eq]; omega)
  show ((vs.drop 0).take _) = _
  have h2 : ¬ (((i : Nat) : Int) < 0) := by omega
  simp only [List.drop_zero, kms_hi, kms_lo, h2, if_false, Int.toNat_natCast, Nat.sub_zero]
  rw [Nat.min_eq_left hi]
theorem lof_from {value slice : PySem.Expr} {D0 : Addr} {vs : List Value} {n i : Nat} {k : Int} {u : Tok} {Q : Value → Shared → Prop} (F : Fr h₀ L s.heap m) (N : News h₀ L s.heap news) (hm : (D0, W.listOf vs.toArray n) ∈ news) (hk : k = ((i : Nat) : Int)) (hi : i ≤ vs.length) (hl : vs.length ≤ 1000)
    (h : ∀ D h', Fr h₀ L h' m → News h₀ L h' ((D, W.listOf (vs.drop i).toArray 0) :: news) → (∀ p ∈ news, p.1 < D) → Q (.ref D) { s with heap := h' })
    (hs : subscripted slice false (.ref D0) (.ref s.heap.objs.size) = operate [.ref s.heap.objs.size, .ref D0] (getItem (.ref D0) (.ref s.heap.objs.size)) := by with_unfolding_all rfl) (ht : ∀ r, letTemporaryGo value (.ref D0) r = pure () := by intro _; with_unfolding_all rfl) :
    wpAny (model prog w) A (subscriptTail value slice (.ref D0) (.ref s.heap.objs.size)) Q E { s with heap := s.heap.push { cls := .type "slice", data := .fields #[.int k u, .none, .none] } } := by
  subst hk
  have hl' : s.heap.IsList D0 vs.toArray := ⟨_, (N _ hm).1, rfl, _, rfl⟩
  refine kms_slice_lit F N hl' (IsPart.int _ _) IsPart.none ?_ h hs ht (by rw [List.size_toArray, sizeLine_eq]; omega)
  show ((vs.drop _).take _) = _
  have h2 : ¬ (((i : Nat) : Int) < 0) := by omega
  simp only [kms_hi, kms_lo, h2, if_false, Int.toNat_natCast]
  rw [Nat.min_eq_left (by simpa using hi), List.take_of_length_le (by rw [List.length_drop]; simp)]
theorem tup_add {t b : Addr} {vs ws : List Value} {Q : Value → Shared → Prop} (F : Fr h₀ L s.heap m) (N : News h₀ L s.heap news) (ht : IsTup s.heap t vs.toArray) (hb : IsTup s.heap b ws.toArray) (hv : vs ≠ []) (hl : vs.length + ws.length ≤ 100)
    (h1 : ws = [] → Q (.ref t) s)
    (h2 : ws ≠ [] → ∀ D h', Fr h₀ L h' m → News h₀ L h' ((D, { cls := .type "tuple", data := .seq (vs ++ ws).toArray }) :: news) → (∀ p ∈ news, p.1 < D) → Q (.ref D) { s with heap := h' }) :
    wpAny (model prog w) A (binaryOp .Add (.ref t) (.ref b)) Q E s :=
  add_tuples (hsz := by rw [sizeLine_eq]; omega) F N ht hb (fun e => absurd e hv) (fun _ => h1) fun _ hw h' F' N' => h2 hw _ h' F' N' fun p hp => Heap.lt_size (N p hp).1
end
end -- D4
section
open PySem PySem.W PyProof.Rows PySem.Calls
set_option hygiene false
local macro_rules | `(tactic| k_room) => `(tactic| k_extra "z0")
local macro_rules | `(tactic| walk_at "ENTER") => `(tactic| k_extra "z1")
local macro_rules | `(tactic| walk_at "exec Raise some none") => `(tactic| k_extra "z2")
local macro_rules | `(tactic| walk_at "call ref") => `(tactic| k_extra "z3")
local macro_rules | `(tactic| walk_at "RAISED") => `(tactic| k_extra "z4")
local macro_rules | `(tactic| walk_at "ENTERC") => `(tactic| k_extra "z5")
local macro_rules | `(tactic| k_all) => `(tactic| k_extra "z6")
local macro_rules | `(tactic| walk_at "subscriptTail Name Name str int") => `(tactic| k_extra "z7")
local macro_rules | `(tactic| walk_at "eval Name") => `(tactic| k_extra "z8")
local macro_rules | `(tactic| walk_at "callWith") => `(tactic| k_extra "z9")
local macro_rules | `(tactic| walk_at "exec For Name Call cons nil") => `(tactic| k_extra "z10")
local macro_rules | `(tactic| walk_at "ite") => `(tactic| k_extra "z11")
section -- N1
open PySem PySem.W PyProof.Rows PySem.Calls
set_option maxRecDepth 100000
set_option maxHeartbeats 8000000
noncomputable def OddV (v : Value) : Prop := v = .none ∨ (∃ x k, v = .str x k) ∨ v = .bool true ∨ v = .ref 314 ∨ v = .ref 315
section
variable {w : World} {mean : ExcName → Option Value} {mg mb : Str → Option Value} {dp un : Nat} {gd : Option (List Code)} {cn : Str} {cs : Scope} {a : Addr} {ccd : Value} {cl : List (Str × Addr)} {outer : List Env} {A₀ : Around} {base h₀ : Heap} {L : Addr} {m : Str → Option Value} {news : List (Addr × Obj)} {s : Shared} {Q E : Value → Shared → Prop}

theorem need_ok {n : Int} {k : Tok} (B : Below A₀ base outer h₀) (F : Fr h₀ L s.heap m) (X : (KK w.params).In h₀) (N : News h₀ L s.heap news) (T : Top vw lo mean mg mb h₀) (hk : cs.kind = .function) (hroom : dp + 4 < recursionLimit)
    (ret : ∀ h' tk', Fr h₀ L h' m → News h₀ L h' news → Q .none { s with heap := h', toks := tk' }) :
    wpAny (model PySem.Challenge.rw_qz0086_01.row.prog w) (ktrTop dp un gd cn cs L a ccd cl outer) (call (.ref 268) [.int n k]) Q E s := by
  revert X N T
  k_fill
  intro X N T
  refine wpAny_call ?_
  refine' code_def (binds := [(Str.ofString "part", .int n k)]) B F X N T rfl rfl hk ?k6 ?k7 ?k8 ?k9 ?kB ?_ ?c2 ?c3 ?c4 ?c5
  walk_at "ENTER"
  k_steps
  exact ret _ _ (by assumption) (by assumption)
theorem need_bad {v : Value} (hv : OddV v) (B : Below A₀ base outer h₀) (F : Fr h₀ L s.heap m) (X : (KK w.params).In h₀) (N : News h₀ L s.heap news) (T : Top vw lo mean mg mb h₀) (hk : cs.kind = .function) (hroom : dp + 4 < recursionLimit)
    (err : ∀ x h' tk', Flew base h₀ (envX cn cs L a ccd cl :: outer) L m x h' → E x { s with heap := h', toks := tk' }) :
    wpAny (model PySem.Challenge.rw_qz0086_01.row.prog w) (ktrTop dp un gd cn cs L a ccd cl outer) (call (.ref 268) [v]) Q E s := by
  have hp1 : ∃ it, h₀.IsTuple 314 it := ⟨_, _, X 314 _ (by with_unfolding_all rfl), rfl, _, rfl⟩
  have hp2 : ∃ it, h₀.IsList 315 it := ⟨_, _, X 315 _ (by with_unfolding_all rfl), rfl, _, rfl⟩
  obtain ⟨it1, hp1⟩ := hp1
  obtain ⟨it2, hp2⟩ := hp2
  refine wpAny_call ?_
  refine' code_def (binds := [(Str.ofString "part", v)]) B F X N T rfl rfl hk ?k6 ?k7 ?k8 ?k9 ?kB ?_ ?c2 ?c3 ?c4 ?c5
  walk_at "ENTER"
  have hp' : g'.IsTuple 314 it1 := let ⟨o, ho, r⟩ := hp1; ⟨o, FG'.keep _ o ho, r⟩
  have hp2' := stays_list FG'.keep hp2
  rcases hv with rfl | ⟨x, k, rfl⟩ | rfl | rfl | rfl
  · k_steps
  · k_steps
  · k_steps
  · k_steps
  · k_steps
theorem need_any {v : Value} (hv : (∃ n k, v = .int n k) ∨ OddV v) (B : Below A₀ base outer h₀) (F : Fr h₀ L s.heap m) (X : (KK w.params).In h₀) (N : News h₀ L s.heap news) (T : Top vw lo mean mg mb h₀) (hk : cs.kind = .function) (hroom : dp + 4 < recursionLimit)
    (ret : (∃ n k, v = .int n k) → ∀ h' tk', Fr h₀ L h' m → News h₀ L h' news → Q .none { s with heap := h', toks := tk' })
    (err : OddV v → ∀ x h' tk', Flew base h₀ (envX cn cs L a ccd cl :: outer) L m x h' → E x { s with heap := h', toks := tk' }) :
    wpAny (model PySem.Challenge.rw_qz0086_01.row.prog w) (ktrTop dp un gd cn cs L a ccd cl outer) (call (.ref 268) [v]) Q E s := by
  rcases hv with hv | hv
  · obtain ⟨n, k, rfl⟩ := hv
    exact need_ok B F X N T hk hroom (ret ⟨_, _, rfl⟩)
  · exact need_bad hv B F X N T hk hroom (err hv)
end
end -- N1
section -- W1
open PySem PySem.W PyProof.Rows PySem.Calls
set_option maxRecDepth 100000
set_option maxHeartbeats 8000000
noncomputable abbrev tupOb (l : List Value) : Obj := { cls := .type "tuple", data := .seq l.toArray }
theorem idx0 (n : Nat) : seqIndex? 0 (n + 1) = some 0 := by unfold seqIndex?; simp
theorem compEnd_own {h₀ : Heap} {L I C D : Addr} {m : Str → Option Value} {s₁ : Shared} {oI oC oD : Obj} {S : List (Addr × Obj) → Prop} {rest : Value → List (Addr × Obj) → Prop} {y : Value} {h' : Heap} {tk : Nat} {news' : List (Addr × Obj)}
    (F : Fr h₀ L h' m) (N : News h₀ L h' ((I, oI) :: (C, oC) :: (D, oD) :: news')) (off : LCg.Off3 I C D news') (hS : S news') (r : rest y news') : LCg.CompEnd h₀ L m s₁ I oI C oC D oD S rest y { s₁ with heap := h', toks := tk } :=
  LCg.CompEnd.intro F N news' (fun _ h => h) off hS r
theorem unrEnd_own {h₀ h' : Heap} {L I : Addr} {it : Obj} {rest : (Str → Option Value) → List (Addr × Obj) → Prop} {s₁ : Shared} {tk : Nat} {m' : Str → Option Value} {news' : List (Addr × Obj)} (F : Fr h₀ L h' m') (N : News h₀ L h' ((I, it) :: news'))
    (off : ∀ p ∈ news', p.1 < I) (r : rest m' news') : UnrEnd h₀ L s₁ I it rest { s₁ with heap := h', toks := tk } := UnrEnd.intro F N news' (fun _ h => h) (fun p hp => Nat.ne_of_lt (off p hp)) r
section
variable {w : World} {mean : ExcName → Option Value} {mg mb : Str → Option Value} {dp un : Nat} {gd : Option (List Code)} {cn : Str} {cs : Scope} {a : Addr} {ccd : Value} {cl : List (Str × Addr)} {outer : List Env} {A₀ : Around} {base h₀ : Heap} {L : Addr} {m : Str → Option Value} {news : List (Addr × Obj)} {s : Shared} {Q E : Value → Shared → Prop}

structure Word (w : World) (wd : Str) (sh : Addr) (t l : Int) (parts : Str) : Prop where
  has : nsIn (KK w.params) 47 wd = some (some (.ref sh))
  tup : ∃ k1 k2 k3, (KK w.params).lookup sh = some (tupOb [.int t k1, .int l k2, .str parts k3])

theorem tup_in {t : Addr} {l : List Value} {h : Heap} (N : News h₀ L h news) (hm : (t, tupOb l) ∈ news) : IsTup h t l.toArray := ⟨_, (N _ hm).1, rfl, _, rfl⟩
theorem tup_item {value slice : PySem.Expr} {A : Around} {prog : Program} {t : Addr} {l : List Value} {k : Int} {u : Tok} {j : Nat} {x : Value} {Q : Value → Shared → Prop} (N : News h₀ L s.heap news) (hm : (t, tupOb l) ∈ news)
    (hlo : -(2 ^ 63) ≤ k) (hhi : k < 2 ^ 63) (hj : seqIndex? k l.length = some j) (hx : l[j]? = some x) (h : Q x s)
    (hs : subscripted slice false (.ref t) (.int k u) = operate [.ref t, .int k u] (getItem (.ref t) (.int k u)) := by with_unfolding_all rfl) :
    wpAny (model prog w) A (subscriptTail value slice (.ref t) (.int k u)) Q E s := item_tupleT (tup_in N hm) hlo hhi hj hx h hs
local macro_rules | `(tactic| walk_at "subscriptTail") => `(tactic| k_extra "z12")

noncomputable def DictK (w : World) (a : Addr) : Prop := ∃ es n, (KK w.params).lookup a = some ⟨.type "dict", none, .dict es n, #[]⟩ ∧ KeysLit w.params es.toList
theorem dict47 (w : World) : DictK w 47 := by
  unfold DictK
  refine (fun (f : PySem.Challenge.rw_qz0086_01 = PySem.Challenge.rw_qz0086_01 → _) => f rfl) ?_
  k_fill
  intro _
  exact ⟨_, _, by k_is, by k_keys⟩
theorem dict178 (w : World) : DictK w 178 := by
  unfold DictK
  exact ⟨_, _, by k_is, by k_keys⟩
theorem dict259 (w : World) : DictK w 259 := by
  unfold DictK
  exact ⟨_, _, by k_is, by k_keys⟩
theorem dict260 (w : World) : DictK w 260 := by
  unfold DictK
  exact ⟨_, _, by k_is, by k_keys⟩
theorem dict302 (w : World) : DictK w 302 := by
  unfold DictK
  exact ⟨_, _, by k_is, by k_keys⟩
theorem has_item {value slice : PySem.Expr} {prog : Program} {A : Around} {a : Addr} {x : Str} {t : Tok} {v : Value} {Q : Value → Shared → Prop} (D : DictK w a) (e : nsIn (KK w.params) a x = some (some v)) (F : Fr h₀ L s.heap m) (X₀ : (KK w.params).In h₀)
    (h : Q v { s with toks := s.toks + 1 })
    (hs : subscripted slice false (.ref a) (.str x t) = operate [.ref a, .str x t] (getItem (.ref a) (.str x t)) := by with_unfolding_all rfl) :
    wpAny (model prog w) A (subscriptTail value slice (.ref a) (.str x t)) Q E s := by
  obtain ⟨es, n, hl, hk⟩ := D
  exact topItem_K F X₀ hl hk e h hs
theorem has_in {prog : Program} {A : Around} {a : Addr} {x : Str} {t : Tok} {v : Value} {Q : Value → Shared → Prop} (D : DictK w a) (e : nsIn (KK w.params) a x = some (some v)) (lo : (a == sysModules) = false) (F : Fr h₀ L s.heap m) (X₀ : (KK w.params).In h₀)
    (h : Q (.bool true) { s with toks := s.toks + 1 }) : wpAny (model prog w) A (compareOp .In (.str x t) (.ref a)) Q E s := by
  obtain ⟨es, n, hl, hk⟩ := D
  exact topIn_K F X₀ hl hk e lo h
theorem has_notIn {prog : Program} {A : Around} {a : Addr} {x : Str} {t : Tok} {v : Value} {Q : Value → Shared → Prop} (D : DictK w a) (e : nsIn (KK w.params) a x = some (some v)) (lo : (a == sysModules) = false) (F : Fr h₀ L s.heap m) (X₀ : (KK w.params).In h₀)
    (h : Q (.bool false) { s with toks := s.toks + 1 }) : wpAny (model prog w) A (compareOp .NotIn (.str x t) (.ref a)) Q E s := by
  obtain ⟨es, n, hl, hk⟩ := D
  exact wpAny_notIn_of (strKind_is prog w x t) lo (mapOf_K (prog := prog) (X₀.keeps F.keep) hl hk) (by rw [find_K hl e]; exact h)
theorem has_in0 {prog : Program} {A : Around} {a : Addr} {x : Str} {t : Tok} {Q : Value → Shared → Prop} (D : DictK w a) (e : nsIn (KK w.params) a x = some none) (lo : (a == sysModules) = false) (F : Fr h₀ L s.heap m) (X₀ : (KK w.params).In h₀)
    (h : Q (.bool false) { s with toks := s.toks + 1 }) : wpAny (model prog w) A (compareOp .In (.str x t) (.ref a)) Q E s := by
  obtain ⟨es, n, hl, hk⟩ := D
  exact topIn_K F X₀ hl hk e lo h
theorem has_notIn0 {prog : Program} {A : Around} {a : Addr} {x : Str} {t : Tok} {Q : Value → Shared → Prop} (D : DictK w a) (e : nsIn (KK w.params) a x = some none) (lo : (a == sysModules) = false) (F : Fr h₀ L s.heap m) (X₀ : (KK w.params).In h₀)
    (h : Q (.bool true) { s with toks := s.toks + 1 }) : wpAny (model prog w) A (compareOp .NotIn (.str x t) (.ref a)) Q E s := by
  obtain ⟨es, n, hl, hk⟩ := D
  exact wpAny_notIn_of (strKind_is prog w x t) lo (mapOf_K (prog := prog) (X₀.keeps F.keep) hl hk) (by rw [find_K hl e]; exact h)
local macro_rules | `(tactic| walk_at "DICT") => `(tactic| k_extra "z13")
local macro_rules | `(tactic| walk_at "FACT") => `(tactic| k_extra "z14")
local macro_rules | `(tactic| walk_at "compareOp NotIn str ref") => `(tactic| k_extra "z15")
local macro_rules | `(tactic| walk_at "compareOp In str ref") => `(tactic| k_extra "z16")
local macro_rules | `(tactic| walk_at "subscriptTail") => `(tactic| k_extra "z17")
local macro_rules | `(tactic| walk_at "subscriptTail") => `(tactic| k_extra "z18")
theorem tup_len {A : Around} {prog : Program} {t : Addr} {l : List Value} {Q : Value → Shared → Prop} (N : News h₀ L s.heap news) (hm : (t, tupOb l) ∈ news) (hf : l.length ≤ 100)
    (h : Q (.int (l.length : Nat) (s.toks + 1)) { s with toks := s.toks + 1 + 1 }) : wpAny (model prog w) A (call (.builtin "len") [.ref t]) Q E s :=
  len_tuple (tup_in N hm) (by simp only [List.size_toArray]; omega) (by simpa only [List.size_toArray] using h)
local macro_rules | `(tactic| walk_at "call builtin:len") => `(tactic| k_extra "z19")
theorem shape_of_ok {wd : Str} {sh op : Addr} {t l : Int} {parts : Str} {kw : Tok} {rest : List Value} (W : Word w wd sh t l parts) (hop : (op, tupOb (.str wd kw :: rest)) ∈ news) (hlen : rest.length = parts.length) (hsz : rest.length ≤ 8)
    (B : Below A₀ base outer h₀) (F : Fr h₀ L s.heap m) (X : (KK w.params).In h₀) (N : News h₀ L s.heap news) (T : Top vw lo mean mg mb h₀) (hk : cs.kind = .function) (hroom : dp + 4 < recursionLimit)
    (ret : ∀ h' tk', Fr h₀ L h' m → News h₀ L h' news → Q (.ref sh) { s with heap := h', toks := tk' }) :
    wpAny (model PySem.Challenge.rw_qz0086_01.row.prog w) (ktrTop dp un gd cn cs L a ccd cl outer) (call (.ref 225) [.ref op]) Q E s := by
  obtain ⟨hsh, k1, k2, k3, htup⟩ := W
  revert X N T
  k_fill
  intro X N T
  refine wpAny_call ?_
  refine' code_def (binds := [(Str.ofString "op", .ref op)]) B F X N T rfl rfl hk ?k6 ?k7 ?k8 ?k9 ?kB ?_ ?c2 ?c3 ?c4 ?c5
  walk_at "ENTER"
  k_steps
  · exact absurd (by assumption) (by simp only [List.length_cons, hlen]; omega)
  · exact ret _ _ (by assumption) (by assumption)
end
end -- W1
section
local macro_rules | `(tactic| walk_at "MEM") => `(tactic| k_extra "z20")
local macro_rules | `(tactic| walk_at "subscriptTail") => `(tactic| k_extra "z21")
local macro_rules | `(tactic| walk_at "DICT") => `(tactic| k_extra "z22")
local macro_rules | `(tactic| walk_at "FACT") => `(tactic| k_extra "z14")
local macro_rules | `(tactic| walk_at "compareOp NotIn str ref") => `(tactic| k_extra "z15")
local macro_rules | `(tactic| walk_at "compareOp In str ref") => `(tactic| k_extra "z16")
local macro_rules | `(tactic| walk_at "subscriptTail") => `(tactic| k_extra "z17")
local macro_rules | `(tactic| walk_at "subscriptTail") => `(tactic| k_extra "z18")
local macro_rules | `(tactic| walk_at "call builtin:len") => `(tactic| k_extra "z23")
local macro_rules | `(tactic| walk_at "call ref") => `(tactic| k_extra "z24")
local macro_rules | `(tactic| walk_at "assign Tuple") => `(tactic| k_extra "z25")
local macro_rules | `(tactic| walk_at "UnrEnd") => `(tactic| k_extra "z26")
local macro_rules | `(tactic| walk_at "OUT") => `(tactic| k_extra "z27")
local macro_rules | `(tactic| walk_at "CompSrcT") => `(tactic| k_extra "z28")
local macro_rules | `(tactic| walk_at "CompEnd") => `(tactic| k_extra "z29")
section -- F1
open PySem PySem.W PyProof.Rows PySem.Calls
set_option maxRecDepth 100000
set_option maxHeartbeats 8000000
section
variable {w : World} {mean : ExcName → Option Value} {mg mb : Str → Option Value} {dp un : Nat} {gd : Option (List Code)} {cn : Str} {cs : Scope} {a : Addr} {ccd : Value} {cl : List (Str × Addr)} {outer : List Env} {A₀ : Around} {base h₀ : Heap} {L : Addr} {m : Str → Option Value} {news : List (Addr × Obj)} {s : Shared} {Q E : Value → Shared → Prop}
theorem effect_e {wd : Str} {sh op : Addr} {t l : Int} {kw : Tok} (W : Word w wd sh t l (Str.ofString "")) (hop : (op, tupOb [.str wd kw]) ∈ news)
    (B : Below A₀ base outer h₀) (F : Fr h₀ L s.heap m) (X : (KK w.params).In h₀) (N : News h₀ L s.heap news) (T : Top vw lo mean mg mb h₀) (hk : cs.kind = .function) (hroom : dp + 8 < recursionLimit)
    (ret : ∀ h' tk' b kt kl, Fr h₀ L h' m → News h₀ L h' ((b, tupOb [.int (t) kt, .int (l) kl]) :: news) → (∀ p ∈ news, p.1 < b) → Q (.ref b) { s with heap := h', toks := tk' }) :
    wpAny (model PySem.Challenge.rw_qz0086_01.row.prog w) (ktrTop dp un gd cn cs L a ccd cl outer) (call (.ref 232) [.ref op]) Q E s := by
  obtain ⟨k1, k2, k3, htup⟩ := W.tup
  revert X N T
  k_fill
  intro X N T
  refine wpAny_call ?_
  refine' code_def (binds := [(Str.ofString "op", .ref op)]) B F X N T rfl rfl hk ?k6 ?k7 ?k8 ?k9 ?kB ?_ ?c2 ?c3 ?c4 ?c5
  walk_at "ENTER"
  k_steps
  try any_goals walk_at "OUT"
  show Q _ _
  exact ret _ _ _ _ _ (by assumption) (by assumption) (by assumption)
theorem effect_d {wd : Str} {sh op : Addr} {t l : Int} {kw : Tok} {x : Value} (W : Word w wd sh t l (Str.ofString "-")) (hop : (op, tupOb [.str wd kw, x]) ∈ news)
    (B : Below A₀ base outer h₀) (F : Fr h₀ L s.heap m) (X : (KK w.params).In h₀) (N : News h₀ L s.heap news) (T : Top vw lo mean mg mb h₀) (hk : cs.kind = .function) (hroom : dp + 8 < recursionLimit)
    (ret : ∀ h' tk' b kt kl, Fr h₀ L h' m → News h₀ L h' ((b, tupOb [.int (t) kt, .int (l) kl]) :: news) → (∀ p ∈ news, p.1 < b) → Q (.ref b) { s with heap := h', toks := tk' }) :
    wpAny (model PySem.Challenge.rw_qz0086_01.row.prog w) (ktrTop dp un gd cn cs L a ccd cl outer) (call (.ref 232) [.ref op]) Q E s := by
  obtain ⟨k1, k2, k3, htup⟩ := W.tup
  refine wpAny_call ?_
  refine' code_def (binds := [(Str.ofString "op", .ref op)]) B F X N T rfl rfl hk ?k6 ?k7 ?k8 ?k9 ?kB ?_ ?c2 ?c3 ?c4 ?c5
  walk_at "ENTER"
  k_steps
  try any_goals walk_at "OUT"
  show Q _ _
  exact ret _ _ _ _ _ (by assumption) (by assumption) (by assumption)
theorem effect_dd {wd : Str} {sh op : Addr} {t l : Int} {kw : Tok} {x y : Value} (W : Word w wd sh t l (Str.ofString "--")) (hop : (op, tupOb [.str wd kw, x, y]) ∈ news)
    (B : Below A₀ base outer h₀) (F : Fr h₀ L s.heap m) (X : (KK w.params).In h₀) (N : News h₀ L s.heap news) (T : Top vw lo mean mg mb h₀) (hk : cs.kind = .function) (hroom : dp + 8 < recursionLimit)
    (ret : ∀ h' tk' b kt kl, Fr h₀ L h' m → News h₀ L h' ((b, tupOb [.int (t) kt, .int (l) kl]) :: news) → (∀ p ∈ news, p.1 < b) → Q (.ref b) { s with heap := h', toks := tk' }) :
    wpAny (model PySem.Challenge.rw_qz0086_01.row.prog w) (ktrTop dp un gd cn cs L a ccd cl outer) (call (.ref 232) [.ref op]) Q E s := by
  obtain ⟨k1, k2, k3, htup⟩ := W.tup
  refine wpAny_call ?_
  refine' code_def (binds := [(Str.ofString "op", .ref op)]) B F X N T rfl rfl hk ?k6 ?k7 ?k8 ?k9 ?kB ?_ ?c2 ?c3 ?c4 ?c5
  walk_at "ENTER"
  k_steps
  try any_goals walk_at "OUT"
  show Q _ _
  exact ret _ _ _ _ _ (by assumption) (by assumption) (by assumption)
theorem effect_j {wd : Str} {sh op : Addr} {t l : Int} {kw : Tok} {x : Value} (W : Word w wd sh t l (Str.ofString "j")) (hop : (op, tupOb [.str wd kw, x]) ∈ news)
    (B : Below A₀ base outer h₀) (F : Fr h₀ L s.heap m) (X : (KK w.params).In h₀) (N : News h₀ L s.heap news) (T : Top vw lo mean mg mb h₀) (hk : cs.kind = .function) (hroom : dp + 8 < recursionLimit)
    (ret : ∀ h' tk' b kt kl, Fr h₀ L h' m → News h₀ L h' ((b, tupOb [.int (t) kt, .int (l) kl]) :: news) → (∀ p ∈ news, p.1 < b) → Q (.ref b) { s with heap := h', toks := tk' }) :
    wpAny (model PySem.Challenge.rw_qz0086_01.row.prog w) (ktrTop dp un gd cn cs L a ccd cl outer) (call (.ref 232) [.ref op]) Q E s := by
  obtain ⟨k1, k2, k3, htup⟩ := W.tup
  refine wpAny_call ?_
  refine' code_def (binds := [(Str.ofString "op", .ref op)]) B F X N T rfl rfl hk ?k6 ?k7 ?k8 ?k9 ?kB ?_ ?c2 ?c3 ?c4 ?c5
  walk_at "ENTER"
  k_steps
  try any_goals walk_at "OUT"
  show Q _ _
  exact ret _ _ _ _ _ (by assumption) (by assumption) (by assumption)
theorem effect_jjj {wd : Str} {sh op : Addr} {t l : Int} {kw : Tok} {x y z : Value} (W : Word w wd sh t l (Str.ofString "jjj")) (hop : (op, tupOb [.str wd kw, x, y, z]) ∈ news)
    (B : Below A₀ base outer h₀) (F : Fr h₀ L s.heap m) (X : (KK w.params).In h₀) (N : News h₀ L s.heap news) (T : Top vw lo mean mg mb h₀) (hk : cs.kind = .function) (hroom : dp + 8 < recursionLimit)
    (ret : ∀ h' tk' b kt kl, Fr h₀ L h' m → News h₀ L h' ((b, tupOb [.int (t) kt, .int (l) kl]) :: news) → (∀ p ∈ news, p.1 < b) → Q (.ref b) { s with heap := h', toks := tk' }) :
    wpAny (model PySem.Challenge.rw_qz0086_01.row.prog w) (ktrTop dp un gd cn cs L a ccd cl outer) (call (.ref 232) [.ref op]) Q E s := by
  obtain ⟨k1, k2, k3, htup⟩ := W.tup
  refine wpAny_call ?_
  refine' code_def (binds := [(Str.ofString "op", .ref op)]) B F X N T rfl rfl hk ?k6 ?k7 ?k8 ?k9 ?kB ?_ ?c2 ?c3 ?c4 ?c5
  walk_at "ENTER"
  k_steps
  try any_goals walk_at "OUT"
  show Q _ _
  exact ret _ _ _ _ _ (by assumption) (by assumption) (by assumption)
theorem effect_n {wd : Str} {sh op : Addr} {t l : Int} {kw : Tok} {ka : Tok} (W : Word w wd sh t l (Str.ofString "n")) (hop : (op, tupOb [.str wd kw, .int 1 ka]) ∈ news)
    (B : Below A₀ base outer h₀) (F : Fr h₀ L s.heap m) (X : (KK w.params).In h₀) (N : News h₀ L s.heap news) (T : Top vw lo mean mg mb h₀) (hk : cs.kind = .function) (hroom : dp + 8 < recursionLimit)
    (ret : ∀ h' tk' b kt kl, Fr h₀ L h' m → News h₀ L h' ((b, tupOb [.int (t + 1) kt, .int (l) kl]) :: news) → (∀ p ∈ news, p.1 < b) → Q (.ref b) { s with heap := h', toks := tk' }) :
    wpAny (model PySem.Challenge.rw_qz0086_01.row.prog w) (ktrTop dp un gd cn cs L a ccd cl outer) (call (.ref 232) [.ref op]) Q E s := by
  obtain ⟨k1, k2, k3, htup⟩ := W.tup
  refine wpAny_call ?_
  refine' code_def (binds := [(Str.ofString "op", .ref op)]) B F X N T rfl rfl hk ?k6 ?k7 ?k8 ?k9 ?kB ?_ ?c2 ?c3 ?c4 ?c5
  walk_at "ENTER"
  k_steps
  try any_goals walk_at "OUT"
  show Q _ _
  exact ret _ _ _ _ _ (by assumption) (by assumption) (by assumption)
theorem effect_dnw {wd : Str} {sh op : Addr} {t l : Int} {kw : Tok} {x : Value} {ka kb : Tok} (W : Word w wd sh t l (Str.ofString "-nw")) (hop : (op, tupOb [.str wd kw, x, .int 0 ka, .int 1 kb]) ∈ news)
    (B : Below A₀ base outer h₀) (F : Fr h₀ L s.heap m) (X : (KK w.params).In h₀) (N : News h₀ L s.heap news) (T : Top vw lo mean mg mb h₀) (hk : cs.kind = .function) (hroom : dp + 8 < recursionLimit)
    (ret : ∀ h' tk' b kt kl, Fr h₀ L h' m → News h₀ L h' ((b, tupOb [.int (t + 0) kt, .int (l) kl]) :: news) → (∀ p ∈ news, p.1 < b) → Q (.ref b) { s with heap := h', toks := tk' }) :
    wpAny (model PySem.Challenge.rw_qz0086_01.row.prog w) (ktrTop dp un gd cn cs L a ccd cl outer) (call (.ref 232) [.ref op]) Q E s := by
  obtain ⟨k1, k2, k3, htup⟩ := W.tup
  refine wpAny_call ?_
  refine' code_def (binds := [(Str.ofString "op", .ref op)]) B F X N T rfl rfl hk ?k6 ?k7 ?k8 ?k9 ?kB ?_ ?c2 ?c3 ?c4 ?c5
  walk_at "ENTER"
  k_steps
  try any_goals walk_at "OUT"
  show Q _ _
  exact ret _ _ _ _ _ (by assumption) (by assumption) (by assumption)
end
end -- F1
section -- F2
open PySem PySem.W PyProof.Rows PySem.Calls
set_option maxRecDepth 100000
set_option maxHeartbeats 8000000
section
variable {w : World} {mean : ExcName → Option Value} {mg mb : Str → Option Value} {dp un : Nat} {gd : Option (List Code)} {cn : Str} {cs : Scope} {a : Addr} {ccd : Value} {cl : List (Str × Addr)} {outer : List Env} {A₀ : Around} {base h₀ : Heap} {L : Addr} {m : Str → Option Value} {news : List (Addr × Obj)} {s : Shared} {Q E : Value → Shared → Prop}
theorem jumps_e {wd : Str} {sh op : Addr} {t l : Int} {kw : Tok} (W : Word w wd sh t l (Str.ofString "")) (hop : (op, tupOb [.str wd kw]) ∈ news)
    (B : Below A₀ base outer h₀) (F : Fr h₀ L s.heap m) (X : (KK w.params).In h₀) (N : News h₀ L s.heap news) (T : Top vw lo mean mg mb h₀) (hk : cs.kind = .function) (hroom : dp + 8 < recursionLimit)
    (ret : ∀ h' tk' b, Fr h₀ L h' m → News h₀ L h' ((b, LCg.lst []) :: news) → (∀ p ∈ news, p.1 ≠ b) → Q (.ref b) { s with heap := h', toks := tk' }) :
    wpAny (model PySem.Challenge.rw_qz0086_01.row.prog w) (ktrTop dp un gd cn cs L a ccd cl outer) (call (.ref 237) [.ref op]) Q E s := by
  obtain ⟨k1, k2, k3, htup⟩ := W.tup
  revert X N T
  k_fill
  intro X N T
  refine wpAny_call ?_
  refine' code_defC (binds := [(Str.ofString "op", .ref op)]) B F X N T rfl rfl hk ?k6 ?k7 ?k8 ?k9 ?kB ?kD ?_ ?c2 ?c3 ?c4
  walk_at "ENTERC"
  k_steps
  try any_goals walk_at "OUT"
  show Q _ _
  exact ret _ _ _ (by assumption) (news_sub2 (by assumption)) (off1_mem (by assumption : _ ∧ _ ∧ LCg.Off1 _ news).2.2)
theorem jumps_d {wd : Str} {sh op : Addr} {t l : Int} {kw : Tok} {x : Value} (W : Word w wd sh t l (Str.ofString "-")) (hop : (op, tupOb [.str wd kw, x]) ∈ news)
    (B : Below A₀ base outer h₀) (F : Fr h₀ L s.heap m) (X : (KK w.params).In h₀) (N : News h₀ L s.heap news) (T : Top vw lo mean mg mb h₀) (hk : cs.kind = .function) (hroom : dp + 8 < recursionLimit)
    (ret : ∀ h' tk' b, Fr h₀ L h' m → News h₀ L h' ((b, LCg.lst []) :: news) → (∀ p ∈ news, p.1 ≠ b) → Q (.ref b) { s with heap := h', toks := tk' }) :
    wpAny (model PySem.Challenge.rw_qz0086_01.row.prog w) (ktrTop dp un gd cn cs L a ccd cl outer) (call (.ref 237) [.ref op]) Q E s := by
  obtain ⟨k1, k2, k3, htup⟩ := W.tup
  refine wpAny_call ?_
  refine' code_defC (binds := [(Str.ofString "op", .ref op)]) B F X N T rfl rfl hk ?k6 ?k7 ?k8 ?k9 ?kB ?kD ?_ ?c2 ?c3 ?c4
  walk_at "ENTERC"
  k_steps
  try any_goals walk_at "OUT"
  show Q _ _
  exact ret _ _ _ (by assumption) (news_sub2 (by assumption)) (off1_mem (by assumption : _ ∧ _ ∧ LCg.Off1 _ news).2.2)
theorem jumps_dd {wd : Str} {sh op : Addr} {t l : Int} {kw : Tok} {x y : Value} (W : Word w wd sh t l (Str.ofString "--")) (hop : (op, tupOb [.str wd kw, x, y]) ∈ news)
    (B : Below A₀ base outer h₀) (F : Fr h₀ L s.heap m) (X : (KK w.params).In h₀) (N : News h₀ L s.heap news) (T : Top vw lo mean mg mb h₀) (hk : cs.kind = .function) (hroom : dp + 8 < recursionLimit)
    (ret : ∀ h' tk' b, Fr h₀ L h' m → News h₀ L h' ((b, LCg.lst []) :: news) → (∀ p ∈ news, p.1 ≠ b) → Q (.ref b) { s with heap := h', toks := tk' }) :
    wpAny (model PySem.Challenge.rw_qz0086_01.row.prog w) (ktrTop dp un gd cn cs L a ccd cl outer) (call (.ref 237) [.ref op]) Q E s := by
  obtain ⟨k1, k2, k3, htup⟩ := W.tup
  refine wpAny_call ?_
  refine' code_defC (binds := [(Str.ofString "op", .ref op)]) B F X N T rfl rfl hk ?k6 ?k7 ?k8 ?k9 ?kB ?kD ?_ ?c2 ?c3 ?c4
  walk_at "ENTERC"
  k_steps
  try any_goals walk_at "OUT"
  show Q _ _
  exact ret _ _ _ (by assumption) (news_sub2 (by assumption)) (off1_mem (by assumption : _ ∧ _ ∧ LCg.Off1 _ news).2.2)
theorem jumps_j {wd : Str} {sh op : Addr} {t l : Int} {kw : Tok} {x : Value} (W : Word w wd sh t l (Str.ofString "j")) (hop : (op, tupOb [.str wd kw, x]) ∈ news)
    (B : Below A₀ base outer h₀) (F : Fr h₀ L s.heap m) (X : (KK w.params).In h₀) (N : News h₀ L s.heap news) (T : Top vw lo mean mg mb h₀) (hk : cs.kind = .function) (hroom : dp + 8 < recursionLimit)
    (ret : ∀ h' tk' b, Fr h₀ L h' m → News h₀ L h' ((b, LCg.lst [x]) :: news) → (∀ p ∈ news, p.1 ≠ b) → Q (.ref b) { s with heap := h', toks := tk' }) :
    wpAny (model PySem.Challenge.rw_qz0086_01.row.prog w) (ktrTop dp un gd cn cs L a ccd cl outer) (call (.ref 237) [.ref op]) Q E s := by
  obtain ⟨k1, k2, k3, htup⟩ := W.tup
  refine wpAny_call ?_
  refine' code_defC (binds := [(Str.ofString "op", .ref op)]) B F X N T rfl rfl hk ?k6 ?k7 ?k8 ?k9 ?kB ?kD ?_ ?c2 ?c3 ?c4
  walk_at "ENTERC"
  k_steps
  try any_goals walk_at "OUT"
  show Q _ _
  exact ret _ _ _ (by assumption) (news_sub2 (by assumption)) (off1_mem (by assumption : _ ∧ _ ∧ LCg.Off1 _ news).2.2)
theorem jumps_jjj {wd : Str} {sh op : Addr} {t l : Int} {kw : Tok} {x y z : Value} (W : Word w wd sh t l (Str.ofString "jjj")) (hop : (op, tupOb [.str wd kw, x, y, z]) ∈ news)
    (B : Below A₀ base outer h₀) (F : Fr h₀ L s.heap m) (X : (KK w.params).In h₀) (N : News h₀ L s.heap news) (T : Top vw lo mean mg mb h₀) (hk : cs.kind = .function) (hroom : dp + 8 < recursionLimit)
    (ret : ∀ h' tk' b, Fr h₀ L h' m → News h₀ L h' ((b, LCg.lst [x, y, z]) :: news) → (∀ p ∈ news, p.1 ≠ b) → Q (.ref b) { s with heap := h', toks := tk' }) :
    wpAny (model PySem.Challenge.rw_qz0086_01.row.prog w) (ktrTop dp un gd cn cs L a ccd cl outer) (call (.ref 237) [.ref op]) Q E s := by
  obtain ⟨k1, k2, k3, htup⟩ := W.tup
  refine wpAny_call ?_
  refine' code_defC (binds := [(Str.ofString "op", .ref op)]) B F X N T rfl rfl hk ?k6 ?k7 ?k8 ?k9 ?kB ?kD ?_ ?c2 ?c3 ?c4
  walk_at "ENTERC"
  k_steps
  try any_goals walk_at "OUT"
  show Q _ _
  exact ret _ _ _ (by assumption) (news_sub2 (by assumption)) (off1_mem (by assumption : _ ∧ _ ∧ LCg.Off1 _ news).2.2)
theorem jumps_n {wd : Str} {sh op : Addr} {t l : Int} {kw : Tok} {ka : Tok} (W : Word w wd sh t l (Str.ofString "n")) (hop : (op, tupOb [.str wd kw, .int 1 ka]) ∈ news)
    (B : Below A₀ base outer h₀) (F : Fr h₀ L s.heap m) (X : (KK w.params).In h₀) (N : News h₀ L s.heap news) (T : Top vw lo mean mg mb h₀) (hk : cs.kind = .function) (hroom : dp + 8 < recursionLimit)
    (ret : ∀ h' tk' b, Fr h₀ L h' m → News h₀ L h' ((b, LCg.lst []) :: news) → (∀ p ∈ news, p.1 ≠ b) → Q (.ref b) { s with heap := h', toks := tk' }) :
    wpAny (model PySem.Challenge.rw_qz0086_01.row.prog w) (ktrTop dp un gd cn cs L a ccd cl outer) (call (.ref 237) [.ref op]) Q E s := by
  obtain ⟨k1, k2, k3, htup⟩ := W.tup
  refine wpAny_call ?_
  refine' code_defC (binds := [(Str.ofString "op", .ref op)]) B F X N T rfl rfl hk ?k6 ?k7 ?k8 ?k9 ?kB ?kD ?_ ?c2 ?c3 ?c4
  walk_at "ENTERC"
  k_steps
  try any_goals walk_at "OUT"
  show Q _ _
  exact ret _ _ _ (by assumption) (news_sub2 (by assumption)) (off1_mem (by assumption : _ ∧ _ ∧ LCg.Off1 _ news).2.2)
theorem jumps_dnw {wd : Str} {sh op : Addr} {t l : Int} {kw : Tok} {x : Value} {ka kb : Tok} (W : Word w wd sh t l (Str.ofString "-nw")) (hop : (op, tupOb [.str wd kw, x, .int 0 ka, .int 1 kb]) ∈ news)
    (B : Below A₀ base outer h₀) (F : Fr h₀ L s.heap m) (X : (KK w.params).In h₀) (N : News h₀ L s.heap news) (T : Top vw lo mean mg mb h₀) (hk : cs.kind = .function) (hroom : dp + 8 < recursionLimit)
    (ret : ∀ h' tk' b, Fr h₀ L h' m → News h₀ L h' ((b, LCg.lst []) :: news) → (∀ p ∈ news, p.1 ≠ b) → Q (.ref b) { s with heap := h', toks := tk' }) :
    wpAny (model PySem.Challenge.rw_qz0086_01.row.prog w) (ktrTop dp un gd cn cs L a ccd cl outer) (call (.ref 237) [.ref op]) Q E s := by
  obtain ⟨k1, k2, k3, htup⟩ := W.tup
  refine wpAny_call ?_
  refine' code_defC (binds := [(Str.ofString "op", .ref op)]) B F X N T rfl rfl hk ?k6 ?k7 ?k8 ?k9 ?kB ?kD ?_ ?c2 ?c3 ?c4
  walk_at "ENTERC"
  k_steps
  try any_goals walk_at "OUT"
  show Q _ _
  exact ret _ _ _ (by assumption) (news_sub2 (by assumption)) (off1_mem (by assumption : _ ∧ _ ∧ LCg.Off1 _ news).2.2)
end
end -- F2
section -- G1
open PySem PySem.W PyProof.Rows PySem.Calls
set_option maxRecDepth 100000
set_option maxHeartbeats 8000000
section
variable {w : World} {mean : ExcName → Option Value} {mg mb : Str → Option Value} {dp un : Nat} {gd : Option (List Code)} {cn : Str} {cs : Scope} {a : Addr} {ccd : Value} {cl : List (Str × Addr)} {outer : List Env} {A₀ : Around} {base h₀ : Heap} {L : Addr} {m : Str → Option Value} {news : List (Addr × Obj)} {s : Shared} {Q E : Value → Shared → Prop}
noncomputable def leavingW : List Str := ["jump", "bywant", "return0", "return1", "return2", "subreturn", "loopleave", "refuse"]
theorem leave_tup (w : World) : ∃ its n, (KK w.params).lookup 177 = some ⟨.type "tuple", none, .seq its n, #[]⟩ ∧ StrsAre its.toList leavingW := by
  refine ⟨_, _, by with_unfolding_all rfl, ?_⟩
  repeat' constructor
theorem notin_leaving {A : Around} {prog : Program} {x : Str} {u : Tok} {Q : Value → Shared → Prop} (X : (KK w.params).In s.heap) (h : Q (.bool (!(leavingW.any (· == x)))) s) : wpAny (model prog w) A (compareOp .NotIn (.str x u) (.ref 177)) Q E s := by
  obtain ⟨its, n, hl, hs⟩ := leave_tup w
  exact notin_tuple_strs ⟨_, X _ _ hl, rfl, n, rfl⟩ hs h
theorem goes_on_ok {wd : Str} {op : Addr} {kw : Tok} {rest : List Value} {nb : Bool} (hop : (op, tupOb (.str wd kw :: rest)) ∈ news) (hgo : leavingW.any (· == wd) = nb)
    (B : Below A₀ base outer h₀) (F : Fr h₀ L s.heap m) (X : (KK w.params).In h₀) (N : News h₀ L s.heap news) (T : Top vw lo mean mg mb h₀) (hk : cs.kind = .function) (hroom : dp + 4 < recursionLimit)
    (ret : ∀ h' tk', Fr h₀ L h' m → News h₀ L h' news → Q (.bool (!nb)) { s with heap := h', toks := tk' }) :
    wpAny (model PySem.Challenge.rw_qz0086_01.row.prog w) (ktrTop dp un gd cn cs L a ccd cl outer) (call (.ref 244) [.ref op]) Q E s := by
  revert X N T
  k_fill
  intro X N T
  refine wpAny_call ?_
  refine' code_def (binds := [(Str.ofString "op", .ref op)]) B F X N T rfl rfl hk ?k6 ?k7 ?k8 ?k9 ?kB ?_ ?c2 ?c3 ?c4 ?c5
  walk_at "ENTER"
  k_steps
  refine notin_leaving (X'.keeps F'.keep) ?_
  rw [hgo]
  k_steps
  show Q _ _
  exact ret _ _ (by assumption) (by assumption)
end
end -- G1
section -- S1
open PySem PySem.W PyProof.Rows PySem.Calls
set_option maxRecDepth 100000
set_option maxHeartbeats 8000000
section
variable {w : World} {mean : ExcName → Option Value} {mg mb : Str → Option Value} {dp un : Nat} {gd : Option (List Code)} {cn : Str} {cs : Scope} {a : Addr} {ccd : Value} {cl : List (Str × Addr)} {outer : List Env} {A₀ : Around} {base h₀ : Heap} {L : Addr} {m : Str → Option Value} {news : List (Addr × Obj)} {s : Shared} {Q E : Value → Shared → Prop}
noncomputable def EffSpec (w : World) (its : List Value) (tk lf : Int) : Prop := ∀ (mean : ExcName → Option Value) (mg mb : Str → Option Value) (dp un : Nat) (gd : Option (List Code)) (cn : Str) (cs : Scope) (a : Addr) (ccd : Value) (cl : List (Str × Addr)) (outer : List Env) (A₀ : Around) (base h₀ : Heap) (L : Addr) (m : Str → Option Value) (news : List (Addr × Obj)) (s : Shared) (Q E : Value → Shared → Prop) (op : Addr),
  (op, tupOb its) ∈ news → Below A₀ base outer h₀ → Fr h₀ L s.heap m → (KK w.params).In h₀ → News h₀ L s.heap news → Top vw lo mean mg mb h₀ → cs.kind = .function → dp + 8 < recursionLimit → (∀ h' tk' b kt kl, Fr h₀ L h' m → News h₀ L h' ((b, tupOb [.int tk kt, .int lf kl]) :: news) → (∀ p ∈ news, p.1 < b) → Q (.ref b) { s with heap := h', toks := tk' }) → wpAny (model PySem.Challenge.rw_qz0086_01.row.prog w) (ktrTop dp un gd cn cs L a ccd cl outer) (call (.ref 232) [.ref op]) Q E s
noncomputable def JmpSpec (w : World) (its : List Value) (js : List Value) : Prop := ∀ (mean : ExcName → Option Value) (mg mb : Str → Option Value) (dp un : Nat) (gd : Option (List Code)) (cn : Str) (cs : Scope) (a : Addr) (ccd : Value) (cl : List (Str × Addr)) (outer : List Env) (A₀ : Around) (base h₀ : Heap) (L : Addr) (m : Str → Option Value) (news : List (Addr × Obj)) (s : Shared) (Q E : Value → Shared → Prop) (op : Addr),
  (op, tupOb its) ∈ news → Below A₀ base outer h₀ → Fr h₀ L s.heap m → (KK w.params).In h₀ → News h₀ L s.heap news → Top vw lo mean mg mb h₀ → cs.kind = .function → dp + 8 < recursionLimit → (∀ h' tk' b, Fr h₀ L h' m → News h₀ L h' ((b, LCg.lst js) :: news) → (∀ p ∈ news, p.1 ≠ b) → Q (.ref b) { s with heap := h', toks := tk' }) → wpAny (model PySem.Challenge.rw_qz0086_01.row.prog w) (ktrTop dp un gd cn cs L a ccd cl outer) (call (.ref 237) [.ref op]) Q E s
noncomputable def GoesSpec (w : World) (its : List Value) (g : Bool) : Prop := ∀ (mean : ExcName → Option Value) (mg mb : Str → Option Value) (dp un : Nat) (gd : Option (List Code)) (cn : Str) (cs : Scope) (a : Addr) (ccd : Value) (cl : List (Str × Addr)) (outer : List Env) (A₀ : Around) (base h₀ : Heap) (L : Addr) (m : Str → Option Value) (news : List (Addr × Obj)) (s : Shared) (Q E : Value → Shared → Prop) (op : Addr),
  (op, tupOb its) ∈ news → Below A₀ base outer h₀ → Fr h₀ L s.heap m → (KK w.params).In h₀ → News h₀ L s.heap news → Top vw lo mean mg mb h₀ → cs.kind = .function → dp + 4 < recursionLimit → (∀ h' tk', Fr h₀ L h' m → News h₀ L h' news → Q (.bool g) { s with heap := h', toks := tk' }) → wpAny (model PySem.Challenge.rw_qz0086_01.row.prog w) (ktrTop dp un gd cn cs L a ccd cl outer) (call (.ref 244) [.ref op]) Q E s
theorem eff_use {its : List Value} {tk lf : Int} (S : EffSpec w its tk lf) {op : Addr} (hop : (op, tupOb its) ∈ news) (B : Below A₀ base outer h₀) (F : Fr h₀ L s.heap m) (X : (KK w.params).In h₀) (N : News h₀ L s.heap news) (T : Top vw lo mean mg mb h₀) (hk : cs.kind = .function) (hroom : dp + 8 < recursionLimit) (ret : ∀ h' tk' b kt kl, Fr h₀ L h' m → News h₀ L h' ((b, tupOb [.int tk kt, .int lf kl]) :: news) → (∀ p ∈ news, p.1 < b) → Q (.ref b) { s with heap := h', toks := tk' }) :
    wpAny (model PySem.Challenge.rw_qz0086_01.row.prog w) (ktrTop dp un gd cn cs L a ccd cl outer) (call (.ref 232) [.ref op]) Q E s := S _ _ _ _ _ _ _ _ _ _ _ _ _ _ _ _ _ _ _ _ _ _ hop B F X N T hk hroom ret
theorem jmp_use {its js : List Value} (S : JmpSpec w its js) {op : Addr} (hop : (op, tupOb its) ∈ news) (B : Below A₀ base outer h₀) (F : Fr h₀ L s.heap m) (X : (KK w.params).In h₀) (N : News h₀ L s.heap news) (T : Top vw lo mean mg mb h₀) (hk : cs.kind = .function) (hroom : dp + 8 < recursionLimit) (ret : ∀ h' tk' b, Fr h₀ L h' m → News h₀ L h' ((b, LCg.lst js) :: news) → (∀ p ∈ news, p.1 ≠ b) → Q (.ref b) { s with heap := h', toks := tk' }) :
    wpAny (model PySem.Challenge.rw_qz0086_01.row.prog w) (ktrTop dp un gd cn cs L a ccd cl outer) (call (.ref 237) [.ref op]) Q E s := S _ _ _ _ _ _ _ _ _ _ _ _ _ _ _ _ _ _ _ _ _ _ hop B F X N T hk hroom ret
theorem goes_use {its : List Value} {g : Bool} (S : GoesSpec w its g) {op : Addr} (hop : (op, tupOb its) ∈ news) (B : Below A₀ base outer h₀) (F : Fr h₀ L s.heap m) (X : (KK w.params).In h₀) (N : News h₀ L s.heap news) (T : Top vw lo mean mg mb h₀) (hk : cs.kind = .function) (hroom : dp + 4 < recursionLimit) (ret : ∀ h' tk', Fr h₀ L h' m → News h₀ L h' news → Q (.bool g) { s with heap := h', toks := tk' }) :
    wpAny (model PySem.Challenge.rw_qz0086_01.row.prog w) (ktrTop dp un gd cn cs L a ccd cl outer) (call (.ref 244) [.ref op]) Q E s := S _ _ _ _ _ _ _ _ _ _ _ _ _ _ _ _ _ _ _ _ _ _ hop B F X N T hk hroom ret
noncomputable def tupsOf (es : List (Addr × Int × Int × Tok × Tok)) : List (Addr × Obj) := es.map fun e => (e.1, tupOb [.int e.2.1 e.2.2.2.1, .int e.2.2.1 e.2.2.2.2])
noncomputable def HatSpec (w : World) (its : List Value) (ps : List (Int × Int)) : Prop := ∀ (mean : ExcName → Option Value) (mg mb : Str → Option Value) (dp un : Nat) (gd : Option (List Code)) (cn : Str) (cs : Scope) (a : Addr) (ccd : Value) (cl : List (Str × Addr)) (outer : List Env) (A₀ : Around) (base h₀ : Heap) (L : Addr) (m : Str → Option Value) (news : List (Addr × Obj)) (s : Shared) (Q E : Value → Shared → Prop) (op : Addr),
  (op, tupOb its) ∈ news → Below A₀ base outer h₀ → Fr h₀ L s.heap m → (KK w.params).In h₀ → News h₀ L s.heap news → Top vw lo mean mg mb h₀ → cs.kind = .function → dp + 12 < recursionLimit → (∀ h' tk' b n (es : List (Addr × Int × Int × Tok × Tok)), es.map (fun e => (e.2.1, e.2.2.1)) = ps → Fr h₀ L h' m → News h₀ L h' ((b, W.listOf (es.map fun e => Value.ref e.1).toArray n) :: (tupsOf es ++ news)) → (∀ p ∈ news, p.1 ≠ b) → (∀ e ∈ es, ∀ p ∈ news, p.1 ≠ e.1) → Q (.ref b) { s with heap := h', toks := tk' }) → wpAny (model PySem.Challenge.rw_qz0086_01.row.prog w) (ktrTop dp un gd cn cs L a ccd cl outer) (call (.ref 251) [.ref op]) Q E s
theorem hat_use {its : List Value} {ps : List (Int × Int)} (S : HatSpec w its ps) {op : Addr} (hop : (op, tupOb its) ∈ news) (B : Below A₀ base outer h₀) (F : Fr h₀ L s.heap m) (X : (KK w.params).In h₀) (N : News h₀ L s.heap news) (T : Top vw lo mean mg mb h₀) (hk : cs.kind = .function) (hroom : dp + 12 < recursionLimit) (ret : ∀ h' tk' b n (es : List (Addr × Int × Int × Tok × Tok)), es.map (fun e => (e.2.1, e.2.2.1)) = ps → Fr h₀ L h' m → News h₀ L h' ((b, W.listOf (es.map fun e => Value.ref e.1).toArray n) :: (tupsOf es ++ news)) → (∀ p ∈ news, p.1 ≠ b) → (∀ e ∈ es, ∀ p ∈ news, p.1 ≠ e.1) → Q (.ref b) { s with heap := h', toks := tk' }) :
    wpAny (model PySem.Challenge.rw_qz0086_01.row.prog w) (ktrTop dp un gd cn cs L a ccd cl outer) (call (.ref 251) [.ref op]) Q E s := S _ _ _ _ _ _ _ _ _ _ _ _ _ _ _ _ _ _ _ _ _ _ hop B F X N T hk hroom ret
theorem has_get {prog : Program} {A : Around} {a : Addr} {x : Str} {t : Tok} {r : Option Value} {dflt : Value} {Q : Value → Shared → Prop} (D : DictK w a) (e : nsIn (KK w.params) a x = some r) (lo : (a == sysModules) = false) (F : Fr h₀ L s.heap m) (X₀ : (KK w.params).In h₀)
    (h : Q (r.getD dflt) { s with toks := s.toks + 1 }) : wpAny (model prog w) A (call (.builtin "dict.get") [.ref a, .str x t, dflt]) Q E s := by
  obtain ⟨es, n, hl, hk⟩ := D
  have hm := mapOf_K (prog := prog) (X₀.keeps F.keep) hl hk
  exact call_meetsIn PySem.F.slot_dict_get hm.typeIs PySem.F.entry_dict_get (PySem.F.args_dict_get_3 _ _ _) (meets_dict_get_default (strKind prog w) a (strKind_is prog w x t) lo dflt) ⟨_, hm, by rw [find_K hl e]; exact h⟩
theorem off1_of {D : Addr} : ∀ {l : List (Addr × Obj)}, (∀ p ∈ l, p.1 ≠ D) → LCg.Off1 D l
  | [], _ => trivial
  | _ :: _, h => ⟨h _ (.head _), off1_of fun p hp => h p (.tail _ hp)⟩
theorem iter_lst {A : Around} {prog : Program} {env : Env} {x : Str} {body : List Stmt} {Q : Flow → Shared → Prop} {E : Value → Shared → Prop} {ax : Addr} {vs : List Value} {m₀ : Str → Option Value} (hh : A.handled = none) (F : Fr h₀ env.locals s.heap m₀) (N : News h₀ env.locals s.heap news) (hm : (ax, LCg.lst vs) ∈ news)
    (rest₀ : ∀ I : Addr, (∀ p ∈ news, p.1 < I) → ListRest prog w A E h₀ env x body Q s I (ax, LCg.lst vs) vs m₀ news) :
    wpAny (model prog w) A (pyIter (.ref ax)) (fun it s₂ => LoopAtV prog w A h₀ env x body Q E it s₂) E s := iter_listUnr hh F N hm rfl rfl rest₀
theorem unrEnd_c0 {h₀ h' : Heap} {L I : Addr} {it : Obj} {rest : (Str → Option Value) → List (Addr × Obj) → Prop} {s₁ : Shared} {tk : Nat} {m' : Str → Option Value} {post : List (Addr × Obj)} (F : Fr h₀ L h' m') (N : News h₀ L h' ((I, it) :: post))
    (off : ∀ p ∈ post, p.1 ≠ I) (r : rest m' post) : UnrEnd h₀ L s₁ I it rest { s₁ with heap := h', toks := tk } := UnrEnd.intro F N post (fun _ h => h) off r
theorem unrEnd_c1 {h₀ h' : Heap} {L I : Addr} {it : Obj} {rest : (Str → Option Value) → List (Addr × Obj) → Prop} {s₁ : Shared} {tk : Nat} {m' : Str → Option Value} {q : Addr × Obj} {post : List (Addr × Obj)} (F : Fr h₀ L h' m') (N : News h₀ L h' (q :: (I, it) :: post))
    (off : ∀ p ∈ q :: post, p.1 ≠ I) (r : rest m' (q :: post)) : UnrEnd h₀ L s₁ I it rest { s₁ with heap := h', toks := tk } :=
  UnrEnd.intro F N (q :: post) (fun p hp => by
    rcases List.mem_cons.mp hp with rfl | hp
    · exact .tail _ (.head _)
    · rcases List.mem_cons.mp hp with rfl | hp
      · exact .head _
      · exact .tail _ (.tail _ hp)) off r
end
end -- S1
section
local macro_rules | `(tactic| walk_at "call builtin:dict.get") => `(tactic| k_extra "z30")
local macro_rules | `(tactic| walk_at "pyIter ref") => `(tactic| k_extra "z31")
local macro_rules | `(tactic| walk_at "UnrEnd") => `(tactic| k_extra "z32")
local macro_rules | `(tactic| walk_at "call ref") => `(tactic| k_extra "z33")
local macro_rules | `(tactic| walk_at "call ref") => `(tactic| k_extra "z34")
local macro_rules | `(tactic| walk_at "call ref") => `(tactic| k_extra "z35")
local macro_rules | `(tactic| walk_at "SUB") => `(tactic| k_extra "z36")
local macro_rules | `(tactic| walk_at "OFF") => `(tactic| k_extra "z37")
local macro_rules | `(tactic| walk_at "OFFS") => `(tactic| k_extra "z38")
section -- H1
open PySem PySem.W PyProof.Rows PySem.Calls
set_option maxRecDepth 100000
set_option maxHeartbeats 8000000
section
variable {w : World} {mean : ExcName → Option Value} {mg mb : Str → Option Value} {dp un : Nat} {gd : Option (List Code)} {cn : Str} {cs : Scope} {a : Addr} {ccd : Value} {cl : List (Str × Addr)} {outer : List Env} {A₀ : Around} {base h₀ : Heap} {L : Addr} {m : Str → Option Value} {news : List (Addr × Obj)} {s : Shared} {Q E : Value → Shared → Prop}
theorem hat_0_false {wd : Str} {kw : Tok} {rest : List Value} {et el : Int} (S1 : EffSpec w (.str wd kw :: rest) et el) (S2 : JmpSpec w (.str wd kw :: rest) []) (S3 : GoesSpec w (.str wd kw :: rest) false) (hkeep : nsIn (KK w.params) 178 wd = some none) : HatSpec w (.str wd kw :: rest) [] := by
  intro mean mg mb dp un gd cn cs a ccd cl outer A₀ base h₀ L m news s Q E op hop B F X N T hk hroom ret
  revert X N T
  k_fill
  intro X N T
  refine wpAny_call ?_
  refine' code_def (binds := [(Str.ofString "op", .ref op)]) B F X N T rfl rfl hk ?k6 ?k7 ?k8 ?k9 ?kB ?_ ?c2 ?c3 ?c4 ?c5
  walk_at "ENTER"
  k_steps
  try any_goals walk_at "MEM"
  show Q _ _
  refine' ret _ _ _ _ [] ?e ?F (News.perm (by assumption) ?s) ?o ?oo
  case F => assumption
  case s => (simp only [tupsOf, List.map, List.cons_append, List.nil_append]; walk_at "SUB")
  case e => simp only [List.map, Int.add_zero]
  case o => walk_at "OFF"
  case oo => walk_at "OFFS"
theorem hat_0_true {wd : Str} {kw : Tok} {rest : List Value} {et el : Int} (S1 : EffSpec w (.str wd kw :: rest) et el) (S2 : JmpSpec w (.str wd kw :: rest) []) (S3 : GoesSpec w (.str wd kw :: rest) true) (hkeep : nsIn (KK w.params) 178 wd = some none) : HatSpec w (.str wd kw :: rest) [(-1, el - et)] := by
  intro mean mg mb dp un gd cn cs a ccd cl outer A₀ base h₀ L m news s Q E op hop B F X N T hk hroom ret
  refine wpAny_call ?_
  refine' code_def (binds := [(Str.ofString "op", .ref op)]) B F X N T rfl rfl hk ?k6 ?k7 ?k8 ?k9 ?kB ?_ ?c2 ?c3 ?c4 ?c5
  walk_at "ENTER"
  k_steps
  try any_goals walk_at "MEM"
  show Q _ _
  refine' ret _ _ _ _ [(_, -1, el - et, _, _)] ?e ?F (News.perm (by assumption) ?s) ?o ?oo
  case F => assumption
  case s => (simp only [tupsOf, List.map, List.cons_append, List.nil_append]; walk_at "SUB")
  case e => simp only [List.map, Int.add_zero]
  case o => walk_at "OFF"
  case oo => walk_at "OFFS"
theorem hat_1_true {wd : Str} {kw : Tok} {rest : List Value} {et el : Int} {j0 : Int} {q0 : Tok} (S1 : EffSpec w (.str wd kw :: rest) et el) (S2 : JmpSpec w (.str wd kw :: rest) [.int j0 q0]) (S3 : GoesSpec w (.str wd kw :: rest) true) (hkeep : nsIn (KK w.params) 178 wd = some none) : HatSpec w (.str wd kw :: rest) [(-1, el - et), (j0, el - et)] := by
  intro mean mg mb dp un gd cn cs a ccd cl outer A₀ base h₀ L m news s Q E op hop B F X N T hk hroom ret
  refine wpAny_call ?_
  refine' code_def (binds := [(Str.ofString "op", .ref op)]) B F X N T rfl rfl hk ?k6 ?k7 ?k8 ?k9 ?kB ?_ ?c2 ?c3 ?c4 ?c5
  walk_at "ENTER"
  k_steps
  try any_goals walk_at "MEM"
  show Q _ _
  refine' ret _ _ _ _ [(_, -1, el - et, _, _), (_, j0, el - et + 0, _, _)] ?e ?F (News.perm (by assumption) ?s) ?o ?oo
  case F => assumption
  case s => (simp only [tupsOf, List.map, List.cons_append, List.nil_append]; walk_at "SUB")
  case e => simp only [List.map, Int.add_zero]
  case o => walk_at "OFF"
  case oo => walk_at "OFFS"
theorem hat_1_false {wd : Str} {kw : Tok} {rest : List Value} {et el : Int} {j0 : Int} {q0 : Tok} (S1 : EffSpec w (.str wd kw :: rest) et el) (S2 : JmpSpec w (.str wd kw :: rest) [.int j0 q0]) (S3 : GoesSpec w (.str wd kw :: rest) false) (hkeep : nsIn (KK w.params) 178 wd = some none) : HatSpec w (.str wd kw :: rest) [(j0, el - et)] := by
  intro mean mg mb dp un gd cn cs a ccd cl outer A₀ base h₀ L m news s Q E op hop B F X N T hk hroom ret
  refine wpAny_call ?_
  refine' code_def (binds := [(Str.ofString "op", .ref op)]) B F X N T rfl rfl hk ?k6 ?k7 ?k8 ?k9 ?kB ?_ ?c2 ?c3 ?c4 ?c5
  walk_at "ENTER"
  k_steps
  try any_goals walk_at "MEM"
  show Q _ _
  refine' ret _ _ _ _ [(_, j0, el - et + 0, _, _)] ?e ?F (News.perm (by assumption) ?s) ?o ?oo
  case F => assumption
  case s => (simp only [tupsOf, List.map, List.cons_append, List.nil_append]; walk_at "SUB")
  case e => simp only [List.map, Int.add_zero]
  case o => walk_at "OFF"
  case oo => walk_at "OFFS"
theorem hat_3_false {wd : Str} {kw : Tok} {rest : List Value} {et el : Int} {j0 j1 j2 : Int} {q0 q1 q2 : Tok} (S1 : EffSpec w (.str wd kw :: rest) et el) (S2 : JmpSpec w (.str wd kw :: rest) [.int j0 q0, .int j1 q1, .int j2 q2]) (S3 : GoesSpec w (.str wd kw :: rest) false) (hkeep : nsIn (KK w.params) 178 wd = some none) : HatSpec w (.str wd kw :: rest) [(j0, el - et), (j1, el - et), (j2, el - et)] := by
  intro mean mg mb dp un gd cn cs a ccd cl outer A₀ base h₀ L m news s Q E op hop B F X N T hk hroom ret
  refine wpAny_call ?_
  refine' code_def (binds := [(Str.ofString "op", .ref op)]) B F X N T rfl rfl hk ?k6 ?k7 ?k8 ?k9 ?kB ?_ ?c2 ?c3 ?c4 ?c5
  walk_at "ENTER"
  k_steps
  try any_goals walk_at "MEM"
  show Q _ _
  refine' ret _ _ _ _ [(_, j0, el - et + 0, _, _), (_, j1, el - et + 0, _, _), (_, j2, el - et + 0, _, _)] ?e ?F (News.perm (by assumption) ?s) ?o ?oo
  case F => assumption
  case s => (simp only [tupsOf, List.map, List.cons_append, List.nil_append]; walk_at "SUB")
  case e => simp only [List.map, Int.add_zero]
  case o => walk_at "OFF"
  case oo => walk_at "OFFS"
end
end -- H1
section -- U1
open PySem PySem.W PyProof.Rows PySem.Calls
set_option maxRecDepth 100000
set_option maxHeartbeats 8000000
section
variable {w : World} {mean : ExcName → Option Value} {mg mb : Str → Option Value} {dp un : Nat} {gd : Option (List Code)} {cn : Str} {cs : Scope} {a : Addr} {ccd : Value} {cl : List (Str × Addr)} {outer : List Env} {A₀ : Around} {base h₀ : Heap} {L : Addr} {m : Str → Option Value} {news : List (Addr × Obj)} {s : Shared} {Q E : Value → Shared → Prop}
noncomputable def SubsSpec (w : World) (its : List Value) (us : List Value) : Prop := ∀ (mean : ExcName → Option Value) (mg mb : Str → Option Value) (dp un : Nat) (gd : Option (List Code)) (cn : Str) (cs : Scope) (a : Addr) (ccd : Value) (cl : List (Str × Addr)) (outer : List Env) (A₀ : Around) (base h₀ : Heap) (L : Addr) (m : Str → Option Value) (news : List (Addr × Obj)) (s : Shared) (Q E : Value → Shared → Prop) (op : Addr),
  (op, tupOb its) ∈ news → Below A₀ base outer h₀ → Fr h₀ L s.heap m → (KK w.params).In h₀ → News h₀ L s.heap news → Top vw lo mean mg mb h₀ → cs.kind = .function → dp + 4 < recursionLimit → (∀ h' tk' b n, Fr h₀ L h' m → News h₀ L h' ((b, W.listOf us.toArray n) :: news) → (∀ p ∈ news, p.1 ≠ b) → Q (.ref b) { s with heap := h', toks := tk' }) → wpAny (model PySem.Challenge.rw_qz0086_01.row.prog w) (ktrTop dp un gd cn cs L a ccd cl outer) (call (.ref 258) [.ref op]) Q E s
theorem subs_use {its us : List Value} (S : SubsSpec w its us) {op : Addr} (hop : (op, tupOb its) ∈ news) (B : Below A₀ base outer h₀) (F : Fr h₀ L s.heap m) (X : (KK w.params).In h₀) (N : News h₀ L s.heap news) (T : Top vw lo mean mg mb h₀) (hk : cs.kind = .function) (hroom : dp + 4 < recursionLimit) (ret : ∀ h' tk' b n, Fr h₀ L h' m → News h₀ L h' ((b, W.listOf us.toArray n) :: news) → (∀ p ∈ news, p.1 ≠ b) → Q (.ref b) { s with heap := h', toks := tk' }) :
    wpAny (model PySem.Challenge.rw_qz0086_01.row.prog w) (ktrTop dp un gd cn cs L a ccd cl outer) (call (.ref 258) [.ref op]) Q E s := S _ _ _ _ _ _ _ _ _ _ _ _ _ _ _ _ _ _ _ _ _ _ hop B F X N T hk hroom ret
theorem subs_one {wd : Str} {kw : Tok} {v : Value} (h1 : (["closure", "definesub", "map", "grep", "evalblock"] : List Str).any (· == wd) = true) : SubsSpec w ([.str wd kw, v]) [v] := by
  intro mean mg mb dp un gd cn cs a ccd cl outer A₀ base h₀ L m news s Q E op hop B F X N T hk hroom ret
  revert X N T
  k_fill
  intro X N T
  refine wpAny_call ?_
  refine' code_def (binds := [(Str.ofString "op", .ref op)]) B F X N T rfl rfl hk ?k6 ?k7 ?k8 ?k9 ?kB ?_ ?c2 ?c3 ?c4 ?c5
  walk_at "ENTER"
  k_steps
  show Q _ _
  refine' ret _ _ _ _ ?F (News.perm (by assumption) ?s) ?o
  case F => assumption
  case s => walk_at "SUB"
  case o => walk_at "OFF"
theorem subs_none {wd : Str} {kw : Tok} {rest : List Value} (h1 : (["closure", "definesub", "map", "grep", "evalblock"] : List Str).any (· == wd) = false) (h2 : (wd == ("subst" : Str)) = false) (h3 : (wd == ("sort" : Str)) = false) : SubsSpec w (.str wd kw :: rest) [] := by
  intro mean mg mb dp un gd cn cs a ccd cl outer A₀ base h₀ L m news s Q E op hop B F X N T hk hroom ret
  refine wpAny_call ?_
  refine' code_def (binds := [(Str.ofString "op", .ref op)]) B F X N T rfl rfl hk ?k6 ?k7 ?k8 ?k9 ?kB ?_ ?c2 ?c3 ?c4 ?c5
  walk_at "ENTER"
  k_steps
  show Q _ _
  refine' ret _ _ _ _ ?F (News.perm (by assumption) ?s) ?o
  case F => assumption
  case s => walk_at "SUB"
  case o => walk_at "OFF"
theorem subs_sort1 {kw kz : Tok} {v : Value} {z : Int} (hz : 0 ≤ z) : SubsSpec w ([.str "sort" kw, .int z kz, v]) [.int z kz] := by
  intro mean mg mb dp un gd cn cs a ccd cl outer A₀ base h₀ L m news s Q E op hop B F X N T hk hroom ret
  refine wpAny_call ?_
  refine' code_def (binds := [(Str.ofString "op", .ref op)]) B F X N T rfl rfl hk ?k6 ?k7 ?k8 ?k9 ?kB ?_ ?c2 ?c3 ?c4 ?c5
  walk_at "ENTER"
  k_steps
  show Q _ _
  refine' ret _ _ _ _ ?F (News.perm (by assumption) ?s) ?o
  case F => assumption
  case s => walk_at "SUB"
  case o => walk_at "OFF"
theorem subs_sort0 {kw kz : Tok} {v : Value} {z : Int} (hz : z < 0) : SubsSpec w ([.str "sort" kw, .int z kz, v]) [] := by
  intro mean mg mb dp un gd cn cs a ccd cl outer A₀ base h₀ L m news s Q E op hop B F X N T hk hroom ret
  refine wpAny_call ?_
  refine' code_def (binds := [(Str.ofString "op", .ref op)]) B F X N T rfl rfl hk ?k6 ?k7 ?k8 ?k9 ?kB ?_ ?c2 ?c3 ?c4 ?c5
  walk_at "ENTER"
  k_steps
  show Q _ _
  refine' ret _ _ _ _ ?F (News.perm (by assumption) ?s) ?o
  case F => assumption
  case s => walk_at "SUB"
  case o => walk_at "OFF"
end
end -- U1
end
section -- K1
open PySem PySem.W PyProof.Rows PySem.Calls
set_option maxRecDepth 100000
set_option maxHeartbeats 8000000
section
variable {w : World} {mean : ExcName → Option Value} {mg mb : Str → Option Value} {dp un : Nat} {gd : Option (List Code)} {cn : Str} {cs : Scope} {a : Addr} {ccd : Value} {cl : List (Str × Addr)} {outer : List Env} {A₀ : Around} {base h₀ : Heap} {L : Addr} {m : Str → Option Value} {news : List (Addr × Obj)} {s : Shared} {Q E : Value → Shared → Prop}
theorem iter_tup {A : Around} {prog : Program} {env : Env} {x : PySem.Expr} {body : List Stmt} {Q : Flow → Shared → Prop} {E : Value → Shared → Prop} {ax : Addr} {vs : List Value} {m₀ : Str → Option Value} (hh : A.handled = none) (F : Fr h₀ env.locals s.heap m₀) (N : News h₀ env.locals s.heap news) (hm : (ax, tupOb vs) ∈ news)
    (rest₀ : ∀ I : Addr, (∀ p ∈ news, p.1 < I) → ItemsRest prog w A E h₀ env x body Q s [(I, "tuple_iterator")] [(ax, tupOb vs)] (vs.map .val) m₀ news) :
    wpAny (model prog w) A (pyIter (.ref ax)) (fun it s₂ => TurnsAt prog w A h₀ env x body Q E it s₂) E s := iter_tupTurns hh F N hm rfl rfl rest₀
theorem unrEndW_c0 {h₀ h' : Heap} {L I : Addr} {it : Obj} {rest : (Str → Option Value) → List (Addr × Obj) → Prop} {s₁ : Shared} {tk : Nat} {m' : Str → Option Value} {post : List (Addr × Obj)} (F : Fr h₀ L h' m') (N : News h₀ L h' ((I, it) :: post))
    (off : ∀ p ∈ post, p.1 ≠ I) (r : rest m' post) : UnrEndW h₀ L s₁ [(I, it)] rest { s₁ with heap := h', toks := tk } := ⟨h', tk, m', post, rfl, F, N, fun p hp q hq => by rw [List.mem_singleton.mp hq]; exact off p hp, r⟩
theorem str_lenN {A : Around} {prog : Program} {x : Str} {t : Tok} {Q : Value → Shared → Prop} (n : Nat) (hP : x.length = n) (hn : n ≤ 8) (h : Q (.int n (s.toks + 1)) { s with toks := s.toks + 1 + 1 }) : wpAny (model prog w) A (call (.builtin "len") [.str x t]) Q E s :=
  len_str (by omega) (by rw [hP]; exact h)
local macro_rules | `(tactic| walk_at "call builtin:dict.get") => `(tactic| k_extra "z30")
local macro_rules | `(tactic| walk_at "pyIter ref") => `(tactic| k_extra "z31")
local macro_rules | `(tactic| walk_at "UnrEnd") => `(tactic| k_extra "z32")
local macro_rules | `(tactic| walk_at "call ref") => `(tactic| k_extra "z33")
local macro_rules | `(tactic| walk_at "call ref") => `(tactic| k_extra "z34")
local macro_rules | `(tactic| walk_at "call ref") => `(tactic| k_extra "z35")
local macro_rules | `(tactic| walk_at "SUB") => `(tactic| k_extra "z36")
local macro_rules | `(tactic| walk_at "OFF") => `(tactic| k_extra "z37")
local macro_rules | `(tactic| walk_at "OFFS") => `(tactic| k_extra "z38")
local macro_rules | `(tactic| walk_at "call type:range") => `(tactic| k_extra "z39")
local macro_rules | `(tactic| walk_at "pyIter ref") => `(tactic| k_extra "z40")
local macro_rules | `(tactic| walk_at "UnrEndW") => `(tactic| k_extra "z41")
local macro_rules | `(tactic| walk_at "call builtin:len") => `(tactic| k_extra "z42")
local macro_rules | `(tactic| walk_at "ALLI") => `(tactic| k_extra "z43")
local macro_rules | `(tactic| walk_at "call ref") => `(tactic| k_extra "z44")
noncomputable def IsI (v : Value) : Prop := ∃ n k, v = .int n k
noncomputable def ChkSpec (w : World) (its ask : List Value) : Prop := ∀ (mean : ExcName → Option Value) (mg mb : Str → Option Value) (dp un : Nat) (gd : Option (List Code)) (cn : Str) (cs : Scope) (a : Addr) (ccd : Value) (cl : List (Str × Addr)) (outer : List Env) (A₀ : Around) (base h₀ : Heap) (L : Addr) (m : Str → Option Value) (news : List (Addr × Obj)) (s : Shared) (Q E : Value → Shared → Prop) (op : Addr),
  (op, tupOb its) ∈ news → Below A₀ base outer h₀ → Fr h₀ L s.heap m → (KK w.params).In h₀ → News h₀ L s.heap news → Top vw lo mean mg mb h₀ → cs.kind = .function → dp + 12 < recursionLimit →
  ((∀ v ∈ ask, IsI v) → ∀ h' tk', Fr h₀ L h' m → News h₀ L h' news → Q .none { s with heap := h', toks := tk' }) →
  ((∃ v ∈ ask, OddV v) → ∀ x h' tk', Flew base h₀ (envX cn cs L a ccd cl :: outer) L m x h' → E x { s with heap := h', toks := tk' }) →
  wpAny (model PySem.Challenge.rw_qz0086_01.row.prog w) (ktrTop dp un gd cn cs L a ccd cl outer) (call (.ref 275) [.ref op]) Q E s
theorem chk_use {its ask : List Value} (S : ChkSpec w its ask) {op : Addr} (hop : (op, tupOb its) ∈ news) (B : Below A₀ base outer h₀) (F : Fr h₀ L s.heap m) (X : (KK w.params).In h₀) (N : News h₀ L s.heap news) (T : Top vw lo mean mg mb h₀) (hk : cs.kind = .function) (hroom : dp + 12 < recursionLimit)
  (ret : (∀ v ∈ ask, IsI v) → ∀ h' tk', Fr h₀ L h' m → News h₀ L h' news → Q .none { s with heap := h', toks := tk' })
  (err : (∃ v ∈ ask, OddV v) → ∀ x h' tk', Flew base h₀ (envX cn cs L a ccd cl :: outer) L m x h' → E x { s with heap := h', toks := tk' }) :
  wpAny (model PySem.Challenge.rw_qz0086_01.row.prog w) (ktrTop dp un gd cn cs L a ccd cl outer) (call (.ref 275) [.ref op]) Q E s := S _ _ _ _ _ _ _ _ _ _ _ _ _ _ _ _ _ _ _ _ _ _ hop B F X N T hk hroom ret err
theorem chk_slot2 {wd : Str} {sh : Addr} {t l : Int} {kw : Tok} {u v : Value} {ks : Tok} (W : Word w wd sh t l (Str.ofString "--")) (hS : nsIn (KK w.params) 259 wd = some (some (.int 2 ks))) (hC : nsIn (KK w.params) 260 wd = some none) (hv_v : (∃ n k, v = .int n k) ∨ OddV v) : ChkSpec w [.str wd kw, u, v] [v] := by
  intro mean mg mb dp un gd cn cs a ccd cl outer A₀ base h₀ L m news s Q E op hop B F X N T hk hroom ret err
  obtain ⟨k1, k2, k3, htup⟩ := W.tup
  revert X N T
  k_fill
  intro X N T
  refine wpAny_call ?_
  refine' code_def (binds := [(Str.ofString "op", .ref op)]) B F X N T rfl rfl hk ?k6 ?k7 ?k8 ?k9 ?kB ?_ ?c2 ?c3 ?c4 ?c5
  walk_at "ENTER"
  k_steps
  try any_goals walk_at "OUT"
  all_goals (show Q _ _)
  all_goals exact ret (by walk_at "ALLI") _ _ (by assumption) (News.perm (by assumption) (by walk_at "SUB"))
theorem chk_code1b {wd : Str} {sh : Addr} {t l : Int} {kw : Tok} {u v : Value} {ks : Tok} (W : Word w wd sh t l (Str.ofString "--")) (hS : nsIn (KK w.params) 259 wd = some none) (hC : nsIn (KK w.params) 260 wd = some (some (.int 1 ks))) (hv_v : (∃ n k, v = .int n k) ∨ OddV v) : ChkSpec w [.str wd kw, v, u] [v] := by
  intro mean mg mb dp un gd cn cs a ccd cl outer A₀ base h₀ L m news s Q E op hop B F X N T hk hroom ret err
  obtain ⟨k1, k2, k3, htup⟩ := W.tup
  refine wpAny_call ?_
  refine' code_def (binds := [(Str.ofString "op", .ref op)]) B F X N T rfl rfl hk ?k6 ?k7 ?k8 ?k9 ?kB ?_ ?c2 ?c3 ?c4 ?c5
  walk_at "ENTER"
  k_steps
  try any_goals walk_at "OUT"
  all_goals (show Q _ _)
  all_goals exact ret (by walk_at "ALLI") _ _ (by assumption) (News.perm (by assumption) (by walk_at "SUB"))
theorem chk_e {wd : Str} {sh : Addr} {t l : Int} {kw : Tok} (W : Word w wd sh t l (Str.ofString "")) (hS : nsIn (KK w.params) 259 wd = some none) (hC : nsIn (KK w.params) 260 wd = some none)  : ChkSpec w [.str wd kw] [] := by
  intro mean mg mb dp un gd cn cs a ccd cl outer A₀ base h₀ L m news s Q E op hop B F X N T hk hroom ret err
  obtain ⟨k1, k2, k3, htup⟩ := W.tup
  refine wpAny_call ?_
  refine' code_def (binds := [(Str.ofString "op", .ref op)]) B F X N T rfl rfl hk ?k6 ?k7 ?k8 ?k9 ?kB ?_ ?c2 ?c3 ?c4 ?c5
  walk_at "ENTER"
  k_steps
  try any_goals walk_at "OUT"
  all_goals (show Q _ _)
  all_goals exact ret (by walk_at "ALLI") _ _ (by assumption) (News.perm (by assumption) (by walk_at "SUB"))
theorem chk_d {wd : Str} {sh : Addr} {t l : Int} {kw : Tok} {u : Value} (W : Word w wd sh t l (Str.ofString "-")) (hS : nsIn (KK w.params) 259 wd = some none) (hC : nsIn (KK w.params) 260 wd = some none)  : ChkSpec w [.str wd kw, u] [] := by
  intro mean mg mb dp un gd cn cs a ccd cl outer A₀ base h₀ L m news s Q E op hop B F X N T hk hroom ret err
  obtain ⟨k1, k2, k3, htup⟩ := W.tup
  refine wpAny_call ?_
  refine' code_def (binds := [(Str.ofString "op", .ref op)]) B F X N T rfl rfl hk ?k6 ?k7 ?k8 ?k9 ?kB ?_ ?c2 ?c3 ?c4 ?c5
  walk_at "ENTER"
  k_steps
  try any_goals walk_at "OUT"
  all_goals (show Q _ _)
  all_goals exact ret (by walk_at "ALLI") _ _ (by assumption) (News.perm (by assumption) (by walk_at "SUB"))
theorem chk_slot1 {wd : Str} {sh : Addr} {t l : Int} {kw : Tok} {v : Value} {ks : Tok} (W : Word w wd sh t l (Str.ofString "-")) (hS : nsIn (KK w.params) 259 wd = some (some (.int 1 ks))) (hC : nsIn (KK w.params) 260 wd = some none) (hv_v : (∃ n k, v = .int n k) ∨ OddV v) : ChkSpec w [.str wd kw, v] [v] := by
  intro mean mg mb dp un gd cn cs a ccd cl outer A₀ base h₀ L m news s Q E op hop B F X N T hk hroom ret err
  obtain ⟨k1, k2, k3, htup⟩ := W.tup
  refine wpAny_call ?_
  refine' code_def (binds := [(Str.ofString "op", .ref op)]) B F X N T rfl rfl hk ?k6 ?k7 ?k8 ?k9 ?kB ?_ ?c2 ?c3 ?c4 ?c5
  walk_at "ENTER"
  k_steps
  try any_goals walk_at "OUT"
  all_goals (show Q _ _)
  all_goals exact ret (by walk_at "ALLI") _ _ (by assumption) (News.perm (by assumption) (by walk_at "SUB"))
theorem chk_code1 {wd : Str} {sh : Addr} {t l : Int} {kw : Tok} {v : Value} {ks : Tok} (W : Word w wd sh t l (Str.ofString "-")) (hS : nsIn (KK w.params) 259 wd = some none) (hC : nsIn (KK w.params) 260 wd = some (some (.int 1 ks))) (hv_v : (∃ n k, v = .int n k) ∨ OddV v) : ChkSpec w [.str wd kw, v] [v] := by
  intro mean mg mb dp un gd cn cs a ccd cl outer A₀ base h₀ L m news s Q E op hop B F X N T hk hroom ret err
  obtain ⟨k1, k2, k3, htup⟩ := W.tup
  refine wpAny_call ?_
  refine' code_def (binds := [(Str.ofString "op", .ref op)]) B F X N T rfl rfl hk ?k6 ?k7 ?k8 ?k9 ?kB ?_ ?c2 ?c3 ?c4 ?c5
  walk_at "ENTER"
  k_steps
  try any_goals walk_at "OUT"
  all_goals (show Q _ _)
  all_goals exact ret (by walk_at "ALLI") _ _ (by assumption) (News.perm (by assumption) (by walk_at "SUB"))
theorem chk_j {wd : Str} {sh : Addr} {t l : Int} {kw : Tok} {v : Value} (W : Word w wd sh t l (Str.ofString "j")) (hS : nsIn (KK w.params) 259 wd = some none) (hC : nsIn (KK w.params) 260 wd = some none) (hv_v : (∃ n k, v = .int n k) ∨ OddV v) : ChkSpec w [.str wd kw, v] [v] := by
  intro mean mg mb dp un gd cn cs a ccd cl outer A₀ base h₀ L m news s Q E op hop B F X N T hk hroom ret err
  obtain ⟨k1, k2, k3, htup⟩ := W.tup
  refine wpAny_call ?_
  refine' code_def (binds := [(Str.ofString "op", .ref op)]) B F X N T rfl rfl hk ?k6 ?k7 ?k8 ?k9 ?kB ?_ ?c2 ?c3 ?c4 ?c5
  walk_at "ENTER"
  k_steps
  try any_goals walk_at "OUT"
  all_goals (show Q _ _)
  all_goals exact ret (by walk_at "ALLI") _ _ (by assumption) (News.perm (by assumption) (by walk_at "SUB"))
theorem chk_n {wd : Str} {sh : Addr} {t l : Int} {kw : Tok} {v : Value} (W : Word w wd sh t l (Str.ofString "n")) (hS : nsIn (KK w.params) 259 wd = some none) (hC : nsIn (KK w.params) 260 wd = some none) (hv_v : (∃ n k, v = .int n k) ∨ OddV v) : ChkSpec w [.str wd kw, v] [v] := by
  intro mean mg mb dp un gd cn cs a ccd cl outer A₀ base h₀ L m news s Q E op hop B F X N T hk hroom ret err
  obtain ⟨k1, k2, k3, htup⟩ := W.tup
  refine wpAny_call ?_
  refine' code_def (binds := [(Str.ofString "op", .ref op)]) B F X N T rfl rfl hk ?k6 ?k7 ?k8 ?k9 ?kB ?_ ?c2 ?c3 ?c4 ?c5
  walk_at "ENTER"
  k_steps
  try any_goals walk_at "OUT"
  all_goals (show Q _ _)
  all_goals exact ret (by walk_at "ALLI") _ _ (by assumption) (News.perm (by assumption) (by walk_at "SUB"))
theorem chk_jjj {wd : Str} {sh : Addr} {t l : Int} {kw : Tok} {x y z : Value} (W : Word w wd sh t l (Str.ofString "jjj")) (hS : nsIn (KK w.params) 259 wd = some none) (hC : nsIn (KK w.params) 260 wd = some none) (hv_x : (∃ n k, x = .int n k) ∨ OddV x) (hv_y : (∃ n k, y = .int n k) ∨ OddV y) (hv_z : (∃ n k, z = .int n k) ∨ OddV z) : ChkSpec w [.str wd kw, x, y, z] [x, y, z] := by
  intro mean mg mb dp un gd cn cs a ccd cl outer A₀ base h₀ L m news s Q E op hop B F X N T hk hroom ret err
  obtain ⟨k1, k2, k3, htup⟩ := W.tup
  refine wpAny_call ?_
  refine' code_def (binds := [(Str.ofString "op", .ref op)]) B F X N T rfl rfl hk ?k6 ?k7 ?k8 ?k9 ?kB ?_ ?c2 ?c3 ?c4 ?c5
  walk_at "ENTER"
  k_steps
  try any_goals walk_at "OUT"
  all_goals (show Q _ _)
  all_goals exact ret (by walk_at "ALLI") _ _ (by assumption) (News.perm (by assumption) (by walk_at "SUB"))
theorem chk_dnw {wd : Str} {sh : Addr} {t l : Int} {kw : Tok} {u y z : Value} (W : Word w wd sh t l (Str.ofString "-nw")) (hS : nsIn (KK w.params) 259 wd = some none) (hC : nsIn (KK w.params) 260 wd = some none) (hv_y : (∃ n k, y = .int n k) ∨ OddV y) (hv_z : (∃ n k, z = .int n k) ∨ OddV z) : ChkSpec w [.str wd kw, u, y, z] [y, z] := by
  intro mean mg mb dp un gd cn cs a ccd cl outer A₀ base h₀ L m news s Q E op hop B F X N T hk hroom ret err
  obtain ⟨k1, k2, k3, htup⟩ := W.tup
  refine wpAny_call ?_
  refine' code_def (binds := [(Str.ofString "op", .ref op)]) B F X N T rfl rfl hk ?k6 ?k7 ?k8 ?k9 ?kB ?_ ?c2 ?c3 ?c4 ?c5
  walk_at "ENTER"
  k_steps
  try any_goals walk_at "OUT"
  all_goals (show Q _ _)
  all_goals exact ret (by walk_at "ALLI") _ _ (by assumption) (News.perm (by assumption) (by walk_at "SUB"))
end
end -- K1
section -- K2
open PySem PySem.W PyProof.Rows PySem.Calls
set_option maxRecDepth 100000
set_option maxHeartbeats 8000000
section
variable {w : World} {mean : ExcName → Option Value} {mg mb : Str → Option Value} {dp un : Nat} {gd : Option (List Code)} {cn : Str} {cs : Scope} {a : Addr} {ccd : Value} {cl : List (Str × Addr)} {outer : List Env} {A₀ : Around} {base h₀ : Heap} {L : Addr} {m : Str → Option Value} {news : List (Addr × Obj)} {s : Shared} {Q E : Value → Shared → Prop}
theorem chk_good {its ask : List Value} (S : ChkSpec w its ask) (hi : ∀ v ∈ ask, IsI v) {op : Addr} (hop : (op, tupOb its) ∈ news) (B : Below A₀ base outer h₀) (F : Fr h₀ L s.heap m) (X : (KK w.params).In h₀) (N : News h₀ L s.heap news) (T : Top vw lo mean mg mb h₀) (hk : cs.kind = .function) (hroom : dp + 12 < recursionLimit)
  (ret : ∀ h' tk', Fr h₀ L h' m → News h₀ L h' news → Q .none { s with heap := h', toks := tk' }) :
  wpAny (model PySem.Challenge.rw_qz0086_01.row.prog w) (ktrTop dp un gd cn cs L a ccd cl outer) (call (.ref 275) [.ref op]) Q E s :=
  chk_use S hop B F X N T hk hroom (fun _ => ret) fun ⟨v, hv, ho⟩ => by
    obtain ⟨n, k, rfl⟩ := hi v hv
    rcases ho with h | ⟨_, _, h⟩ | h | h | h <;> cases h
theorem chk_odd {its ask : List Value} (S : ChkSpec w its ask) (hi : ∃ v ∈ ask, OddV v) {op : Addr} (hop : (op, tupOb its) ∈ news) (B : Below A₀ base outer h₀) (F : Fr h₀ L s.heap m) (X : (KK w.params).In h₀) (N : News h₀ L s.heap news) (T : Top vw lo mean mg mb h₀) (hk : cs.kind = .function) (hroom : dp + 12 < recursionLimit)
  (err : ∀ x h' tk', Flew base h₀ (envX cn cs L a ccd cl :: outer) L m x h' → E x { s with heap := h', toks := tk' }) :
  wpAny (model PySem.Challenge.rw_qz0086_01.row.prog w) (ktrTop dp un gd cn cs L a ccd cl outer) (call (.ref 275) [.ref op]) Q E s :=
  chk_use S hop B F X N T hk hroom (fun hall => by
    obtain ⟨v, hv, ho⟩ := hi
    obtain ⟨n, k, rfl⟩ := hall v hv
    rcases ho with h | ⟨_, _, h⟩ | h | h | h <;> cases h) fun _ => err
theorem iter_lof {A : Around} {prog : Program} {env : Env} {x : Str} {body : List Stmt} {Q : Flow → Shared → Prop} {E : Value → Shared → Prop} {ax : Addr} {vs : List Value} {n : Nat} {m₀ : Str → Option Value} (hh : A.handled = none) (F : Fr h₀ env.locals s.heap m₀) (N : News h₀ env.locals s.heap news) (hm : (ax, W.listOf vs.toArray n) ∈ news)
    (rest₀ : ∀ I : Addr, (∀ p ∈ news, p.1 < I) → ListRest prog w A E h₀ env x body Q s I (ax, W.listOf vs.toArray n) vs m₀ news) :
    wpAny (model prog w) A (pyIter (.ref ax)) (fun it s₂ => LoopAtV prog w A h₀ env x body Q E it s₂) E s := iter_listUnr hh F N hm rfl rfl rest₀
noncomputable def RowSpec (w : World) (its : List Value) (size many pad : Int) (ok : Prop) : Prop := ∀ (mean : ExcName → Option Value) (mg mb : Str → Option Value) (dp un : Nat) (gd : Option (List Code)) (cn : Str) (cs : Scope) (a : Addr) (ccd : Value) (cl : List (Str × Addr)) (outer : List Env) (A₀ : Around) (base h₀ : Heap) (L : Addr) (m : Str → Option Value) (news : List (Addr × Obj)) (s : Shared) (Q E : Value → Shared → Prop) (op : Addr) (ks km kp : Tok),
  (op, tupOb its) ∈ news → Below A₀ base outer h₀ → Fr h₀ L s.heap m → (KK w.params).In h₀ → News h₀ L s.heap news → Top vw lo mean mg mb h₀ → cs.kind = .function → dp + 20 < recursionLimit →
  (ok → ∀ h' tk', Fr h₀ L h' m → News h₀ L h' news → Q .none { s with heap := h', toks := tk' }) →
  (¬ ok → ∀ x h' tk', Flew base h₀ (envX cn cs L a ccd cl :: outer) L m x h' → E x { s with heap := h', toks := tk' }) →
  wpAny (model PySem.Challenge.rw_qz0086_01.row.prog w) (ktrTop dp un gd cn cs L a ccd cl outer) (call (.ref 282) [.ref op, .int size ks, .int many km, .int pad kp]) Q E s
theorem row_use {its : List Value} {size many pad : Int} {ok : Prop} (S : RowSpec w its size many pad ok) {op : Addr} {ks km kp : Tok} (hop : (op, tupOb its) ∈ news) (B : Below A₀ base outer h₀) (F : Fr h₀ L s.heap m) (X : (KK w.params).In h₀) (N : News h₀ L s.heap news) (T : Top vw lo mean mg mb h₀) (hk : cs.kind = .function) (hroom : dp + 20 < recursionLimit)
  (ret : ok → ∀ h' tk', Fr h₀ L h' m → News h₀ L h' news → Q .none { s with heap := h', toks := tk' })
  (err : ¬ ok → ∀ x h' tk', Flew base h₀ (envX cn cs L a ccd cl :: outer) L m x h' → E x { s with heap := h', toks := tk' }) :
  wpAny (model PySem.Challenge.rw_qz0086_01.row.prog w) (ktrTop dp un gd cn cs L a ccd cl outer) (call (.ref 282) [.ref op, .int size ks, .int many km, .int pad kp]) Q E s := S _ _ _ _ _ _ _ _ _ _ _ _ _ _ _ _ _ _ _ _ _ _ _ _ _ hop B F X N T hk hroom ret err
end
end -- K2
section -- R2
open PySem PySem.W PyProof.Rows PySem.Calls
set_option maxRecDepth 100000
set_option maxHeartbeats 8000000
section
variable {w : World} {mean : ExcName → Option Value} {mg mb : Str → Option Value} {dp un : Nat} {gd : Option (List Code)} {cn : Str} {cs : Scope} {a : Addr} {ccd : Value} {cl : List (Str × Addr)} {outer : List Env} {A₀ : Around} {base h₀ : Heap} {L : Addr} {m : Str → Option Value} {news : List (Addr × Obj)} {s : Shared} {Q E : Value → Shared → Prop}
local macro_rules | `(tactic| walk_at "call builtin:dict.get") => `(tactic| k_extra "z30")
local macro_rules | `(tactic| walk_at "pyIter ref") => `(tactic| k_extra "z31")
local macro_rules | `(tactic| walk_at "UnrEnd") => `(tactic| k_extra "z32")
local macro_rules | `(tactic| walk_at "call ref") => `(tactic| k_extra "z33")
local macro_rules | `(tactic| walk_at "call ref") => `(tactic| k_extra "z34")
local macro_rules | `(tactic| walk_at "call ref") => `(tactic| k_extra "z35")
local macro_rules | `(tactic| walk_at "SUB") => `(tactic| k_extra "z36")
local macro_rules | `(tactic| walk_at "OFF") => `(tactic| k_extra "z37")
local macro_rules | `(tactic| walk_at "OFFS") => `(tactic| k_extra "z38")
local macro_rules | `(tactic| walk_at "call type:range") => `(tactic| k_extra "z39")
local macro_rules | `(tactic| walk_at "pyIter ref") => `(tactic| k_extra "z40")
local macro_rules | `(tactic| walk_at "UnrEndW") => `(tactic| k_extra "z41")
local macro_rules | `(tactic| walk_at "call builtin:len") => `(tactic| k_extra "z42")
local macro_rules | `(tactic| walk_at "ALLI") => `(tactic| k_extra "z43")
local macro_rules | `(tactic| walk_at "call ref") => `(tactic| k_extra "z44")
local macro_rules | `(tactic| walk_at "call ref") => `(tactic| k_extra "z45")
local macro_rules | `(tactic| walk_at "pyIter ref") => `(tactic| k_extra "z46")
local macro_rules | `(tactic| walk_at "call ref") => `(tactic| k_extra "z47")
local macro_rules | `(tactic| walk_at "call ref") => `(tactic| k_extra "z48")
local macro_rules | `(tactic| walk_at "call ref") => `(tactic| k_extra "z49")
theorem row_plain {wd : Str} {kw : Tok} {rest ask : List Value} {et el : Int} {size many pad : Int} (C : ChkSpec w (.str wd kw :: rest) ask) (hi : ∀ v ∈ ask, IsI v) (S1 : EffSpec w (.str wd kw :: rest) et el) (het : 0 ≤ et) (S2 : JmpSpec w (.str wd kw :: rest) []) (S4 : SubsSpec w (.str wd kw :: rest) []) (hS : nsIn (KK w.params) 259 wd = some none) : RowSpec w (.str wd kw :: rest) size many pad (True) := by
  intro mean mg mb dp un gd cn cs a ccd cl outer A₀ base h₀ L m news s Q E op ks km kp hop B F X N T hk hroom ret err
  revert X N T
  k_fill
  intro X N T
  refine wpAny_call ?_
  refine' code_def (binds := [(Str.ofString "op", .ref op), (Str.ofString "size", .int size ks), (Str.ofString "many", .int many km), (Str.ofString "pad_size", .int pad kp)]) B F X N T rfl rfl hk ?k6 ?k7 ?k8 ?k9 ?kB ?_ ?c2 ?c3 ?c4 ?c5
  walk_at "ENTER"
  k_steps
  try any_goals walk_at "MEM"
  all_goals (show Q _ _)
  all_goals exact ret (by first | trivial | omega) _ _ (by assumption) (News.perm (by assumption) (by walk_at "SUB"))
theorem row_sub {wd : Str} {kw : Tok} {rest ask : List Value} {et el : Int} {size many pad : Int} {u : Int} {ku : Tok} (C : ChkSpec w (.str wd kw :: rest) ask) (hi : ∀ v ∈ ask, IsI v) (S1 : EffSpec w (.str wd kw :: rest) et el) (het : 0 ≤ et) (S2 : JmpSpec w (.str wd kw :: rest) []) (S4 : SubsSpec w (.str wd kw :: rest) [.int u ku]) (hS : nsIn (KK w.params) 259 wd = some none) : RowSpec w (.str wd kw :: rest) size many pad (0 ≤ u ∧ u < many) := by
  intro mean mg mb dp un gd cn cs a ccd cl outer A₀ base h₀ L m news s Q E op ks km kp hop B F X N T hk hroom ret err
  refine wpAny_call ?_
  refine' code_def (binds := [(Str.ofString "op", .ref op), (Str.ofString "size", .int size ks), (Str.ofString "many", .int many km), (Str.ofString "pad_size", .int pad kp)]) B F X N T rfl rfl hk ?k6 ?k7 ?k8 ?k9 ?kB ?_ ?c2 ?c3 ?c4 ?c5
  walk_at "ENTER"
  k_steps
  try any_goals walk_at "MEM"
  all_goals (show Q _ _)
  all_goals exact ret (by first | trivial | omega) _ _ (by assumption) (News.perm (by assumption) (by walk_at "SUB"))
theorem row_j1 {wd : Str} {kw : Tok} {rest ask : List Value} {et el : Int} {size many pad : Int} {j0 : Int} {q0 : Tok} (C : ChkSpec w (.str wd kw :: rest) ask) (hi : ∀ v ∈ ask, IsI v) (S1 : EffSpec w (.str wd kw :: rest) et el) (het : 0 ≤ et) (S2 : JmpSpec w (.str wd kw :: rest) [.int j0 q0]) (hj0 : 0 ≤ j0) (hl0 : j0 < size) (S4 : SubsSpec w (.str wd kw :: rest) []) (hS : nsIn (KK w.params) 259 wd = some none) : RowSpec w (.str wd kw :: rest) size many pad (True) := by
  intro mean mg mb dp un gd cn cs a ccd cl outer A₀ base h₀ L m news s Q E op ks km kp hop B F X N T hk hroom ret err
  refine wpAny_call ?_
  refine' code_def (binds := [(Str.ofString "op", .ref op), (Str.ofString "size", .int size ks), (Str.ofString "many", .int many km), (Str.ofString "pad_size", .int pad kp)]) B F X N T rfl rfl hk ?k6 ?k7 ?k8 ?k9 ?kB ?_ ?c2 ?c3 ?c4 ?c5
  walk_at "ENTER"
  k_steps
  try any_goals walk_at "MEM"
  all_goals (show Q _ _)
  all_goals exact ret (by first | trivial | omega) _ _ (by assumption) (News.perm (by assumption) (by walk_at "SUB"))
theorem row_j3 {wd : Str} {kw : Tok} {rest ask : List Value} {et el : Int} {size many pad : Int} {j0 j1 j2 : Int} {q0 q1 q2 : Tok} (C : ChkSpec w (.str wd kw :: rest) ask) (hi : ∀ v ∈ ask, IsI v) (S1 : EffSpec w (.str wd kw :: rest) et el) (het : 0 ≤ et) (S2 : JmpSpec w (.str wd kw :: rest) [.int j0 q0, .int j1 q1, .int j2 q2]) (hj0 : 0 ≤ j0) (hl0 : j0 < size) (hj1 : 0 ≤ j1) (hl1 : j1 < size) (hj2 : 0 ≤ j2) (hl2 : j2 < size) (S4 : SubsSpec w (.str wd kw :: rest) []) (hS : nsIn (KK w.params) 259 wd = some none) : RowSpec w (.str wd kw :: rest) size many pad (True) := by
  intro mean mg mb dp un gd cn cs a ccd cl outer A₀ base h₀ L m news s Q E op ks km kp hop B F X N T hk hroom ret err
  refine wpAny_call ?_
  refine' code_def (binds := [(Str.ofString "op", .ref op), (Str.ofString "size", .int size ks), (Str.ofString "many", .int many km), (Str.ofString "pad_size", .int pad kp)]) B F X N T rfl rfl hk ?k6 ?k7 ?k8 ?k9 ?kB ?_ ?c2 ?c3 ?c4 ?c5
  walk_at "ENTER"
  k_steps
  try any_goals walk_at "MEM"
  all_goals (show Q _ _)
  all_goals exact ret (by first | trivial | omega) _ _ (by assumption) (News.perm (by assumption) (by walk_at "SUB"))
theorem row_s2 {wd : Str} {kw : Tok} {ask : List Value} {et el : Int} {size many pad : Int} {x : Value} {v : Int} {kv ksl : Tok} (C : ChkSpec w ([.str wd kw, x, .int v kv]) ask) (hi : ∀ v ∈ ask, IsI v) (S1 : EffSpec w ([.str wd kw, x, .int v kv]) et el) (het : 0 ≤ et) (S2 : JmpSpec w ([.str wd kw, x, .int v kv]) []) (S4 : SubsSpec w ([.str wd kw, x, .int v kv]) []) (hS : nsIn (KK w.params) 259 wd = some (some (.int 2 ksl))) : RowSpec w ([.str wd kw, x, .int v kv]) size many pad (0 ≤ v ∧ v < pad) := by
  intro mean mg mb dp un gd cn cs a ccd cl outer A₀ base h₀ L m news s Q E op ks km kp hop B F X N T hk hroom ret err
  refine wpAny_call ?_
  refine' code_def (binds := [(Str.ofString "op", .ref op), (Str.ofString "size", .int size ks), (Str.ofString "many", .int many km), (Str.ofString "pad_size", .int pad kp)]) B F X N T rfl rfl hk ?k6 ?k7 ?k8 ?k9 ?kB ?_ ?c2 ?c3 ?c4 ?c5
  walk_at "ENTER"
  k_steps
  try any_goals walk_at "MEM"
  all_goals (show Q _ _)
  all_goals exact ret (by first | trivial | omega) _ _ (by assumption) (News.perm (by assumption) (by walk_at "SUB"))
theorem row_s1 {wd : Str} {kw : Tok} {ask : List Value} {et el : Int} {size many pad : Int} {v : Int} {kv ksl : Tok} (C : ChkSpec w ([.str wd kw, .int v kv]) ask) (hi : ∀ v ∈ ask, IsI v) (S1 : EffSpec w ([.str wd kw, .int v kv]) et el) (het : 0 ≤ et) (S2 : JmpSpec w ([.str wd kw, .int v kv]) []) (S4 : SubsSpec w ([.str wd kw, .int v kv]) []) (hS : nsIn (KK w.params) 259 wd = some (some (.int 1 ksl))) : RowSpec w ([.str wd kw, .int v kv]) size many pad (0 ≤ v ∧ v < pad) := by
  intro mean mg mb dp un gd cn cs a ccd cl outer A₀ base h₀ L m news s Q E op ks km kp hop B F X N T hk hroom ret err
  refine wpAny_call ?_
  refine' code_def (binds := [(Str.ofString "op", .ref op), (Str.ofString "size", .int size ks), (Str.ofString "many", .int many km), (Str.ofString "pad_size", .int pad kp)]) B F X N T rfl rfl hk ?k6 ?k7 ?k8 ?k9 ?kB ?_ ?c2 ?c3 ?c4 ?c5
  walk_at "ENTER"
  k_steps
  try any_goals walk_at "MEM"
  all_goals (show Q _ _)
  all_goals exact ret (by first | trivial | omega) _ _ (by assumption) (News.perm (by assumption) (by walk_at "SUB"))
theorem row_odd {wd : Str} {kw : Tok} {rest ask : List Value} {size many pad : Int} (C : ChkSpec w (.str wd kw :: rest) ask) (hi : ∃ v ∈ ask, OddV v) : RowSpec w (.str wd kw :: rest) size many pad (False) := by
  intro mean mg mb dp un gd cn cs a ccd cl outer A₀ base h₀ L m news s Q E op ks km kp hop B F X N T hk hroom ret err
  refine wpAny_call ?_
  refine' code_def (binds := [(Str.ofString "op", .ref op), (Str.ofString "size", .int size ks), (Str.ofString "many", .int many km), (Str.ofString "pad_size", .int pad kp)]) B F X N T rfl rfl hk ?k6 ?k7 ?k8 ?k9 ?kB ?_ ?c2 ?c3 ?c4 ?c5
  walk_at "ENTER"
  k_steps
end
end -- R2
section -- W2
open PySem PySem.W PyProof.Rows PySem.Calls
set_option maxRecDepth 100000
theorem fill_words (w : World) : PySem.Challenge.rw_qz0086_01 = PySem.Challenge.rw_qz0086_01 ∧ KK w.params = KK w.params := by
  k_fill
  exact ⟨rfl, rfl⟩
theorem word_pad (w : World) : Word w (Str.ofString "pad") 62 0 1 (Str.ofString "--") ∧ nsIn (KK w.params) 178 (Str.ofString "pad") = some none := ⟨⟨by k_is, _, _, _, by k_is⟩, by k_is⟩
theorem word_drop (w : World) : Word w (Str.ofString "drop") 50 1 0 (Str.ofString "") ∧ nsIn (KK w.params) 178 (Str.ofString "drop") = some none := ⟨⟨by k_is, _, _, _, by k_is⟩, by k_is⟩
theorem word_my (w : World) : Word w (Str.ofString "my") 63 0 1 (Str.ofString "--") ∧ nsIn (KK w.params) 178 (Str.ofString "my") = some none := ⟨⟨by k_is, _, _, _, by k_is⟩, by k_is⟩
theorem word_const (w : World) : Word w (Str.ofString "const") 48 0 1 (Str.ofString "-") ∧ nsIn (KK w.params) 178 (Str.ofString "const") = some none := ⟨⟨by k_is, _, _, _, by k_is⟩, by k_is⟩
theorem word_bindpad (w : World) : Word w (Str.ofString "bindpad") 138 1 0 (Str.ofString "-") ∧ nsIn (KK w.params) 178 (Str.ofString "bindpad") = some none := ⟨⟨by k_is, _, _, _, by k_is⟩, by k_is⟩
theorem word_jump (w : World) : Word w (Str.ofString "jump") 127 0 0 (Str.ofString "j") ∧ nsIn (KK w.params) 178 (Str.ofString "jump") = some none := ⟨⟨by k_is, _, _, _, by k_is⟩, by k_is⟩
theorem word_iffalse (w : World) : Word w (Str.ofString "iffalse") 128 1 0 (Str.ofString "j") ∧ nsIn (KK w.params) 178 (Str.ofString "iffalse") = some none := ⟨⟨by k_is, _, _, _, by k_is⟩, by k_is⟩
theorem word_empty (w : World) : Word w (Str.ofString "empty") 49 0 1 (Str.ofString "") ∧ nsIn (KK w.params) 178 (Str.ofString "empty") = some none := ⟨⟨by k_is, _, _, _, by k_is⟩, by k_is⟩
theorem word_append (w : World) : Word w (Str.ofString "append") 54 0 1 (Str.ofString "n") ∧ nsIn (KK w.params) 178 (Str.ofString "append") = some none := ⟨⟨by k_is, _, _, _, by k_is⟩, by k_is⟩
theorem word_closure (w : World) : Word w (Str.ofString "closure") 99 0 1 (Str.ofString "-") ∧ nsIn (KK w.params) 178 (Str.ofString "closure") = some none := ⟨⟨by k_is, _, _, _, by k_is⟩, by k_is⟩
theorem word_map (w : World) : Word w (Str.ofString "map") 162 1 1 (Str.ofString "-") ∧ nsIn (KK w.params) 178 (Str.ofString "map") = some none := ⟨⟨by k_is, _, _, _, by k_is⟩, by k_is⟩
theorem word_bywant (w : World) : Word w (Str.ofString "bywant") 134 0 0 (Str.ofString "jjj") ∧ nsIn (KK w.params) 178 (Str.ofString "bywant") = some none := ⟨⟨by k_is, _, _, _, by k_is⟩, by k_is⟩
theorem word_sort (w : World) : Word w (Str.ofString "sort") 164 1 1 (Str.ofString "--") ∧ nsIn (KK w.params) 178 (Str.ofString "sort") = some none := ⟨⟨by k_is, _, _, _, by k_is⟩, by k_is⟩
theorem word_func (w : World) : Word w (Str.ofString "func") 161 0 1 (Str.ofString "-nw") ∧ nsIn (KK w.params) 178 (Str.ofString "func") = some none := ⟨⟨by k_is, _, _, _, by k_is⟩, by k_is⟩
theorem word_return0 (w : World) : Word w (Str.ofString "return0") 140 0 0 (Str.ofString "") ∧ nsIn (KK w.params) 178 (Str.ofString "return0") = some none := ⟨⟨by k_is, _, _, _, by k_is⟩, by k_is⟩
theorem word_return1 (w : World) : Word w (Str.ofString "return1") 141 1 0 (Str.ofString "") ∧ nsIn (KK w.params) 178 (Str.ofString "return1") = some none := ⟨⟨by k_is, _, _, _, by k_is⟩, by k_is⟩
theorem slots_pad (w : World) : ∃ k, nsIn (KK w.params) 259 (Str.ofString "pad") = some (some (.int 2 k)) := ⟨_, by k_is⟩
theorem slots_drop (w : World) : nsIn (KK w.params) 259 (Str.ofString "drop") = some none := by k_is
theorem slots_my (w : World) : ∃ k, nsIn (KK w.params) 259 (Str.ofString "my") = some (some (.int 2 k)) := ⟨_, by k_is⟩
theorem slots_const (w : World) : nsIn (KK w.params) 259 (Str.ofString "const") = some none := by k_is
theorem slots_bindpad (w : World) : ∃ k, nsIn (KK w.params) 259 (Str.ofString "bindpad") = some (some (.int 1 k)) := ⟨_, by k_is⟩
theorem slots_jump (w : World) : nsIn (KK w.params) 259 (Str.ofString "jump") = some none := by k_is
theorem slots_iffalse (w : World) : nsIn (KK w.params) 259 (Str.ofString "iffalse") = some none := by k_is
theorem slots_empty (w : World) : nsIn (KK w.params) 259 (Str.ofString "empty") = some none := by k_is
theorem slots_append (w : World) : nsIn (KK w.params) 259 (Str.ofString "append") = some none := by k_is
theorem slots_closure (w : World) : nsIn (KK w.params) 259 (Str.ofString "closure") = some none := by k_is
theorem slots_map (w : World) : nsIn (KK w.params) 259 (Str.ofString "map") = some none := by k_is
theorem slots_bywant (w : World) : nsIn (KK w.params) 259 (Str.ofString "bywant") = some none := by k_is
theorem slots_sort (w : World) : nsIn (KK w.params) 259 (Str.ofString "sort") = some none := by k_is
theorem slots_func (w : World) : nsIn (KK w.params) 259 (Str.ofString "func") = some none := by k_is
theorem slots_return0 (w : World) : nsIn (KK w.params) 259 (Str.ofString "return0") = some none := by k_is
theorem slots_return1 (w : World) : nsIn (KK w.params) 259 (Str.ofString "return1") = some none := by k_is
theorem codes_pad (w : World) : nsIn (KK w.params) 260 (Str.ofString "pad") = some none := by k_is
theorem codes_drop (w : World) : nsIn (KK w.params) 260 (Str.ofString "drop") = some none := by k_is
theorem codes_my (w : World) : nsIn (KK w.params) 260 (Str.ofString "my") = some none := by k_is
theorem codes_const (w : World) : nsIn (KK w.params) 260 (Str.ofString "const") = some none := by k_is
theorem codes_bindpad (w : World) : nsIn (KK w.params) 260 (Str.ofString "bindpad") = some none := by k_is
theorem codes_jump (w : World) : nsIn (KK w.params) 260 (Str.ofString "jump") = some none := by k_is
theorem codes_iffalse (w : World) : nsIn (KK w.params) 260 (Str.ofString "iffalse") = some none := by k_is
theorem codes_empty (w : World) : nsIn (KK w.params) 260 (Str.ofString "empty") = some none := by k_is
theorem codes_append (w : World) : nsIn (KK w.params) 260 (Str.ofString "append") = some none := by k_is
theorem codes_closure (w : World) : ∃ k, nsIn (KK w.params) 260 (Str.ofString "closure") = some (some (.int 1 k)) := ⟨_, by k_is⟩
theorem codes_map (w : World) : ∃ k, nsIn (KK w.params) 260 (Str.ofString "map") = some (some (.int 1 k)) := ⟨_, by k_is⟩
theorem codes_bywant (w : World) : nsIn (KK w.params) 260 (Str.ofString "bywant") = some none := by k_is
theorem codes_sort (w : World) : ∃ k, nsIn (KK w.params) 260 (Str.ofString "sort") = some (some (.int 1 k)) := ⟨_, by k_is⟩
theorem codes_func (w : World) : nsIn (KK w.params) 260 (Str.ofString "func") = some none := by k_is
theorem codes_return0 (w : World) : nsIn (KK w.params) 260 (Str.ofString "return0") = some none := by k_is
theorem codes_return1 (w : World) : nsIn (KK w.params) 260 (Str.ofString "return1") = some none := by k_is
end -- W2
section -- W3
open PySem PySem.W PyProof.Rows PySem.Calls
set_option maxRecDepth 100000
section
variable {w : World} {wd : Str} {sh : Addr} {t l : Int} {kw ka kb : Tok} {x y z : Value}
theorem eff_e (W : Word w wd sh t l (Str.ofString "")) : EffSpec w [.str wd kw] t l := by
  intro mean mg mb dp un gd cn cs a ccd cl outer A₀ base h₀ L m news s Q E op hop B F X N T hk hroom ret
  exact effect_e W hop B F X N T hk hroom ret
theorem jmp_e (W : Word w wd sh t l (Str.ofString "")) : JmpSpec w [.str wd kw] [] := by
  intro mean mg mb dp un gd cn cs a ccd cl outer A₀ base h₀ L m news s Q E op hop B F X N T hk hroom ret
  exact jumps_e W hop B F X N T hk hroom ret
theorem eff_d (W : Word w wd sh t l (Str.ofString "-")) : EffSpec w [.str wd kw, x] t l := by
  intro mean mg mb dp un gd cn cs a ccd cl outer A₀ base h₀ L m news s Q E op hop B F X N T hk hroom ret
  exact effect_d W hop B F X N T hk hroom ret
theorem jmp_d (W : Word w wd sh t l (Str.ofString "-")) : JmpSpec w [.str wd kw, x] [] := by
  intro mean mg mb dp un gd cn cs a ccd cl outer A₀ base h₀ L m news s Q E op hop B F X N T hk hroom ret
  exact jumps_d W hop B F X N T hk hroom ret
theorem eff_dd (W : Word w wd sh t l (Str.ofString "--")) : EffSpec w [.str wd kw, x, y] t l := by
  intro mean mg mb dp un gd cn cs a ccd cl outer A₀ base h₀ L m news s Q E op hop B F X N T hk hroom ret
  exact effect_dd W hop B F X N T hk hroom ret
theorem jmp_dd (W : Word w wd sh t l (Str.ofString "--")) : JmpSpec w [.str wd kw, x, y] [] := by
  intro mean mg mb dp un gd cn cs a ccd cl outer A₀ base h₀ L m news s Q E op hop B F X N T hk hroom ret
  exact jumps_dd W hop B F X N T hk hroom ret
theorem eff_j (W : Word w wd sh t l (Str.ofString "j")) : EffSpec w [.str wd kw, x] t l := by
  intro mean mg mb dp un gd cn cs a ccd cl outer A₀ base h₀ L m news s Q E op hop B F X N T hk hroom ret
  exact effect_j W hop B F X N T hk hroom ret
theorem jmp_j (W : Word w wd sh t l (Str.ofString "j")) : JmpSpec w [.str wd kw, x] [x] := by
  intro mean mg mb dp un gd cn cs a ccd cl outer A₀ base h₀ L m news s Q E op hop B F X N T hk hroom ret
  exact jumps_j W hop B F X N T hk hroom ret
theorem eff_jjj (W : Word w wd sh t l (Str.ofString "jjj")) : EffSpec w [.str wd kw, x, y, z] t l := by
  intro mean mg mb dp un gd cn cs a ccd cl outer A₀ base h₀ L m news s Q E op hop B F X N T hk hroom ret
  exact effect_jjj W hop B F X N T hk hroom ret
theorem jmp_jjj (W : Word w wd sh t l (Str.ofString "jjj")) : JmpSpec w [.str wd kw, x, y, z] [x, y, z] := by
  intro mean mg mb dp un gd cn cs a ccd cl outer A₀ base h₀ L m news s Q E op hop B F X N T hk hroom ret
  exact jumps_jjj W hop B F X N T hk hroom ret
theorem eff_n (W : Word w wd sh t l (Str.ofString "n")) : EffSpec w [.str wd kw, .int 1 ka] (t + 1) l := by
  intro mean mg mb dp un gd cn cs a ccd cl outer A₀ base h₀ L m news s Q E op hop B F X N T hk hroom ret
  exact effect_n W hop B F X N T hk hroom ret
theorem jmp_n (W : Word w wd sh t l (Str.ofString "n")) : JmpSpec w [.str wd kw, .int 1 ka] [] := by
  intro mean mg mb dp un gd cn cs a ccd cl outer A₀ base h₀ L m news s Q E op hop B F X N T hk hroom ret
  exact jumps_n W hop B F X N T hk hroom ret
theorem eff_dnw (W : Word w wd sh t l (Str.ofString "-nw")) : EffSpec w [.str wd kw, x, .int 0 ka, .int 1 kb] (t + 0) l := by
  intro mean mg mb dp un gd cn cs a ccd cl outer A₀ base h₀ L m news s Q E op hop B F X N T hk hroom ret
  exact effect_dnw W hop B F X N T hk hroom ret
theorem jmp_dnw (W : Word w wd sh t l (Str.ofString "-nw")) : JmpSpec w [.str wd kw, x, .int 0 ka, .int 1 kb] [] := by
  intro mean mg mb dp un gd cn cs a ccd cl outer A₀ base h₀ L m news s Q E op hop B F X N T hk hroom ret
  exact jumps_dnw W hop B F X N T hk hroom ret
theorem goes_of {rest : List Value} {nb : Bool} (hgo : leavingW.any (· == wd) = nb) : GoesSpec w (.str wd kw :: rest) (!nb) := by
  intro mean mg mb dp un gd cn cs a ccd cl outer A₀ base h₀ L m news s Q E op hop B F X N T hk hroom ret
  exact goes_on_ok hop hgo B F X N T hk hroom ret
end
end -- W3
section
local macro_rules | `(tactic| walk_at "call builtin:dict.get") => `(tactic| k_extra "z30")
local macro_rules | `(tactic| walk_at "pyIter ref") => `(tactic| k_extra "z31")
local macro_rules | `(tactic| walk_at "UnrEnd") => `(tactic| k_extra "z32")
local macro_rules | `(tactic| walk_at "call ref") => `(tactic| k_extra "z33")
local macro_rules | `(tactic| walk_at "call ref") => `(tactic| k_extra "z34")
local macro_rules | `(tactic| walk_at "call ref") => `(tactic| k_extra "z35")
local macro_rules | `(tactic| walk_at "SUB") => `(tactic| k_extra "z36")
local macro_rules | `(tactic| walk_at "OFF") => `(tactic| k_extra "z37")
local macro_rules | `(tactic| walk_at "OFFS") => `(tactic| k_extra "z38")
local macro_rules | `(tactic| walk_at "call type:range") => `(tactic| k_extra "z39")
local macro_rules | `(tactic| walk_at "pyIter ref") => `(tactic| k_extra "z40")
local macro_rules | `(tactic| walk_at "UnrEndW") => `(tactic| k_extra "z41")
local macro_rules | `(tactic| walk_at "call builtin:len") => `(tactic| k_extra "z42")
local macro_rules | `(tactic| walk_at "ALLI") => `(tactic| k_extra "z43")
local macro_rules | `(tactic| walk_at "call ref") => `(tactic| k_extra "z44")
local macro_rules | `(tactic| walk_at "call ref") => `(tactic| k_extra "z45")
local macro_rules | `(tactic| walk_at "pyIter ref") => `(tactic| k_extra "z46")
local macro_rules | `(tactic| walk_at "call ref") => `(tactic| k_extra "z47")
local macro_rules | `(tactic| walk_at "call ref") => `(tactic| k_extra "z48")
local macro_rules | `(tactic| walk_at "call ref") => `(tactic| k_extra "z49")
local macro_rules | `(tactic| walk_at "LENS") => `(tactic| k_extra "z50")
local macro_rules | `(tactic| walk_at "call builtin:len") => `(tactic| k_extra "z51")
local macro_rules | `(tactic| walk_at "binaryOp Mult ref int") => `(tactic| k_extra "z52")
local macro_rules | `(tactic| walk_at "truthy ref") => `(tactic| k_extra "z53")
local macro_rules | `(tactic| walk_at "call builtin:list.pop") => `(tactic| k_extra "z54")
local macro_rules | `(tactic| walk_at "subscriptTail") => `(tactic| k_extra "z55")
local macro_rules | `(tactic| walk_at "setItem ref int") => `(tactic| k_extra "z56")
local macro_rules | `(tactic| walk_at "assign Tuple") => `(tactic| k_extra "z57")
local macro_rules | `(tactic| walk_at "call ref") => `(tactic| k_extra "z33")
local macro_rules | `(tactic| walk_at "call ref") => `(tactic| k_extra "z58")
local macro_rules | `(tactic| walk_at "HATOPEN") => `(tactic| skip)
local macro_rules | `(tactic| walk_at "exec While") => `(tactic| k_extra "z59")
local macro_rules | `(tactic| walk_at "UnrEndW") => `(tactic| k_extra "z60")
local macro_rules | `(tactic| walk_at "exec For Tuple Call cons nil") => `(tactic| k_extra "z61")
local macro_rules | `(tactic| walk_at "pyIter ref") => `(tactic| k_extra "z62")
local macro_rules | `(tactic| k_all) => `(tactic| k_extra "z63")
local macro_rules | `(tactic| walk_at "HATOPEN") => `(tactic| k_extra "z64")
local macro_rules | `(tactic| walk_at "NORM") => `(tactic| k_extra "z65")
local macro_rules | `(tactic| walk_at "subscriptTail Name Name ref int") => `(tactic| k_extra "z66")
local macro_rules | `(tactic| walk_at "subscriptTail Name Constant ref int") => `(tactic| k_extra "z67")
section -- V1a
open PySem PySem.W PyProof.Rows PySem.Calls
set_option maxRecDepth 100000
set_option maxHeartbeats 8000000
section
variable {w : World} {mean : ExcName → Option Value} {mg mb : Str → Option Value} {dp un : Nat} {gd : Option (List Code)} {cn : Str} {cs : Scope} {a : Addr} {ccd : Value} {cl : List (Str × Addr)} {outer : List Env} {A₀ : Around} {base h₀ : Heap} {L : Addr} {m : Str → Option Value} {news : List (Addr × Obj)} {s : Shared} {Q E : Value → Shared → Prop}
structure Rows (w : World) (news : List (Addr × Obj)) (rs : List Addr) (tk lf : Nat → Int) (H : Nat → Int) (ps : Nat → List (Int × Int)) : Prop where
  h0 : H 0 = 0
  hs : ∀ i, i < rs.length → H (i + 1) = H i + (lf i - tk i)
  low : ∀ i, i < rs.length → tk i ≤ H i
  row : ∀ i x, rs[i]? = some x → ∃ its, (x, tupOb its) ∈ news ∧ EffSpec w its (tk i) (lf i) ∧ HatSpec w its (ps i)
  nxt : ∀ i, i < rs.length → ps i = [] ∨ (i + 1 < rs.length ∧ (ps i = [(-1, lf i - tk i)] ∨ ps i = [(-1, lf i - tk i), ((i : Int) + 1, lf i - tk i)] ∨ ps i = [((i : Int) + 1, lf i - tk i)] ∨ ps i = [((i : Int) + 1, lf i - tk i), ((i : Int) + 1, lf i - tk i), ((i : Int) + 1, lf i - tk i)]))
noncomputable def hMap (R lL hL : Addr) (va vh vp vc : Option Value) : Str → Option Value := fun y =>
  if y = Str.ofString "change" then vc else if y = Str.ofString "place" then vp else if y = Str.ofString "height" then vh else if y = Str.ofString "at" then va else if y = Str.ofString "line" then some (.ref lL) else if y = Str.ofString "heights" then some (.ref hL) else List.lookup y [(Str.ofString "rows", .ref R)].reverse
noncomputable def hInv (news : List (Addr × Obj)) (rs : List Addr) (H : Nat → Int) (R lL hL : Addr) (n : Nat) (m₁ : Str → Option Value) (news₁ : List (Addr × Obj)) : Prop :=
  ∃ (va vh vp vc : Option Value) (n1 n2 : Nat) (hs : List Value) (rest : List (Addr × Obj)) (ents : List Addr), m₁ = hMap R lL hL va vh vp vc ∧ news₁ = (lL, W.listOf (ents.map Value.ref).toArray n1) :: (hL, W.listOf hs.toArray n2) :: rest ∧
    (∀ p ∈ rest, p.1 ≠ lL) ∧ (∀ p ∈ rest, p.1 ≠ hL) ∧ (@Ne Nat lL hL) ∧ (∀ p ∈ news, p ∈ rest) ∧
    (∀ e ∈ ents, ∃ i k k', (e, tupOb [.int ((i : Nat) : Int) k, .int (H i) k']) ∈ rest ∧ i < rs.length) ∧ hs.length = rs.length ∧
    (∀ k, k < rs.length → hs[k]? = some .none ∨ ∃ t, hs[k]? = some (.int (H k) t)) ∧ n = 4 * hs.countP (· == Value.none) + ents.length ∧ n ≤ 200
theorem es0 {es : List (Addr × Int × Int × Tok × Tok)} (h : es.map (fun e => (e.2.1, e.2.2.1)) = []) : es = [] := List.map_eq_nil_iff.mp h
theorem es1 {es : List (Addr × Int × Int × Tok × Tok)} {p c : Int} (h : es.map (fun e => (e.2.1, e.2.2.1)) = [(p, c)]) : ∃ a k l, es = [(a, p, c, k, l)] := by
  rcases es with _ | ⟨⟨a, p1, c1, k, l⟩, es⟩
  · cases h
  · rw [List.map_cons] at h
    obtain ⟨h1, h2⟩ := List.cons.inj h
    cases h1
    exact ⟨a, k, l, by rw [es0 h2]⟩
theorem es2 {es : List (Addr × Int × Int × Tok × Tok)} {p c p' c' : Int} (h : es.map (fun e => (e.2.1, e.2.2.1)) = [(p, c), (p', c')]) : ∃ a k l a' k' l', es = [(a, p, c, k, l), (a', p', c', k', l')] := by
  rcases es with _ | ⟨⟨a, p1, c1, k, l⟩, es⟩
  · cases h
  · rw [List.map_cons] at h
    obtain ⟨h1, h2⟩ := List.cons.inj h
    cases h1
    obtain ⟨a', k', l', rfl⟩ := es1 h2
    exact ⟨a, k, l, a', k', l', rfl⟩
theorem es3 {es : List (Addr × Int × Int × Tok × Tok)} {p c p' c' p'' c'' : Int} (h : es.map (fun e => (e.2.1, e.2.2.1)) = [(p, c), (p', c'), (p'', c'')]) : ∃ a k l a' k' l' a'' k'' l'', es = [(a, p, c, k, l), (a', p', c', k', l'), (a'', p'', c'', k'', l'')] := by
  rcases es with _ | ⟨⟨a, p1, c1, k, l⟩, es⟩
  · cases h
  · rw [List.map_cons] at h
    obtain ⟨h1, h2⟩ := List.cons.inj h
    cases h1
    obtain ⟨a', k', l', a'', k'', l'', rfl⟩ := es2 h2
    exact ⟨a, k, l, a', k', l', a'', k'', l'', rfl⟩
theorem iter_lofT {A : Around} {prog : Program} {env : Env} {x : PySem.Expr} {body : List Stmt} {Q : Flow → Shared → Prop} {E : Value → Shared → Prop} {ax : Addr} {vs : List Value} {n : Nat} {m₀ : Str → Option Value} (hh : A.handled = none) (F : Fr h₀ env.locals s.heap m₀) (N : News h₀ L s.heap news) (hL : L = env.locals) (hm : (ax, W.listOf vs.toArray n) ∈ news)
    (rest₀ : ∀ I : Addr, (∀ p ∈ news, p.1 < I) → ItemsRest prog w A E h₀ env x body Q s [(I, "list_iterator")] [(ax, W.listOf vs.toArray n)] (vs.map .val) m₀ news) :
    wpAny (model prog w) A (pyIter (.ref ax)) (fun it s₂ => TurnsAt prog w A h₀ env x body Q E it s₂) E s := by
  subst hL
  exact iter_listTurns hh F N hm rfl rfl rest₀
theorem unrEndW_c1 {h₀ h' : Heap} {L I : Addr} {it : Obj} {rest : (Str → Option Value) → List (Addr × Obj) → Prop} {s₁ : Shared} {tk : Nat} {m' : Str → Option Value} {q : Addr × Obj} {post : List (Addr × Obj)} (F : Fr h₀ L h' m') (N : News h₀ L h' (q :: (I, it) :: post))
    (off : ∀ p ∈ q :: post, p.1 ≠ I) (r : rest m' (q :: post)) : UnrEndW h₀ L s₁ [(I, it)] rest { s₁ with heap := h', toks := tk } :=
  ⟨h', tk, m', q :: post, rfl, F, News.perm N (fun p hp => by
    rcases List.mem_cons.mp hp with rfl | hp
    · exact .tail _ (.head _)
    · rcases List.mem_cons.mp hp with rfl | hp
      · exact .head _
      · exact .tail _ (.tail _ hp)), fun p hp q hq => by rw [List.mem_singleton.mp hq]; exact off p hp, r⟩
theorem hset {rs : List Addr} {H : Nat → Int} {hs : List Value} (h : ∀ k, k < rs.length → hs[k]? = some .none ∨ ∃ t, hs[k]? = some (.int (H k) t)) (hl : hs.length = rs.length) {i : Nat} (hi : i < rs.length) (kh : Tok) :
    ∀ j, j < rs.length → (hs.set i (.int (H i) kh))[j]? = some .none ∨ ∃ t, (hs.set i (.int (H i) kh))[j]? = some (.int (H j) t) := fun j hj => by
  rw [List.getElem?_set]
  by_cases e : i = j
  · subst e
    rw [if_pos rfl, if_pos (by omega)]
    exact .inr ⟨kh, rfl⟩
  · rw [if_neg e]
    exact h j hj
theorem hcount {hs : List Value} {i : Nat} {n : Int} {k : Tok} (h : hs[i]? = some Value.none) : (hs.set i (.int n k)).countP (· == Value.none) + 1 = hs.countP (· == Value.none) := by
  induction hs generalizing i with
  | nil => cases h
  | cons a r ih =>
    cases i with
    | zero =>
      obtain rfl : a = Value.none := by simpa using h
      rw [List.set_cons_zero, List.countP_cons, List.countP_cons]; rfl
    | succ i =>
      rw [List.getElem?_cons_succ] at h
      rw [List.set_cons_succ, List.countP_cons, List.countP_cons]
      have := ih h
      omega
theorem hstart {g h : Heap} {L lL t hL : Addr} {q : Addr × Obj} {news : List (Addr × Obj)} {o1 o2 o3 : Obj} (N : News g L h ((lL, o1) :: (t, o2) :: (hL, o3) :: q :: news)) : News g L h ((lL, o1) :: (hL, o3) :: (t, o2) :: news) :=
  News.perm N fun p hp => by
    rcases List.mem_cons.mp hp with rfl | hp
    · exact .head _
    · rcases List.mem_cons.mp hp with rfl | hp
      · exact .tail _ (.tail _ (.head _))
      · rcases List.mem_cons.mp hp with rfl | hp
        · exact .tail _ (.head _)
        · exact .tail _ (.tail _ (.tail _ (.tail _ hp)))
theorem while_heights {prog : Program} {A : Around} {env : Env} {test : PySem.Expr} {body : List Stmt} {pos : Pos} {Q : Flow → Shared → Prop} {lL t hL R : Addr} {q : Addr × Obj} {o1 o2 o3 : Obj} {rs : List Addr} {H : Nat → Int} {n₀ : Nat} (F : Fr h₀ L s.heap m) (N : News h₀ L s.heap ((lL, o1) :: (t, o2) :: (hL, o3) :: q :: news))
    (hJ : hInv news rs H R lL hL n₀ m ((lL, o1) :: (hL, o3) :: (t, o2) :: news))
    (turn : ∀ n m₁ news₁ h₁ tk₁, Fr h₀ L h₁ m₁ → News h₀ L h₁ news₁ → hInv news rs H R lL hL n m₁ news₁ →
      wpAny (model prog w) A (isTrue test env (eval test env)) (fun b s₂ =>
        if b = true then wpAny (model prog w) A (execs body env) (WStep h₀ L s (hInv news rs H R lL hL) n) E s₂ else Q .next s₂) E { s with heap := h₁, toks := tk₁ })
    (hE : PassesOwn (model prog w) A env E := by passes_own) :
    wpAny (model prog w) A (exec (.While test body [] pos) env) Q E s := While_own (hInv news rs H R lL hL) F (hstart N) hJ turn hE
theorem items_inv {A : Around} {prog : Program} {env : Env} {x : PySem.Expr} {body : List Stmt} {Q : Flow → Shared → Prop} {E : Value → Shared → Prop} {I : Addr} {tn : String} {keep : List (Addr × Obj)} (J : List Value → (Str → Option Value) → List (Addr × Obj) → Prop)
    (turn : ∀ v r m₁ news₁ it h tk, J (v :: r) m₁ news₁ → it.cls = .type tn → Fr h₀ env.locals h m₁ → News h₀ env.locals h ((I, it) :: news₁) →
      wpAny (model prog w) A (assign x env v) (fun _ s₂ => wpAny (model prog w) A (execs body env) (UnrPostW h₀ env.locals { s with heap := h, toks := tk } [(I, it)] (fun m' n' => SubL keep n' ∧ J r m' n') Q) E s₂) E { s with heap := h, toks := tk })
    (done : ∀ m₁ news₁ h tk, J [] m₁ news₁ → Fr h₀ env.locals h m₁ → News h₀ env.locals h news₁ → Q .next { s with heap := h, toks := tk }) :
    ∀ r m₁ news₁, J r m₁ news₁ → ItemsRest prog w A E h₀ env x body Q s [(I, tn)] keep (r.map .val) m₁ news₁
  | [], m₁, news₁, hj => fun h tk F N => done m₁ news₁ h tk hj F N
  | v :: r, m₁, news₁, hj => fun u h tk e F => by
    obtain rfl : u = v := e
    intro it hit N
    refine wpAny_mono (turn u r m₁ news₁ it h tk hj hit F N) (fun _ s₂ p => wpAny_mono p (fun f s₃ q => ?_) fun _ _ e => e) fun _ _ e => e
    have fin : UnrEndW h₀ env.locals { s with heap := h, toks := tk } [(I, it)] (fun m' n' => SubL keep n' ∧ J r m' n') s₃ → UnrEndW h₀ env.locals { s with heap := h, toks := tk } [(I, it)] (fun m' n' => SubL keep n' ∧ ItemsRest prog w A E h₀ env x body Q s [(I, tn)] keep (r.map .val) m' n') s₃ := by
      rintro ⟨h', tk', m', n', e, F', N', off, hk, hj'⟩
      exact ⟨h', tk', m', n', e, F', N', off, hk, items_inv J turn done r m' n' hj'⟩
    cases f with
    | ret v => exact q
    | brk => exact q
    | next => exact fin q
    | cont => exact fin q
theorem perm7 {g h : Heap} {L : Addr} {a b c d : Addr × Obj} {l rest : List (Addr × Obj)} (N : News g L h (a :: (l ++ b :: c :: d :: rest))) : News g L h (c :: d :: a :: (l ++ rest)) :=
  News.perm N fun p hp => by
    rcases List.mem_cons.mp hp with rfl | hp
    · exact .tail _ (List.mem_append.mpr (.inr (.tail _ (.head _))))
    · rcases List.mem_cons.mp hp with rfl | hp
      · exact .tail _ (List.mem_append.mpr (.inr (.tail _ (.tail _ (.head _)))))
      · rcases List.mem_cons.mp hp with rfl | hp
        · exact .head _
        · rcases List.mem_append.mp hp with hp | hp
          · exact .tail _ (List.mem_append.mpr (.inl hp))
          · exact .tail _ (List.mem_append.mpr (.inr (.tail _ (.tail _ (.tail _ hp)))))
theorem name3 {g h : Heap} {L a b c : Addr} {o1 o2 o3 : Obj} {q : Addr × Obj} {rest : List (Addr × Obj)} (_ : News g L h ((a, o1) :: (b, o2) :: (c, o3) :: q :: rest)) : ∃ a' b' c' : Addr, a' = a ∧ b' = b ∧ c' = c := ⟨_, _, _, rfl, rfl, rfl⟩
theorem ps_mem {rs : List Addr} {tk lf H : Nat → Int} {ps : Nat → List (Int × Int)} (D : Rows w news rs tk lf H ps) {i : Nat} (hi : i < rs.length) : (∀ p d, (p, d) ∈ ps i → d = H (i + 1) - H i ∧ (p = -1 ∨ p = (i : Int) + 1) ∧ i + 1 < rs.length) ∧ (ps i).length ≤ 3 := by
  have hs := D.hs i hi
  rcases D.nxt i hi with hp | ⟨hi1, hp | hp | hp | hp⟩ <;> rw [hp] <;> refine ⟨fun p d h => ?_, by simp⟩ <;> simp only [List.mem_cons, Prod.mk.injEq, List.not_mem_nil, or_false] at h
  · exact ⟨by omega, by omega, hi1⟩
  · exact ⟨by omega, by omega, hi1⟩
  · exact ⟨by omega, by omega, hi1⟩
  · exact ⟨by omega, by omega, hi1⟩
theorem tups_mem {es : List (Addr × Int × Int × Tok × Tok)} {p : Addr × Obj} (h : p ∈ tupsOf es) : ∃ e ∈ es, p = (e.1, tupOb [.int e.2.1 e.2.2.2.1, .int e.2.2.1 e.2.2.2.2]) := by
  obtain ⟨e, he, rfl⟩ := List.mem_map.mp h
  exact ⟨e, he, rfl⟩
noncomputable def tInv (news : List (Addr × Obj)) (rs : List Addr) (H : Nat → Int) (R lL hL : Addr) (i : Nat) (ki kh : Tok) (hs : List Value) (n2 top : Nat) (bo : Addr × Obj) (I8 : Addr) (r : List Value) (m₁ : Str → Option Value) (news₁ : List (Addr × Obj)) : Prop :=
  ∃ (vp vc : Option Value) (n1 : Nat) (ents : List Addr) (rest : List (Addr × Obj)), m₁ = hMap R lL hL (some (.int ((i : Nat) : Int) ki)) (some (.int (H i) kh)) vp vc ∧ news₁ = (lL, W.listOf (ents.map Value.ref).toArray n1) :: (hL, W.listOf hs.toArray n2) :: rest ∧
    (∀ p ∈ rest, p.1 ≠ lL) ∧ (∀ p ∈ rest, p.1 ≠ hL) ∧ (∀ p ∈ news, p ∈ rest) ∧ bo ∈ rest ∧ (∀ p ∈ rest, p.1 ≠ I8) ∧
    (∀ e ∈ ents, ∃ i k k', (e, tupOb [.int ((i : Nat) : Int) k, .int (H i) k']) ∈ rest ∧ i < rs.length) ∧
    (∀ v ∈ r, ∃ x p d k k', v = Value.ref x ∧ (x, tupOb [.int p k, .int d k']) ∈ rest ∧ d = H (i + 1) - H i ∧ (p = -1 ∨ p = (i : Int) + 1) ∧ i + 1 < rs.length) ∧ ents.length + r.length ≤ top
theorem tEnd {g h' : Heap} {L' lL hL I8 D R : Addr} {it : Obj} {rs ents : List Addr} {H : Nat → Int} {i n1 n2 top tk : Nat} {ki kh k k' : Tok} {hs r : List Value} {bo : Addr × Obj} {s₁ : Shared} {rest1 news0 : List (Addr × Obj)} {m' : Str → Option Value} {vp vc : Option Value} {q e : Int} {v : Value}
    (F' : Fr g L' h' m') (N' : News g L' h' ((D, tupOb [.int q k, .int e k']) :: (I8, it) :: (lL, W.listOf (ents.map Value.ref ++ [Value.ref D]).toArray n1) :: (hL, W.listOf hs.toArray n2) :: rest1))
    (hm : m' = hMap R lL hL (some (.int ((i : Nat) : Int) ki)) (some (.int (H i) kh)) vp vc) (hq : q = (i : Int) + 1) (he : e = H (i + 1)) (hi : i + 1 < rs.length)
    (l : @LT.lt Nat _ I8 D ∧ @LT.lt Nat _ lL D ∧ @LT.lt Nat _ hL D ∧ AllLt D rest1) (hI1 : @LT.lt Nat _ lL I8) (hI2 : @LT.lt Nat _ hL I8) (hp1 : ∀ p ∈ rest1, p.1 ≠ lL) (hp2 : ∀ p ∈ rest1, p.1 ≠ hL) (hs1 : ∀ p ∈ news0, p ∈ rest1) (hb1 : bo ∈ rest1) (hI3 : ∀ p ∈ rest1, p.1 ≠ I8)
    (he1 : ∀ e ∈ ents, ∃ i k k', (e, tupOb [.int ((i : Nat) : Int) k, .int (H i) k']) ∈ rest1 ∧ i < rs.length)
    (hr1 : ∀ u ∈ v :: r, ∃ x p d k k', u = Value.ref x ∧ (x, tupOb [.int p k, .int d k']) ∈ rest1 ∧ d = H (i + 1) - H i ∧ (p = -1 ∨ p = (i : Int) + 1) ∧ i + 1 < rs.length) (hl1 : ents.length + (v :: r).length ≤ top) :
    UnrEndW g L' s₁ [(I8, it)] (fun m' n' => SubL [bo] n' ∧ tInv news0 rs H R lL hL i ki kh hs n2 top bo I8 r m' n') { s₁ with heap := h', toks := tk } := by
  subst hm hq he
  refine ⟨h', tk, _, (lL, W.listOf ((ents ++ [D]).map Value.ref).toArray n1) :: (hL, W.listOf hs.toArray n2) :: (D, tupOb [.int ((i : Int) + 1) k, .int (H (i + 1)) k']) :: rest1, rfl, F', ?_, ?_, ⟨.tail _ (.tail _ (.tail _ hb1)), trivial⟩, vp, vc, n1, ents ++ [D], (D, tupOb [.int ((i : Int) + 1) k, .int (H (i + 1)) k']) :: rest1, rfl, rfl, ?_, ?_, fun p hp => .tail _ (hs1 p hp), .tail _ hb1, ?_, ?_, ?_, ?_⟩
  · rw [List.map_append]
    refine News.perm N' fun p hp => ?_
    rcases List.mem_cons.mp hp with rfl | hp
    · exact .tail _ (.head _)
    · rcases List.mem_cons.mp hp with rfl | hp
      · exact .tail _ (.tail _ (.head _))
      · rcases List.mem_cons.mp hp with rfl | hp
        · exact .tail _ (.tail _ (.tail _ (.head _)))
        · rcases List.mem_cons.mp hp with rfl | hp
          · exact .head _
          · exact .tail _ (.tail _ (.tail _ (.tail _ hp)))
  · intro p hp z hz
    rw [List.mem_singleton.mp hz]
    rcases List.mem_cons.mp hp with rfl | hp
    · exact Nat.ne_of_lt hI1
    · rcases List.mem_cons.mp hp with rfl | hp
      · exact Nat.ne_of_lt hI2
      · rcases List.mem_cons.mp hp with rfl | hp
        · exact Nat.ne_of_gt l.1
        · exact hI3 p hp
  · exact List.forall_mem_cons.mpr ⟨Nat.ne_of_gt l.2.1, hp1⟩
  · exact List.forall_mem_cons.mpr ⟨Nat.ne_of_gt l.2.2.1, hp2⟩
  · exact List.forall_mem_cons.mpr ⟨Nat.ne_of_gt l.1, hI3⟩
  · intro e he
    rcases List.mem_append.mp he with he | he
    · obtain ⟨j, a, b, c, d⟩ := he1 e he
      exact ⟨j, a, b, .tail _ c, d⟩
    · rw [List.mem_singleton.mp he]
      exact ⟨i + 1, k, k', .head _, hi⟩
  · intro u hu
    obtain ⟨x, p, d, a, b, e1, e2, e3⟩ := hr1 u (.tail _ hu)
    exact ⟨x, p, d, a, b, e1, .tail _ e2, e3⟩
  · rw [List.length_append, List.length_singleton]
    rw [List.length_cons] at hl1
    omega
end
end -- V1a
section
local macro_rules | `(tactic| walk_at "HATOPEN") => `(tactic| skip)
local macro_rules | `(tactic| walk_at "pyIter ref") => `(tactic| k_extra "z68")
local macro_rules | `(tactic| walk_at "UnrEndW") => `(tactic| k_extra "z59")
local macro_rules | `(tactic| walk_at "call builtin:list.append") => `(tactic| k_extra "z69")
section -- V1b
open PySem PySem.W PyProof.Rows PySem.Calls
set_option maxRecDepth 100000
set_option maxHeartbeats 8000000
section
variable {w : World} {mean : ExcName → Option Value} {mg mb : Str → Option Value} {dp un : Nat} {gd : Option (List Code)} {cn : Str} {cs : Scope} {a : Addr} {ccd : Value} {cl : List (Str × Addr)} {outer : List Env} {A₀ : Around} {base h₀ : Heap} {L : Addr} {m : Str → Option Value} {news : List (Addr × Obj)} {s : Shared} {Q E : Value → Shared → Prop}
theorem heights_ok {rs : List Addr} {tk lf H : Nat → Int} {ps : Nat → List (Int × Int)} {R : Addr} {nR : Nat} (D : Rows w news rs tk lf H ps) (hR : (R, W.listOf (rs.map Value.ref).toArray nR) ∈ news) (hne : 0 < rs.length) (hlen : rs.length ≤ 40)
    (B : Below A₀ base outer h₀) (F : Fr h₀ L s.heap m) (X : (KK w.params).In h₀) (N : News h₀ L s.heap news) (T : Top vw lo mean mg mb h₀) (hk : cs.kind = .function) (hroom : dp + 20 < recursionLimit)
    (ret : ∀ v h' tk', Fr h₀ L h' m → News h₀ L h' news → Q v { s with heap := h', toks := tk' }) :
    wpAny (model PySem.Challenge.rw_qz0086_01.row.prog w) (ktrTop dp un gd cn cs L a ccd cl outer) (call (.ref 289) [.ref R]) Q E s := by
  revert X N T
  k_fill
  intro X N T
  refine wpAny_call ?_
  refine' code_def (binds := [(Str.ofString "rows", .ref R)]) B F X N T rfl rfl hk ?k6 ?k7 ?k8 ?k9 ?kB ?_ ?c2 ?c3 ?c4 ?c5
  walk_at "ENTER"
  k_steps
  refine stopG ?_
  rename Fr _ _ _ _ => F2
  rename News _ _ _ _ => N2
  obtain ⟨lL, tA, hL, rfl, rfl, rfl⟩ := name3 N2
  simp only [List.length_map] at N2
  refine while_heights (news := news) (rs := rs) (H := H) (R := R) (n₀ := 4 * rs.length + 1) F2 N2 ?_ ?_
  · refine ⟨none, none, none, none, 0, 0, _, _, [_], ?_, rfl, ?_, ?_, ?_, ?_, ?_, ?_, ?_, ?_, ?_⟩
    · walk_at "NORM"
    · k_all
    · k_all
    · k_ne
    · exact fun p hp => .tail _ hp
    · intro e he
      rw [List.mem_singleton.mp he]
      exact ⟨0, _, _, by rw [D.h0]; exact .head _, hne⟩
    · exact List.length_replicate ..
    · exact fun k hk => .inl (by rw [List.getElem?_replicate, if_pos hk])
    · simp [List.countP_replicate]
    · omega
  · intro n m₁ news₁ h₁ tk₁ F1 N1 J1
    obtain ⟨va, vh, vp, vc, n1, n2, hs, rest, ents, rfl, rfl, ho1, ho2, hne12, hsub, hents, hhl, hhs, hn, hn2⟩ := J1
    have hR' := hsub _ hR
    have hcnt : hs.countP (· == Value.none) ≤ hs.length := List.countP_le_length ..
    have hml : (rs.map Value.ref).length = rs.length := List.length_map ..
    have hents0 := hents
    rcases List.eq_nil_or_concat ents with rfl | ⟨ep, e, rfl⟩
    · k_steps
      show Q _ _
      exact ret _ _ _ (by assumption) (News.perm (by assumption) fun p hp => .tail _ (.tail _ (hsub p hp)))
    · obtain ⟨i, ki, kh, he, hi⟩ := hents e (by simp)
      obtain ⟨x, hx⟩ : ∃ x, rs[i]? = some x := ⟨_, List.getElem?_eq_getElem hi⟩
      have hitem : (rs.map Value.ref)[i]? = some (.ref x) := by rw [List.getElem?_map, hx]; rfl
      obtain ⟨its, hrow, SE, SH⟩ := D.row i x hx
      have hrow' := hsub _ hrow
      have hlow := D.low i hi
      have hep : ep.length ≤ 200 := by rw [List.concat_eq_append, List.length_append] at hn; omega
      simp only [List.concat_eq_append, List.map_append, List.map_cons, List.map_nil] at N1
      rcases hhs i hi with hv | ⟨tv, hv⟩
      · have hrl : ∀ j, j < rs.length → (hs.set i (.int (H i) kh))[j]? = some .none ∨ ∃ t, (hs.set i (.int (H i) kh))[j]? = some (.int (H j) t) := fun j hj => hset hhs hhl hi kh j hj
        have hcn : (hs.set i (.int (H i) kh)).countP (· == Value.none) + 1 = hs.countP (· == Value.none) := hcount hv
        k_steps
        refine stopG ?_
        have N8 := perm7 N7
        refine iter_lofT rfl F7 N8 rfl (.tail _ (.tail _ (.head _))) ?_
        intro I8 lI8
        have hI1 : @LT.lt Nat _ lL I8 := lI8 _ (.head _)
        have hI2 : @LT.lt Nat _ hL I8 := lI8 _ (.tail _ (.head _))
        rw [show (es7.map fun e => Value.ref e.1).map Itm.val = (es7.map fun e => Value.ref e.1).map Itm.val from rfl]
        refine items_inv (tInv news rs H R lL hL i ki kh (hs.set i (.int (H i) kh)) n2 (ep.length + 3) (b7, W.listOf (es7.map fun e => Value.ref e.1).toArray n7) I8) ?turn ?done _ _ _ ?start
        case turn =>
          intro v r m₁ news₁ it h tk hj hit F1 N1
          obtain ⟨vp, vc, n1, ents, rest1, rfl, rfl, hp1, hp2, hs1, hb1, hI3, he1, hr1, hl1⟩ := hj
          have hl1' : ents.length ≤ 300 := by simp only [List.length_cons] at hl1; omega
          obtain ⟨x1, p1, d1, k1, k1', rfl, hx1, hd1, hpp1, hi1⟩ := hr1 v (.head _)
          k_steps
          all_goals refine stopG ?_
          all_goals rename Fr _ _ _ _ => F9
          all_goals rename News _ _ _ _ => N9
          all_goals refine tEnd F9 N9 (by walk_at "NORM") ?_ ?_ hi1 (by assumption) hI1 hI2 hp1 hp2 hs1 hb1 hI3 he1 hr1 hl1
          · rfl
          · rw [hd1]; omega
          · rcases hpp1 with h | h
            · omega
            · exact h
          · rw [hd1]; omega
        case done =>
          intro m₁ news₁ h tk hj F1 N1
          obtain ⟨vp, vc, n1', ents, rest1, rfl, rfl, hp1, hp2, hs1, hb1, hI3, he1, hr1, hl1⟩ := hj
          k_steps
          refine ⟨.inl rfl, h, tk, _, _, 4 * (hs.set i (.int (H i) kh)).countP (· == Value.none) + ents.length, rfl, F1, N1, ?_, some (.int i ki), some (.int (H i) kh), vp, vc, n1', n2, _, rest1, ents, rfl, rfl, hp1, hp2, hne12, hs1, he1, by rw [List.length_set]; exact hhl, hrl, rfl, ?_⟩
          · rw [List.concat_eq_append, List.length_append] at hn; simp only [List.length_nil, List.length_singleton] at hl1 hn; omega
          · rw [List.concat_eq_append, List.length_append] at hn; simp only [List.length_nil, List.length_singleton] at hl1 hn; omega
        case start =>
          refine ⟨vp, vc, n1 + 1, ep, (b7, W.listOf (es7.map fun e => Value.ref e.1).toArray n7) :: (tupsOf es7 ++ rest), ?_, rfl, ?_, ?_, ?_, .head _, ?_, ?_, ?_, ?_⟩
          · walk_at "NORM"
          · intro p hp
            rcases List.mem_cons.mp hp with rfl | hp
            · exact (o7 _ (.tail _ (.head _))).symm
            · rcases List.mem_append.mp hp with hp | hp
              · obtain ⟨e, he, rfl⟩ := tups_mem hp
                exact (oo7 e he _ (.tail _ (.head _))).symm
              · exact ho1 p hp
          · intro p hp
            rcases List.mem_cons.mp hp with rfl | hp
            · exact (o7 _ (.tail _ (.tail _ (.head _)))).symm
            · rcases List.mem_append.mp hp with hp | hp
              · obtain ⟨e, he, rfl⟩ := tups_mem hp
                exact (oo7 e he _ (.tail _ (.tail _ (.head _)))).symm
              · exact ho2 p hp
          · exact fun p hp => .tail _ (List.mem_append.mpr (.inr (hsub p hp)))
          · exact fun p hp => Nat.ne_of_lt (lI8 p (.tail _ (.tail _ hp)))
          · intro e he
            obtain ⟨j, a1, a2, a3, a4⟩ := hents e (by simp [he])
            exact ⟨j, a1, a2, .tail _ (List.mem_append.mpr (.inr a3)), a4⟩
          · intro v hv
            obtain ⟨e, he, rfl⟩ := List.mem_map.mp hv
            obtain ⟨q1, q2, q3⟩ := (ps_mem D hi).1 e.2.1 e.2.2.1 (by rw [← e7]; exact List.mem_map.mpr ⟨e, he, rfl⟩)
            exact ⟨e.1, e.2.1, e.2.2.1, e.2.2.2.1, e.2.2.2.2, rfl, .tail _ (List.mem_append.mpr (.inl (List.mem_map.mpr ⟨e, he, rfl⟩))), q1, q2, q3⟩
          · have hq := (ps_mem D hi).2
            rw [← e7, List.length_map] at hq
            rw [List.length_map]
            omega
      · k_steps
        · exact absurd rfl (by assumption)
        · dsimp only
          rename Fr _ _ _ _ => F9
          rename News _ _ _ _ => N9
          refine ⟨.inr rfl, _, _, _, _, 4 * hs.countP (· == Value.none) + ep.length, rfl, F9, N9, ?_, some (.int i ki), some (.int (H i) kh), vp, vc, _, _, hs, rest, ep, ?_, rfl, ho1, ho2, hne12, hsub, fun e he => hents e (by simp [he]), hhl, hhs, rfl, ?_⟩
          · rw [hn, List.concat_eq_append, List.length_append]; simp
          · walk_at "NORM"
          · rw [List.concat_eq_append, List.length_append] at hn; omega
end
end -- V1b
section -- P0
open PySem PySem.W PyProof.Rows PySem.Calls
set_option maxRecDepth 100000
set_option maxHeartbeats 8000000
section
variable {prog : Program} {w : World} {A : Around} {E : Value → Shared → Prop} {s : Shared} {h₀ : Heap} {L D : Addr} {m : Str → Option Value} {news : List (Addr × Obj)} {vs : List Value} {n : Nat}
noncomputable def clsOf (wc : Bool) : Addr := if wc then 216 else 195
structure CodeObj (news : List (Addr × Obj)) (x R S : Addr) (pv : Value) (wc : Bool) : Prop where
  ex : ∃ dx es n, (x, instObj (clsOf wc) dx) ∈ news ∧ (dx, dictOf es n) ∈ news ∧ getL "rows" es = some (some (.ref R)) ∧ getL "pad_size" es = some (some pv) ∧ getL "subs" es = some (some (.ref S))
theorem CodeObj.mono {news news' : List (Addr × Obj)} {x R S : Addr} {pv : Value} {wc : Bool} (c : CodeObj news x R S pv wc) (h : ∀ p ∈ news, p ∈ news') : CodeObj news' x R S pv wc := by
  obtain ⟨dx, es, n, h1, h2, h3⟩ := c.ex
  exact ⟨dx, es, n, h _ h1, h _ h2, h3⟩
structure ClsK (w : World) (C : Addr) (name : Str) : Prop where
  g : plainGet (KK w.params) C name = true
  d : hasDictIn (KK w.params) C = true
  a : ∃ attr, findIn (KK w.params) (.ref C) name = some attr ∧ noGet (KK w.params) attr = true
theorem clsK (w : World) (wc : Bool) : ClsK w (clsOf wc) "rows" ∧ ClsK w (clsOf wc) "pad_size" ∧ ClsK w (clsOf wc) "subs" := by
  refine (fun (f : PySem.Challenge.rw_qz0086_01 = PySem.Challenge.rw_qz0086_01 → ClsK w (clsOf wc) "rows" ∧ ClsK w (clsOf wc) "pad_size" ∧ ClsK w (clsOf wc) "subs") => f rfl) ?_
  have hK : KK w.params = KK w.params := rfl
  revert hK
  k_fill
  intro _ _
  cases wc
  · show ClsK w 195 "rows" ∧ ClsK w 195 "pad_size" ∧ ClsK w 195 "subs"
    exact ⟨⟨by k_is, by k_is, _, by k_is, by k_is⟩, ⟨by k_is, by k_is, _, by k_is, by k_is⟩, ⟨by k_is, by k_is, _, by k_is, by k_is⟩⟩
  · show ClsK w 216 "rows" ∧ ClsK w 216 "pad_size" ∧ ClsK w 216 "subs"
    exact ⟨⟨by k_is, by k_is, _, by k_is, by k_is⟩, ⟨by k_is, by k_is, _, by k_is, by k_is⟩, ⟨by k_is, by k_is, _, by k_is, by k_is⟩⟩
theorem code_attr {x dx C : Addr} {es : List DictEntry} {name : Str} {v : Value} {expr : Bool} {Q : Value → Shared → Prop} (F : Fr h₀ L s.heap m) (X : (KK w.params).In h₀) (N : News h₀ L s.heap news) (c : ClsK w C name)
    (h1 : (x, instObj C dx) ∈ news) (h2 : (dx, dictOf es n) ∈ news) (hl : getL name es = some (some v)) (hv : handedIn v = true) (h : Q v { s with toks := s.toks + 1 }) : wpAny (model prog w) A (getAttr (.ref x) name expr) Q E s := by
  obtain ⟨attr, ha, hn⟩ := c.a
  exact get_own F X (InstAt.of_news N h1 h2) c.g c.d ha hn hl hv h
theorem code_rows {x R S : Addr} {pv : Value} {wc : Bool} {expr : Bool} {Q : Value → Shared → Prop} (c : CodeObj news x R S pv wc) (F : Fr h₀ L s.heap m) (X : (KK w.params).In h₀) (N : News h₀ L s.heap news) (h : Q (.ref R) { s with toks := s.toks + 1 }) :
    wpAny (model prog w) A (getAttr (.ref x) "rows" expr) Q E s := by
  obtain ⟨dx, es, n, h1, h2, h3, h4, h5⟩ := c.ex
  exact code_attr F X N (clsK w wc).1 h1 h2 h3 rfl h
theorem code_subs {x R S : Addr} {pv : Value} {wc : Bool} {expr : Bool} {Q : Value → Shared → Prop} (c : CodeObj news x R S pv wc) (F : Fr h₀ L s.heap m) (X : (KK w.params).In h₀) (N : News h₀ L s.heap news) (h : Q (.ref S) { s with toks := s.toks + 1 }) :
    wpAny (model prog w) A (getAttr (.ref x) "subs" expr) Q E s := by
  obtain ⟨dx, es, n, h1, h2, h3, h4, h5⟩ := c.ex
  exact code_attr F X N (clsK w wc).2.2 h1 h2 h5 rfl h
theorem code_pad {x R S : Addr} {pv : Value} {wc : Bool} {expr : Bool} {Q : Value → Shared → Prop} (c : CodeObj news x R S pv wc) (hv : handedIn pv = true) (F : Fr h₀ L s.heap m) (X : (KK w.params).In h₀) (N : News h₀ L s.heap news) (h : Q pv { s with toks := s.toks + 1 }) :
    wpAny (model prog w) A (getAttr (.ref x) "pad_size" expr) Q E s := by
  obtain ⟨dx, es, n, h1, h2, h3, h4, h5⟩ := c.ex
  exact code_attr F X N (clsK w wc).2.1 h1 h2 h4 hv h
structure IsK (w : World) : Prop where
  yes : isIn (KK w.params) (.ref 216) 216 = true
  no : kin_not (KK w.params) 195 216 = true
  g : plainGet (KK w.params) 195 "__class__" = true
  d : hasDictIn (KK w.params) 195 = true
  a : findIn (KK w.params) (.ref 195) "__class__" = some (some (.builtin "object.__class__"))
  n : specialIn (KK w.params) (.builtin "object.__class__") "__get__" = some (some (.builtin "getset_descriptor.__get__"))
  t : takesIn (KK w.params) (.builtin "object.__class__") = some true
  m : mroIn (KK w.params) 195 (.type "object") = some true
theorem isK (w : World) : IsK w := by
  refine (fun (f : PySem.Challenge.rw_qz0086_01 = PySem.Challenge.rw_qz0086_01 → IsK w) => f rfl) ?_
  have hK : KK w.params = KK w.params := rfl
  revert hK
  k_fill
  intro _ _
  exact ⟨by k_is, by kernel_rfl, by k_is, by k_is, by k_is, by k_is, by k_is, by k_is⟩
theorem code_isinst {x R S : Addr} {pv : Value} {wc : Bool} {Q : Value → Shared → Prop} (c : CodeObj news x R S pv wc) (F : Fr h₀ L s.heap m) (X : (KK w.params).In h₀) (N : News h₀ L s.heap news) (h : ∀ tk, Q (.bool wc) { s with toks := tk }) :
    wpAny (model prog w) A (call (.builtin "isinstance") [.ref x, .ref 216]) Q E s := by
  obtain ⟨dx, es, n, h1, h2, _⟩ := c.ex
  have k := isK w
  cases wc with
  | true => exact isi_call (X.keeps F.keep) (fun M => InstAt.type (InstAt.of_news N h1 h2)) k.yes (by intro e; cases e) (h s.toks)
  | false => exact kin_callC (X.keeps F.keep) (InstAt.of_news N h1 h2) k.no k.g k.d k.a k.n k.t k.m (h _)
theorem lof_last {value slice : PySem.Expr} {x : Value} {u : Tok} {Q : Value → Shared → Prop} (N : News h₀ L s.heap news) (hm : (D, W.listOf (vs ++ [x]).toArray n) ∈ news) (hf : vs.length ≤ 1000) (h : Q x s)
    (hs : subscripted slice false (.ref D) (.int (-1) u) = operate [.ref D, .int (-1) u] (getItem (.ref D) (.int (-1) u)) := by with_unfolding_all rfl) :
    wpAny (model prog w) A (subscriptTail value slice (.ref D) (.int (-1) u)) Q E s := by
  have hl := lof_in N hm
  refine tail_any hl.typeIs slot_list_getitem.lookup (wpAny_getItem_list_neg hl (by decide) ?_ (by decide) ?_ h) hs
  · rw [List.size_toArray, List.length_append]; simp; omega
  · rw [List.size_toArray, List.length_append, List.length_singleton]
    have : ((-1 : Int) + ((vs.length + 1 : Nat) : Int)).toNat = vs.length := by omega
    rw [this]
    simp
theorem lof_itemA {value slice : PySem.Expr} {i : Nat} {u : Tok} {x : Value} {Q : Value → Shared → Prop} (N : News h₀ L s.heap news) (hm : (D, W.listOf vs.toArray n) ∈ news) (hi : vs[i]? = some x) (hf : vs.length ≤ 1000) (h : Q x s)
    (hs : subscripted slice false (.ref D) (.int (i : Int) u) = operate [.ref D, .int (i : Int) u] (getItem (.ref D) (.int (i : Int) u)) := by with_unfolding_all rfl) :
    wpAny (model prog w) A (subscriptTail value slice (.ref D) (.int (i : Int) u)) Q E s := by
  have hlt : i < vs.length := (List.getElem?_eq_some_iff.mp hi).1
  have hl := lof_in N hm
  exact tail_any hl.typeIs slot_list_getitem.lookup (wpAny_getItem_list hl (Int.natCast_nonneg i) (by omega) (by simpa using hi) h) hs
theorem lof_itemI {value slice : PySem.Expr} {k : Int} {u : Tok} {ns : List Int} {Q : Value → Shared → Prop} (N : News h₀ L s.heap news) (hm : (D, W.listOf vs.toArray n) ∈ news) (hI : IntsAre vs ns) (h0 : 0 ≤ k) (hlt : k < (vs.length : Int)) (hf : vs.length ≤ 1000) (h : ∀ x t, Q (.int x t) s)
    (hs : subscripted slice false (.ref D) (.int k u) = operate [.ref D, .int k u] (getItem (.ref D) (.int k u)) := by with_unfolding_all rfl) :
    wpAny (model prog w) A (subscriptTail value slice (.ref D) (.int k u)) Q E s := by
  have hl := lof_in N hm
  have hlen := hI.length
  have hk : k.toNat < vs.length := by omega
  obtain ⟨t, hx⟩ := hI.get k.toNat (ns[k.toNat]'(by omega)) (by simp)
  exact tail_any hl.typeIs slot_list_getitem.lookup (wpAny_getItem_list hl h0 (by omega) (by simpa using hx) (h _ _)) hs
theorem eq_nil {b : Addr} {k : Nat} {Q : Value → Shared → Prop} (hu : A.units < cLine) (N : News h₀ L s.heap news) (hm : (D, W.listOf vs.toArray n) ∈ news) (hb : (b, W.listOf ([] : List Value).toArray k) ∈ news) (hne : vs ≠ [])
    (h : Q (.bool false) s) : wpAny (model prog w) A (compareOp .Eq (.ref D) (.ref b)) Q E s :=
  SeqAt.eq_list_lengthsAt (lof_in N hm) (lof_in N hb) (by cases vs with | nil => exact absurd rfl hne | cons a r => simp) hu h
noncomputable def makers : List Str := ["closure", "definesub"]
theorem makers_tup (w : World) : ∃ its n, (KK w.params).lookup 261 = some ⟨.type "tuple", none, .seq its n, #[]⟩ ∧ StrsAre its.toList makers := by
  refine ⟨_, _, by with_unfolding_all rfl, ?_⟩
  repeat' constructor
theorem in_makers {x : Str} {u : Tok} {Q : Value → Shared → Prop} (X : (KK w.params).In s.heap) (h : Q (.bool (makers.any (· == x))) s) : wpAny (model prog w) A (compareOp .In (.str x u) (.ref 261)) Q E s := by
  obtain ⟨its, n, hl, hs⟩ := makers_tup w
  exact in_tuple_strs ⟨_, X _ _ hl, rfl, n, rfl⟩ hs h
noncomputable def cMap (x : Addr) (pv : Value) (vo vm va v1 : Option Value) : Str → Option Value := fun y =>
  if y = Str.ofString "one" then v1 else if y = Str.ofString "at" then va else if y = Str.ofString "made" then vm else if y = Str.ofString "op" then vo else List.lookup y [(Str.ofString "code", .ref x), (Str.ofString "pad_size", pv)].reverse
theorem row_at {ri : List Addr} {rz : Addr} {i : Nat} {v : Value} (h : (ri.map Value.ref ++ [Value.ref rz])[i]? = some v) : ∃ y, v = .ref y ∧ (ri ++ [rz])[i]? = some y := by
  have e : ri.map Value.ref ++ [Value.ref rz] = (ri ++ [rz]).map Value.ref := by simp
  rw [e, List.getElem?_map] at h
  cases q : (ri ++ [rz])[i]? with
  | none => rw [q] at h; cases h
  | some y => rw [q] at h; exact ⟨y, (Option.some.inj h).symm, rfl⟩
theorem Rows.mono {nws news : List (Addr × Obj)} {rs : List Addr} {tk lf H : Nat → Int} {ps : Nat → List (Int × Int)} (D : Rows w nws rs tk lf H ps) (h : ∀ p ∈ nws, p ∈ news) : Rows w news rs tk lf H ps :=
  ⟨D.h0, D.hs, D.low, fun i x e => let ⟨its, a, b⟩ := D.row i x e; ⟨its, h _ a, b⟩, D.nxt⟩
theorem idx1 (n : Nat) : seqIndex? 1 (n + 1 + 1) = some 1 := by unfold seqIndex?; simp; omega
theorem lof_len1 {x : Value} {Q : Value → Shared → Prop} (N : News h₀ L s.heap news) (hm : (D, W.listOf [x].toArray n) ∈ news)
    (h : Q (.int 1 (s.toks + 1)) { s with toks := s.toks + 1 + 1 }) : wpAny (model prog w) A (call (.builtin "len") [.ref D]) Q E s := lof_len N hm (by simp) h
theorem comp_inv {env : Env} {ct elt : PySem.Expr} {x : Str} {scope : Scope} {cl : List (Str × Addr)} {S : List (Addr × Obj) → Prop} {P : Nat → Value → Prop} {Fin : List Value → List (Addr × Obj) → Prop} (nn : Nat) (J : Nat → List Value → List (Addr × Obj) → Prop)
    (turn : ∀ i ys news v I oI C oC D m₂ h tk (E' : Value → Shared → Prop), i < nn → J i ys news → P i v → LCg.NsObj oC m₂ → m₂ x = some v → Fr h₀ L h m → News h₀ L h ((I, oI) :: (C, oC) :: (D, LCg.lst ys) :: news) → LCg.Off3 I C D news → ((@Ne Nat I C) ∧ (@Ne Nat I D) ∧ (@Ne Nat C D)) →
      wpAny (model prog w) A (isTrue ct (compEnvC scope cl C env) (eval ct (compEnvC scope cl C env))) (fun ok s' => if ok = true then
        wpAny (model prog w) A (eval elt (compEnvC scope cl C env)) (LCg.CompEnd h₀ L m { s with heap := h, toks := tk } I oI C oC D (LCg.lst ys) S (fun y news' => J (i + 1) (ys ++ [y]) news')) E' s'
        else LCg.CompEnd h₀ L m { s with heap := h, toks := tk } I oI C oC D (LCg.lst ys) S (fun _ news' => J (i + 1) ys news') Value.none s') E' { s with heap := h, toks := tk })
    (fin : ∀ ys news, J nn ys news → Fin ys news) :
    ∀ k i ys news, i + k = nn → J i ys news → LCt.CompRestT prog w A h₀ L m env ct elt x scope cl s S P Fin k i ys news
  | 0, i, ys, news, hk, hj => fin ys news (by have : i = nn := by omega
                                              subst this; exact hj)
  | k + 1, i, ys, news, hk, hj => fun v I oI C oC D m₂ h tk E' hP hN hv F N off hne => by
    refine wpAny_mono (turn i ys news v I oI C oC D m₂ h tk E' (by omega) hj hP hN hv F N off hne) (fun ok s' hq => ?_) fun _ _ e => e
    have mono : ∀ (r1 r2 : Value → List (Addr × Obj) → Prop) (y : Value) (s₂ : Shared), (∀ nw, r1 y nw → r2 y nw) → LCg.CompEnd h₀ L m { s with heap := h, toks := tk } I oI C oC D (LCg.lst ys) S r1 y s₂ → LCg.CompEnd h₀ L m { s with heap := h, toks := tk } I oI C oC D (LCg.lst ys) S r2 y s₂ := by
      rintro r1 r2 y s₂ hr ⟨h', tk', nw, e, F', N', o', hS, r⟩
      exact ⟨h', tk', nw, e, F', N', o', hS, hr nw r⟩
    cases ok with
    | true =>
      simp only [if_true] at hq ⊢
      exact wpAny_mono hq (fun y s₃ q => mono _ _ _ _ (fun nw r => comp_inv nn J turn fin k (i + 1) (ys ++ [y]) nw (by omega) r) q) fun _ _ e => e
    | false =>
      simp only [Bool.false_eq_true, if_false] at hq ⊢
      exact mono _ _ _ _ (fun nw r => comp_inv nn J turn fin k (i + 1) ys nw (by omega) r) hq
theorem in_made0 {Q : Value → Shared → Prop} {i : Int} {k : Tok} (N : News h₀ L s.heap news) (hm : (D, LCg.lst []) ∈ news) (h : Q (.bool false) s) : wpAny (model prog w) A (compareOp .In (.int i k) (.ref D)) Q E s :=
  SeqAt.in_listAt (items := #[]) (fun _ => false) ⟨_, (N _ hm).1, rfl, _, rfl⟩ (fun y hy => by simp at hy) (by simpa using h)
theorem in_made1 {Q : Value → Shared → Prop} {k k' : Tok} {r : List Value} (N : News h₀ L s.heap news) (hr : ∀ y ∈ r, ∃ k, y = Value.int 0 k) (hm : (D, LCg.lst (.int 0 k' :: r)) ∈ news) (h : Q (.bool true) s) : wpAny (model prog w) A (compareOp .In (.int 0 k) (.ref D)) Q E s :=
  SeqAt.in_listAt (items := (Value.int 0 k' :: r).toArray) (fun _ => true) ⟨_, (N _ hm).1, rfl, _, rfl⟩ (fun y hy => by
    have : ∃ k, y = Value.int 0 k := by
      rcases List.mem_cons.mp (List.mem_toArray.mp hy) with rfl | hy
      · exact ⟨k', rfl⟩
      · exact hr y hy
    obtain ⟨k1, rfl⟩ := this
    exact SeqAt.EqAt.int_int 0 k1 0 k) (by simpa using h)
end
end -- P0
section
local macro_rules | `(tactic| walk_at "pyIter ref") => `(tactic| k_extra "z70")
local macro_rules | `(tactic| walk_at "CompSrcT") => `(tactic| k_extra "z59")
local macro_rules | `(tactic| walk_at "TAILS") => `(tactic| k_extra "z71")
local macro_rules | `(tactic| walk_at "getAttr ref") => `(tactic| k_extra "z72")
local macro_rules | `(tactic| walk_at "compareOp Eq ref ref") => `(tactic| k_extra "z73")
local macro_rules | `(tactic| walk_at "UNITS") => `(tactic| k_extra "z74")
local macro_rules | `(tactic| walk_at "subscriptTail") => `(tactic| k_extra "z75")
local macro_rules | `(tactic| walk_at "subscriptTail") => `(tactic| k_extra "z76")
local macro_rules | `(tactic| walk_at "NORMC") => `(tactic| k_extra "z77")
section -- Q1
open PySem PySem.W PyProof.Rows PySem.Calls
set_option maxRecDepth 100000
set_option maxHeartbeats 8000000
section
variable {w : World} {mean : ExcName → Option Value} {mg mb : Str → Option Value} {dp un : Nat} {gd : Option (List Code)} {cn : Str} {cs : Scope} {a : Addr} {ccd : Value} {cl : List (Str × Addr)} {outer : List Env} {A₀ : Around} {base h₀ : Heap} {L : Addr} {m : Str → Option Value} {news : List (Addr × Obj)} {s : Shared} {Q E : Value → Shared → Prop}
local macro_rules | `(tactic| walk_at "call ref") => `(tactic| k_extra "z78")
local macro_rules | `(tactic| walk_at "call ref") => `(tactic| k_extra "z79")
local macro_rules | `(tactic| walk_at "IDX") => `(tactic| k_extra "z80")
local macro_rules | `(tactic| walk_at "call ref") => `(tactic| k_extra "z81")
noncomputable def PadSpec (w : World) (nws : List (Addr × Obj)) (x : Addr) (v : Value) (room : Nat) (ok : Prop) : Prop := ∀ (mean : ExcName → Option Value) (mg mb : Str → Option Value) (dp un : Nat) (gd : Option (List Code)) (cn : Str) (cs : Scope) (a : Addr) (ccd : Value) (cl : List (Str × Addr)) (outer : List Env) (A₀ : Around) (base h₀ : Heap) (L : Addr) (m : Str → Option Value) (news : List (Addr × Obj)) (s : Shared) (Q E : Value → Shared → Prop),
  (∀ p ∈ nws, p ∈ news) → Below A₀ base outer h₀ → Fr h₀ L s.heap m → (KK w.params).In h₀ → News h₀ L s.heap news → Top vw lo mean mg mb h₀ → cs.kind = .function → dp + room < recursionLimit → un + 10 * room < cLine →
  (ok → ∀ h' tk', Fr h₀ L h' m → News h₀ L h' news → Q .none { s with heap := h', toks := tk' }) →
  (¬ ok → ∀ x h' tk', Flew base h₀ (envX cn cs L a ccd cl :: outer) L m x h' → E x { s with heap := h', toks := tk' }) →
  wpAny (model PySem.Challenge.rw_qz0086_01.row.prog w) (ktrTop dp un gd cn cs L a ccd cl outer) (call (.ref 294) [.ref x, v]) Q E s
theorem odd_int {v : Value} (h : OddV v) : ¬ IsI v := by
  rintro ⟨n, k, rfl⟩
  rcases h with h | ⟨_, _, h⟩ | h | h | h <;> cases h
set_option maxHeartbeats 4000000 in
theorem pad0 {nws : List (Addr × Obj)} {x R S : Addr} {pv0 pv : Value} {wc : Bool} {ri : List Addr} {rz : Addr} {nR nS : Nat} {P : Nat → Prop} (hx : CodeObj nws x R S pv0 wc) (hR : (R, W.listOf (ri.map Value.ref ++ [Value.ref rz]).toArray nR) ∈ nws) (hS : (S, W.listOf ([] : List Value).toArray nS) ∈ nws) (hlen : ri.length ≤ 39) (hpv : IsI pv ∨ OddV pv)
    (hrow : ∀ n k, pv = .int n k → ∀ i y, (ri ++ [rz])[i]? = some y → ∃ its, (y, tupOb its) ∈ nws ∧ RowSpec w its ((ri.map Value.ref ++ [Value.ref rz]).length : Nat) (([] : List Value).length : Nat) n (P i)) (hlast : ∃ its, (rz, tupOb its) ∈ nws ∧ GoesSpec w its false)
    (hmk : ∀ (i : Nat) y, (ri ++ [rz])[i]? = some y → ∃ wd kw rest, (y, tupOb (.str wd kw :: rest)) ∈ nws ∧ (makers.any (· == wd) = true → ∃ k r', rest = .int 0 k :: r'))
    (hgood : IsI pv → (∀ i, i < ri.length + 1 → P i) → ∃ tk lf H ps, Rows w nws (ri ++ [rz]) tk lf H ps) : PadSpec w nws x pv 30 (IsI pv ∧ ∀ i, i < ri.length + 1 → P i) := by
  intro mean mg mb dp un gd cn cs a ccd cl outer A₀ base h₀ L m news s Q E hsub B F X N T hk hroom hun ret err
  have hx8 := hx.mono hsub
  have hR8 := hsub _ hR
  have hS8 := hsub _ hS
  obtain ⟨itz, hz, hgz⟩ := hlast
  have hz8 := hsub _ hz
  revert X N T
  k_fill
  intro X N T
  refine wpAny_call ?_
  refine' code_def (binds := [(Str.ofString "code", .ref x), (Str.ofString "pad_size", pv)]) B F X N T rfl rfl hk ?k6 ?k7 ?k8 ?k9 ?kB ?_ ?c2 ?c3 ?c4 ?c5
  walk_at "ENTER"
  k_steps
  refine stopG ?_
  obtain ⟨n, k, rfl⟩ := hint
  rename Fr _ _ _ _ => F2
  rename News _ _ _ _ => N2
  have N3 := News.perm N2 (news' := news) (by walk_at "TAILS")
  clear N2
  refine iter_lofJ (fun i m₁ nw => (∃ vo, m₁ = cMap x (.int n k) vo none none none) ∧ nw = news ∧ ∀ j, j < i → P j) rfl F2 N3 hR8 rfl rfl ⟨⟨none, by walk_at "NORMC"⟩, rfl, fun j hj => absurd hj (Nat.not_lt_zero j)⟩ (fun i m₁ nw hj => hj.2.1 ▸ hR8) ?turn ?done
  case turn =>
    intro I it i v m₁ nw h tk hv hj ho F1 N1
    obtain ⟨⟨vo, rfl⟩, rfl, hP⟩ := hj
    obtain ⟨y, rfl, hy⟩ := row_at hv
    obtain ⟨its, hym, hRS⟩ := hrow n k rfl i y hy
    have hym8 := hsub _ hym
    clear hgood hrow
    k_steps
    show JEnd _ _ _ _ _ _ _
    rename Fr _ _ _ _ => F9
    rename News _ _ _ _ => N9
    refine ⟨_, _, _, _, rfl, F9, N9, ho, ⟨some (.ref y), by walk_at "NORMC"⟩, rfl, fun j hj => ?_⟩
    rcases Nat.lt_succ_iff_lt_or_eq.mp hj with hj | rfl
    · exact hP j hj
    · exact hok
  case done =>
    intro m₁ nw h tk hj F1 N1
    obtain ⟨⟨vo, rfl⟩, rfl, hP⟩ := hj
    have hP8 : ∀ i, i < ri.length + 1 → P i := fun i hi => hP i (by simpa using hi)
    obtain ⟨tkh, lf, H, ps, D⟩ := hgood ⟨n, k, rfl⟩ hP8
    have hD8 := D.mono hsub
    have hR9 : (R, W.listOf ((ri ++ [rz]).map Value.ref).toArray nR) ∈ nw := by rw [List.map_append]; exact hR8
    clear hgood hrow D hP
    k_steps
    refine stopG ?_
    rename Fr _ _ _ _ => F2
    rename News _ _ _ _ => N2
    refine LCt.CompSrcT.ledger rfl F2 N2 hR8 ?size ?_
    case size => (simp only [List.size_toArray, List.length_append, List.length_map, List.length_singleton, sizeLine_eq]; omega)
    intro g8
    refine comp_inv _ (fun i ys nw' => nw' = nw) ?turn ?fin _ 0 [] nw (Nat.zero_add _) rfl
    case turn =>
      intro i ys nw' v I oI C oC D m₂ h tk E' hi hj hP hN hv F3 N3 off hne
      subst hj
      obtain ⟨y, rfl, hy⟩ := row_at (by simpa using hP)
      obtain ⟨wd, kw, rest, hym, hmy⟩ := hmk i y hy
      have hym8 := hsub _ hym
      clear hmk
      k_steps
      refine in_makers (X'.keeps F3.keep) ?_
      cases hmw : makers.any (· == wd)
      · k_steps
      · obtain ⟨k1, r1, rfl⟩ := hmy hmw
        k_steps
    case fin =>
      intro ys nw' hj
      subst hj
      k_steps
      rename Fr _ _ _ _ => F9
      rename News _ _ _ _ => N9
      exact ret ⟨⟨_, _, rfl⟩, hP8⟩ _ _ F9 (News.perm N9 (by walk_at "TAILS"))
end
end -- Q1
section
local macro_rules | `(tactic| walk_at "call ref") => `(tactic| k_extra "z82")
local macro_rules | `(tactic| walk_at "call ref") => `(tactic| k_extra "z79")
local macro_rules | `(tactic| walk_at "IDX") => `(tactic| k_extra "z80")
local macro_rules | `(tactic| walk_at "call ref") => `(tactic| k_extra "z81")
local macro_rules | `(tactic| walk_at "subscriptTail") => `(tactic| k_extra "z83")
local macro_rules | `(tactic| walk_at "subscriptTail") => `(tactic| k_extra "z84")
local macro_rules | `(tactic| walk_at "getAttr ref") => `(tactic| k_extra "z85")
local macro_rules | `(tactic| walk_at "call builtin:len") => `(tactic| k_extra "z86")
local macro_rules | `(tactic| walk_at "call builtin:isinstance") => `(tactic| k_extra "z87")
local macro_rules | `(tactic| walk_at "compareOp In int ref") => `(tactic| k_extra "z88")
section -- Q2
open PySem PySem.W PyProof.Rows PySem.Calls
set_option maxRecDepth 100000
set_option maxHeartbeats 8000000
section
variable {w : World} {mean : ExcName → Option Value} {mg mb : Str → Option Value} {dp un : Nat} {gd : Option (List Code)} {cn : Str} {cs : Scope} {a : Addr} {ccd : Value} {cl : List (Str × Addr)} {outer : List Env} {A₀ : Around} {base h₀ : Heap} {L : Addr} {m : Str → Option Value} {news : List (Addr × Obj)} {s : Shared} {Q E : Value → Shared → Prop}
local macro_rules | `(tactic| walk_at "call ref") => `(tactic| k_extra "z89")
noncomputable def mkJ (mkr : Nat → Bool) (nw0 : List (Addr × Obj)) (i : Nat) (ys : List Value) (nw' : List (Addr × Obj)) : Prop := nw' = nw0 ∧ (∀ y ∈ ys, ∃ k, y = Value.int 0 k) ∧ ((List.range i).any mkr = true ↔ ys ≠ [])
theorem pad_use {nws : List (Addr × Obj)} {x : Addr} {v : Value} {room : Nat} {ok : Prop} (S : PadSpec w nws x v room ok) (hs : ∀ p ∈ nws, p ∈ news) (B : Below A₀ base outer h₀) (F : Fr h₀ L s.heap m) (X : (KK w.params).In h₀) (N : News h₀ L s.heap news) (T : Top vw lo mean mg mb h₀) (hk : cs.kind = .function) (hroom : dp + room < recursionLimit) (hun : un + 10 * room < cLine)
  (ret : ok → ∀ h' tk', Fr h₀ L h' m → News h₀ L h' news → Q .none { s with heap := h', toks := tk' })
  (err : ¬ ok → ∀ x h' tk', Flew base h₀ (envX cn cs L a ccd cl :: outer) L m x h' → E x { s with heap := h', toks := tk' }) :
  wpAny (model PySem.Challenge.rw_qz0086_01.row.prog w) (ktrTop dp un gd cn cs L a ccd cl outer) (call (.ref 294) [.ref x, v]) Q E s := S _ _ _ _ _ _ _ _ _ _ _ _ _ _ _ _ _ _ _ _ _ hs B F X N T hk hroom hun ret err
set_option maxHeartbeats 1000000 in
theorem pad1 {nws : List (Addr × Obj)} {x R S : Addr} {pv0 pv : Value} {wc : Bool} {ri : List Addr} {rz : Addr} {nR nS : Nat} {P : Nat → Prop} {one R1 S1 : Addr} {pv1 : Value} {wc1 : Bool} {ok1 : Prop} {mkr : Nat → Bool} (hx : CodeObj nws x R S pv0 wc) (hR : (R, W.listOf (ri.map Value.ref ++ [Value.ref rz]).toArray nR) ∈ nws) (hS : (S, W.listOf [Value.ref one].toArray nS) ∈ nws) (hx1 : CodeObj nws one R1 S1 pv1 wc1) (hh9 : handedIn pv1 = true) (hin : PadSpec w nws one (if (List.range (ri.length + 1)).any mkr || wc1 then pv1 else pv) 30 ok1) (hlen : ri.length ≤ 39) (hpv : IsI pv ∨ OddV pv)
    (hrow : ∀ n k, pv = .int n k → ∀ i y, (ri ++ [rz])[i]? = some y → ∃ its, (y, tupOb its) ∈ nws ∧ RowSpec w its ((ri.map Value.ref ++ [Value.ref rz]).length : Nat) 1 n (P i)) (hlast : ∃ its, (rz, tupOb its) ∈ nws ∧ GoesSpec w its false)
    (hmk : (∀ i, i < ri.length + 1 → P i) → ∀ (i : Nat) y, (ri ++ [rz])[i]? = some y → ∃ wd kw rest, (y, tupOb (.str wd kw :: rest)) ∈ nws ∧ makers.any (· == wd) = mkr i ∧ (mkr i = true → ∃ k r', rest = .int 0 k :: r'))
    (hgood : IsI pv → (∀ i, i < ri.length + 1 → P i) → ∃ tk lf H ps, Rows w nws (ri ++ [rz]) tk lf H ps) : PadSpec w nws x pv 40 (IsI pv ∧ (∀ i, i < ri.length + 1 → P i) ∧ ok1) := by
  intro mean mg mb dp un gd cn cs a ccd cl outer A₀ base h₀ L m news s Q E hsub B F X N T hk hroom hun ret err
  have hx8 := hx.mono hsub
  have hx9 := hx1.mono hsub
  have hR8 := hsub _ hR
  have hS8 := hsub _ hS
  obtain ⟨itz, hz, hgz⟩ := hlast
  have hz8 := hsub _ hz
  revert X N T
  k_fill
  intro X N T
  refine wpAny_call ?_
  refine' code_def (binds := [(Str.ofString "code", .ref x), (Str.ofString "pad_size", pv)]) B F X N T rfl rfl hk ?k6 ?k7 ?k8 ?k9 ?kB ?_ ?c2 ?c3 ?c4 ?c5
  walk_at "ENTER"
  k_steps
  refine stopG ?_
  obtain ⟨n, k, rfl⟩ := hint
  rename Fr _ _ _ _ => F2
  rename News _ _ _ _ => N2
  have N3 := News.perm N2 (news' := news) (by walk_at "TAILS")
  clear N2
  refine iter_lofJ (fun i m₁ nw => (∃ vo, m₁ = cMap x (.int n k) vo none none none) ∧ nw = news ∧ ∀ j, j < i → P j) rfl F2 N3 hR8 rfl rfl ⟨⟨none, by walk_at "NORMC"⟩, rfl, fun j hj => absurd hj (Nat.not_lt_zero j)⟩ (fun i m₁ nw hj => hj.2.1 ▸ hR8) ?turn ?done
  case turn =>
    intro I it i v m₁ nw h tk hv hj ho F1 N1
    obtain ⟨⟨vo, rfl⟩, rfl, hP⟩ := hj
    obtain ⟨y, rfl, hy⟩ := row_at hv
    obtain ⟨its, hym, hRS⟩ := hrow n k rfl i y hy
    have hym8 := hsub _ hym
    clear hgood hrow
    k_steps
    show JEnd _ _ _ _ _ _ _
    rename Fr _ _ _ _ => F9
    rename News _ _ _ _ => N9
    refine ⟨_, _, _, _, rfl, F9, N9, ho, ⟨some (.ref y), by walk_at "NORMC"⟩, rfl, fun j hj => ?_⟩
    rcases Nat.lt_succ_iff_lt_or_eq.mp hj with hj | rfl
    · exact hP j hj
    · exact hok
  case done =>
    intro m₁ nw h tk hj F1 N1
    obtain ⟨⟨vo, rfl⟩, rfl, hP⟩ := hj
    have hP8 : ∀ i, i < ri.length + 1 → P i := fun i hi => hP i (by simpa using hi)
    obtain ⟨tkh, lf, H, ps, D⟩ := hgood ⟨n, k, rfl⟩ hP8
    have hD8 := D.mono hsub
    have hR9 : (R, W.listOf ((ri ++ [rz]).map Value.ref).toArray nR) ∈ nw := by rw [List.map_append]; exact hR8
    have hmk8 := hmk hP8
    clear hgood hrow D hP hmk
    k_steps
    refine stopG ?_
    rename Fr _ _ _ _ => F2
    rename News _ _ _ _ => N2
    refine LCt.CompSrcT.ledger rfl F2 N2 hR8 ?size ?_
    case size => (simp only [List.size_toArray, List.length_append, List.length_map, List.length_singleton, sizeLine_eq]; omega)
    intro g8
    refine comp_inv _ (mkJ mkr nw) ?turn ?fin _ 0 [] nw (Nat.zero_add _) ⟨rfl, (fun _ h => nomatch h), by simp⟩
    case turn =>
      intro i ys nw' v I oI C oC D m₂ h tk E' hi hj hP hN hv F3 N3 off hne
      obtain ⟨rfl, hys, hany⟩ := hj
      obtain ⟨y, rfl, hy⟩ := row_at (by simpa using hP)
      obtain ⟨wd, kw, rest, hym, hmw, hmy⟩ := hmk8 i y hy
      have hym8 := hsub _ hym
      clear hmk8
      k_steps
      refine in_makers (X'.keeps F3.keep) ?_
      rw [hmw]
      cases hmc : mkr i
      · k_steps
        all_goals exact ⟨rfl, hys, by rw [List.range_succ, List.any_append]; simpa [hmc] using hany⟩
      · obtain ⟨k1, r1, rfl⟩ := hmy hmc
        k_steps
        all_goals exact ⟨rfl, (fun y hy => by
          rcases List.mem_append.mp hy with hy | hy
          · exact hys y hy
          · exact ⟨_, List.mem_singleton.mp hy⟩), by rw [List.range_succ, List.any_append]; simp [hmc]⟩
    case fin =>
      intro ys nw' hj
      obtain ⟨rfl, hys, hany⟩ := hj
      rw [show (List.map Value.ref ri ++ [Value.ref rz]).toArray.size = ri.length + 1 by simp] at hany
      clear hmk8
      rcases hc : (List.range (ri.length + 1)).any mkr with _ | _
      · rw [hc] at hin hany
        obtain rfl : ys = [] := by
          cases ys with
          | nil => rfl
          | cons a r => exact absurd (hany.mpr (by simp)) (by simp)
        cases wc1 <;> simp only [Bool.or_false, Bool.or_true, Bool.false_eq_true, if_false, if_true] at hin
        all_goals k_steps
        all_goals rename Fr _ _ _ _ => F9
        all_goals rename News _ _ _ _ => N9
        all_goals exact ret ⟨⟨_, _, rfl⟩, hP8, hok⟩ _ _ F9 (News.perm N9 (by walk_at "TAILS"))
      · rw [hc] at hin hany
        simp only [Bool.true_or, if_true] at hin
        obtain ⟨y1, r1, rfl⟩ : ∃ a r, ys = a :: r := by
          cases ys with
          | nil => exact absurd rfl (hany.mp rfl)
          | cons a r => exact ⟨a, r, rfl⟩
        obtain ⟨k1, rfl⟩ := hys y1 (.head _)
        have hys1 : ∀ y ∈ r1, ∃ k, y = Value.int 0 k := fun y hy => hys y (.tail _ hy)
        clear hys
        k_steps
        all_goals rename Fr _ _ _ _ => F9
        all_goals rename News _ _ _ _ => N9
        all_goals exact ret ⟨⟨_, _, rfl⟩, hP8, hok⟩ _ _ F9 (News.perm N9 (by walk_at "TAILS"))
end
end -- Q2
section -- Q3
open PySem PySem.W PyProof.Rows PySem.Calls
set_option maxRecDepth 100000
set_option maxHeartbeats 8000000
section
variable {w : World} {mean : ExcName → Option Value} {mg mb : Str → Option Value} {dp un : Nat} {gd : Option (List Code)} {cn : Str} {cs : Scope} {a : Addr} {ccd : Value} {cl : List (Str × Addr)} {outer : List Env} {A₀ : Around} {base h₀ : Heap} {L : Addr} {m : Str → Option Value} {news : List (Addr × Obj)} {s : Shared} {Q E : Value → Shared → Prop}
local macro_rules | `(tactic| walk_at "call ref") => `(tactic| k_extra "z90")
local macro_rules | `(tactic| walk_at "PAD") => `(tactic| skip)
theorem code_ok {nws : List (Addr × Obj)} {x R S : Addr} {pv : Value} {wc : Bool} {ok : Prop} (hx9 : CodeObj nws x R S pv wc) (hh9 : handedIn pv = true) (hin : PadSpec w nws x pv 40 ok)
    (hsub : ∀ p ∈ nws, p ∈ news) (B : Below A₀ base outer h₀) (F : Fr h₀ L s.heap m) (X : (KK w.params).In h₀) (N : News h₀ L s.heap news) (T : Top vw lo mean mg mb h₀) (hk : cs.kind = .function) (hroom : dp + 50 < recursionLimit) (hun : un + 500 < cLine)
  (ret : ok → ∀ h' tk', Fr h₀ L h' m → News h₀ L h' news → Q .none { s with heap := h', toks := tk' })
  (err : ¬ ok → ∀ x h' tk', Flew base h₀ (envX cn cs L a ccd cl :: outer) L m x h' → E x { s with heap := h', toks := tk' }) :
  wpAny (model PySem.Challenge.rw_qz0086_01.row.prog w) (ktrTop dp un gd cn cs L a ccd cl outer) (call (.ref 301) [.ref x]) Q E s := by
  replace hx9 := hx9.mono hsub
  revert X N T
  k_fill
  intro X N T
  refine wpAny_call ?_
  refine' code_def (binds := [(Str.ofString "code", .ref x)]) B F X N T rfl rfl hk ?k6 ?k7 ?k8 ?k9 ?kB ?_ ?c2 ?c3 ?c4 ?c5
  walk_at "ENTER"
  k_steps
  rename Fr _ _ _ _ => F9
  rename News _ _ _ _ => N9
  exact ret hok _ _ F9 N9
end
end -- Q3
end
end
section
local macro_rules | `(tactic| walk_at "TAILS") => `(tactic| k_extra "z71")
local macro_rules | `(tactic| walk_at "UNITS") => `(tactic| k_extra "z91")
local macro_rules | `(tactic| walk_at "subscriptTail") => `(tactic| k_extra "z92")
section -- L1
open PySem PySem.W PyProof.Rows PySem.Calls
set_option maxRecDepth 100000
set_option maxHeartbeats 8000000
section
variable {w : World} {mean : ExcName → Option Value} {mg mb : Str → Option Value} {dp un : Nat} {gd : Option (List Code)} {cn : Str} {cs : Scope} {a : Addr} {ccd : Value} {cl : List (Str × Addr)} {outer : List Env} {A₀ : Around} {base h₀ : Heap} {L : Addr} {m : Str → Option Value} {news : List (Addr × Obj)} {s : Shared} {Q E : Value → Shared → Prop}
noncomputable def ScoopPost (h₀ : Heap) (L : Addr) (m : Str → Option Value) (pail aS : Addr) (i many : Int) (np : Nat) (rest : List (Addr × Obj)) (s : Shared) (Q : Value → Shared → Prop) : Prop :=
  ∀ r tr t' h' tk', 0 ≤ r → r < many → Fr h₀ L h' m → News h₀ L h' ((pail, W.listOf [Value.ref aS, .int (i + 1) t'].toArray np) :: rest) → Q (.int r tr) { s with heap := h', toks := tk' }
set_option maxHeartbeats 400000 in
theorem scoop_ok {pail aS : Addr} {i many : Int} {t km : Tok} {np nv : Nat} {rest : List (Addr × Obj)} {vs : List Value} {ns : List Int} (hoff : ∀ p ∈ rest, p.1 ≠ pail) (hS : (aS, W.listOf vs.toArray nv) ∈ rest) (hI : IntsAre vs ns) (hl : vs.length ≤ 40) (h0 : 0 ≤ i) (h1 : i ≤ 60) (hm0 : 0 < many) (hm1 : many ≤ 20)
    (B : Below A₀ base outer h₀) (F : Fr h₀ L s.heap m) (X : (KK w.params).In h₀) (N : News h₀ L s.heap ((pail, W.listOf [Value.ref aS, .int i t].toArray np) :: rest)) (T : Top vw lo mean mg mb h₀) (hk : cs.kind = .function) (hroom : dp + 10 < recursionLimit)
    (ret : ScoopPost h₀ L m pail aS i many np rest s Q) :
  wpAny (model PySem.Challenge.rw_qz0086_01.row.prog w) (ktrTop dp un gd cn cs L a ccd cl outer) (call (.ref 323) [.ref pail, .int many km]) Q E s := by
  revert X N T
  k_fill
  intro X N T
  refine wpAny_call ?_
  refine' code_def (binds := [(Str.ofString "bin_of", .ref pail), (Str.ofString "many", .int many km)]) B F X N T rfl rfl hk ?k6 ?k7 ?k8 ?k9 ?kB ?_ ?c2 ?c3 ?c4 ?c5
  walk_at "ENTER"
  k_steps
  all_goals rename Fr _ _ _ _ => F9
  all_goals rename News _ _ _ _ => N9
  all_goals exact ret _ _ _ _ _ (Int.fmod_nonneg_of_pos _ hm0) (Int.fmod_lt_of_pos _ hm0) F9 N9
end
end -- L1
section -- L2
open PySem PySem.W PyProof.Rows PySem.Calls
set_option maxRecDepth 100000
set_option maxHeartbeats 8000000
section
variable {w : World} {mean : ExcName → Option Value} {mg mb : Str → Option Value} {dp un : Nat} {gd : Option (List Code)} {cn : Str} {cs : Scope} {a : Addr} {ccd : Value} {cl : List (Str × Addr)} {outer : List Env} {A₀ : Around} {base h₀ : Heap} {L : Addr} {m : Str → Option Value} {news : List (Addr × Obj)} {s : Shared} {Q E : Value → Shared → Prop}
theorem lt_ne {d : Nat} {l : List (Addr × Obj)} (h : ∀ p ∈ l, @LT.lt Nat _ p.1 d) : ∀ p ∈ l, @Ne Nat p.1 d := fun p hp => Nat.ne_of_lt (h p hp)
theorem allLt_mem {d : Nat} : ∀ {l : List (Addr × Obj)}, AllLt d l → ∀ p ∈ l, @Ne Nat p.1 d
  | [], _, _, h => nomatch h
  | _ :: _, x, p, h => by
    rcases List.mem_cons.mp h with rfl | h
    · exact Nat.ne_of_lt x.1
    · exact allLt_mem x.2 p h
inductive RowsIn (nw : List (Addr × Obj)) : List Addr → List (List Value) → Prop
  | nil : RowsIn nw [] []
  | cons {t : Addr} {its : List Value} {ts : List Addr} {itss : List (List Value)} : (t, tupOb its) ∈ nw → RowsIn nw ts itss → RowsIn nw (t :: ts) (its :: itss)
inductive RunRel (at' slot : Int) : List (List Value) → Prop
  | pad (k0 k1 k2 k3 : Tok) : RunRel at' slot [[.str (Str.ofString "pad") k0, .str (Str.ofString "S") k1, .int slot k2], [.str (Str.ofString "drop") k3]]
  | my (k0 k1 k2 k3 : Tok) : RunRel at' slot [[.str (Str.ofString "my") k0, .str (Str.ofString "A") k1, .int slot k2], [.str (Str.ofString "drop") k3]]
  | bind (k0 k1 k2 k3 : Tok) : RunRel at' slot [[.str (Str.ofString "const") k0, .int 1 k1], [.str (Str.ofString "bindpad") k2, .int slot k3]]
  | jump (k0 k1 : Tok) : RunRel at' slot [[.str (Str.ofString "jump") k0, .int (at' + 1) k1]]
  | iff (k0 k1 k2 k3 : Tok) : RunRel at' slot [[.str (Str.ofString "const") k0, .int 0 k1], [.str (Str.ofString "iffalse") k2, .int (at' + 2) k3]]
  | app (k0 k1 k2 k3 : Tok) : RunRel at' slot [[.str (Str.ofString "empty") k0], [.str (Str.ofString "append") k1, .int 1 k2], [.str (Str.ofString "drop") k3]]
  | clo (k0 k1 k2 : Tok) : RunRel at' slot [[.str (Str.ofString "closure") k0, .int 0 k1], [.str (Str.ofString "drop") k2]]
  | map (k0 k1 k2 k3 : Tok) : RunRel at' slot [[.str (Str.ofString "empty") k0], [.str (Str.ofString "map") k1, .int 0 k2], [.str (Str.ofString "drop") k3]]
  | byw (k0 k1 k2 k3 : Tok) : RunRel at' slot [[.str (Str.ofString "bywant") k0, .int (at' + 1) k1, .int (at' + 1) k2, .int (at' + 1) k3]]
  | sort (k0 k1 k2 k3 k4 : Tok) : RunRel at' slot [[.str (Str.ofString "empty") k0], [.str (Str.ofString "sort") k1, .int (slot - 1) k2, .str (Str.ofString "main") k3], [.str (Str.ofString "drop") k4]]
  | func (k0 k1 k2 k3 k4 : Tok) : RunRel at' slot [[.str (Str.ofString "func") k0, .str (Str.ofString "lc") k1, .int 0 k2, .int 1 k3], [.str (Str.ofString "drop") k4]]
theorem runEnd1 {at' slot : Int} {b t1 : Addr} {n tk' : Nat} {i1 : List Value} {h' : Heap} (rel : RunRel at' slot [i1]) (F : Fr h₀ L h' m) (N : News h₀ L h' ((b, W.listOf [Value.ref t1].toArray n) :: (t1, tupOb i1) :: news)) (o1 : ∀ p ∈ news, p.1 ≠ t1) (ob : ∀ p ∈ news, p.1 ≠ b)
    (ret : ∀ b n ts itss nw h' tk', RunRel at' slot itss → RowsIn nw ts itss → (b, W.listOf (ts.map Value.ref).toArray n) ∈ nw → (∀ q ∈ nw, ∀ p ∈ news, p.1 ≠ q.1) → Fr h₀ L h' m → News h₀ L h' (nw ++ news) → Q (.ref b) { s with heap := h', toks := tk' }) : Q (.ref b) { s with heap := h', toks := tk' } :=
  ret b n [t1] [i1] [(b, W.listOf [Value.ref t1].toArray n), (t1, tupOb i1)] h' tk' rel (RowsIn.cons (List.Mem.tail _ (List.Mem.head _)) (RowsIn.nil)) (.head _) (List.forall_mem_cons.mpr ⟨ob, List.forall_mem_cons.mpr ⟨o1, List.forall_mem_nil _⟩⟩) F N
theorem runEnd2 {at' slot : Int} {b t1 t2 : Addr} {n tk' : Nat} {i1 i2 : List Value} {h' : Heap} (rel : RunRel at' slot [i1, i2]) (F : Fr h₀ L h' m) (N : News h₀ L h' ((b, W.listOf [Value.ref t1, Value.ref t2].toArray n) :: (t2, tupOb i2) :: (t1, tupOb i1) :: news)) (o1 : ∀ p ∈ news, p.1 ≠ t1) (o2 : ∀ p ∈ news, p.1 ≠ t2) (ob : ∀ p ∈ news, p.1 ≠ b)
    (ret : ∀ b n ts itss nw h' tk', RunRel at' slot itss → RowsIn nw ts itss → (b, W.listOf (ts.map Value.ref).toArray n) ∈ nw → (∀ q ∈ nw, ∀ p ∈ news, p.1 ≠ q.1) → Fr h₀ L h' m → News h₀ L h' (nw ++ news) → Q (.ref b) { s with heap := h', toks := tk' }) : Q (.ref b) { s with heap := h', toks := tk' } :=
  ret b n [t1, t2] [i1, i2] [(b, W.listOf [Value.ref t1, Value.ref t2].toArray n), (t2, tupOb i2), (t1, tupOb i1)] h' tk' rel (RowsIn.cons (List.Mem.tail _ (List.Mem.tail _ (List.Mem.head _))) (RowsIn.cons (List.Mem.tail _ (List.Mem.head _)) (RowsIn.nil))) (.head _) (List.forall_mem_cons.mpr ⟨ob, List.forall_mem_cons.mpr ⟨o2, List.forall_mem_cons.mpr ⟨o1, List.forall_mem_nil _⟩⟩⟩) F N
theorem runEnd3 {at' slot : Int} {b t1 t2 t3 : Addr} {n tk' : Nat} {i1 i2 i3 : List Value} {h' : Heap} (rel : RunRel at' slot [i1, i2, i3]) (F : Fr h₀ L h' m) (N : News h₀ L h' ((b, W.listOf [Value.ref t1, Value.ref t2, Value.ref t3].toArray n) :: (t3, tupOb i3) :: (t2, tupOb i2) :: (t1, tupOb i1) :: news)) (o1 : ∀ p ∈ news, p.1 ≠ t1) (o2 : ∀ p ∈ news, p.1 ≠ t2) (o3 : ∀ p ∈ news, p.1 ≠ t3) (ob : ∀ p ∈ news, p.1 ≠ b)
    (ret : ∀ b n ts itss nw h' tk', RunRel at' slot itss → RowsIn nw ts itss → (b, W.listOf (ts.map Value.ref).toArray n) ∈ nw → (∀ q ∈ nw, ∀ p ∈ news, p.1 ≠ q.1) → Fr h₀ L h' m → News h₀ L h' (nw ++ news) → Q (.ref b) { s with heap := h', toks := tk' }) : Q (.ref b) { s with heap := h', toks := tk' } :=
  ret b n [t1, t2, t3] [i1, i2, i3] [(b, W.listOf [Value.ref t1, Value.ref t2, Value.ref t3].toArray n), (t3, tupOb i3), (t2, tupOb i2), (t1, tupOb i1)] h' tk' rel (RowsIn.cons (List.Mem.tail _ (List.Mem.tail _ (List.Mem.tail _ (List.Mem.head _)))) (RowsIn.cons (List.Mem.tail _ (List.Mem.tail _ (List.Mem.head _))) (RowsIn.cons (List.Mem.tail _ (List.Mem.head _)) (RowsIn.nil)))) (.head _) (List.forall_mem_cons.mpr ⟨ob, List.forall_mem_cons.mpr ⟨o3, List.forall_mem_cons.mpr ⟨o2, List.forall_mem_cons.mpr ⟨o1, List.forall_mem_nil _⟩⟩⟩⟩) F N
local macro_rules | `(tactic| walk_at "ALLZ") => `(tactic| k_extra "z93")
local macro_rules | `(tactic| walk_at "newTuple") => `(tactic| k_extra "z94")
local macro_rules | `(tactic| walk_at "newList") => `(tactic| k_extra "z95")
local macro_rules | `(tactic| walk_at "OFFN") => `(tactic| k_extra "z96")
local macro_rules | `(tactic| walk_at "RUNREL") => `(tactic| k_extra "z97")
set_option maxHeartbeats 1600000 in
theorem run_ok {way at' slot : Int} {kw ka ks : Tok} (h0 : 0 ≤ at') (h1 : at' ≤ 40) (h2 : 0 ≤ slot) (h3 : slot ≤ 2)
    (B : Below A₀ base outer h₀) (F : Fr h₀ L s.heap m) (X : (KK w.params).In h₀) (N : News h₀ L s.heap news) (T : Top vw lo mean mg mb h₀) (hk : cs.kind = .function) (hroom : dp + 10 < recursionLimit)
    (ret : ∀ b n ts itss nw h' tk', RunRel at' slot itss → RowsIn nw ts itss → (b, W.listOf (ts.map Value.ref).toArray n) ∈ nw → (∀ q ∈ nw, ∀ p ∈ news, p.1 ≠ q.1) → Fr h₀ L h' m → News h₀ L h' (nw ++ news) → Q (.ref b) { s with heap := h', toks := tk' }) :
  wpAny (model PySem.Challenge.rw_qz0086_01.row.prog w) (ktrTop dp un gd cn cs L a ccd cl outer) (call (.ref 330) [.int way kw, .int at' ka, .int slot ks]) Q E s := by
  revert X N T
  k_fill
  intro X N T
  refine wpAny_call ?_
  refine' code_def (binds := [(Str.ofString "way", .int way kw), (Str.ofString "at", .int at' ka), (Str.ofString "slot", .int slot ks)]) B F X N T rfl rfl hk ?k6 ?k7 ?k8 ?k9 ?kB ?_ ?c2 ?c3 ?c4 ?c5
  walk_at "ENTER"
  k_steps
  all_goals rename Fr _ _ _ _ => F9
  all_goals rename News _ _ _ _ => N9
  all_goals dsimp only at F9 N9
  all_goals first
    | (refine runEnd1 (n := 0) ?rel F9 N9 ?o1 ?ob ret; (case rel => walk_at "RUNREL"); (case o1 => walk_at "OFFN"); (case ob => walk_at "OFFN"))
    | (refine runEnd2 (n := 0) ?rel F9 N9 ?o1 ?o2 ?ob ret; (case rel => walk_at "RUNREL"); (case o1 => walk_at "OFFN"); (case o2 => walk_at "OFFN"); (case ob => walk_at "OFFN"))
    | (refine runEnd3 (n := 0) ?rel F9 N9 ?o1 ?o2 ?o3 ?ob ret; (case rel => walk_at "RUNREL"); (case o1 => walk_at "OFFN"); (case o2 => walk_at "OFFN"); (case o3 => walk_at "OFFN"); (case ob => walk_at "OFFN"))
    | fail "run end"
end
end -- L2
section -- L3
open PySem PySem.W PyProof.Rows PySem.Calls
set_option maxRecDepth 100000
set_option maxHeartbeats 8000000
section
variable {w : World} {mean : ExcName → Option Value} {mg mb : Str → Option Value} {dp un : Nat} {gd : Option (List Code)} {cn : Str} {cs : Scope} {a : Addr} {ccd : Value} {cl : List (Str × Addr)} {outer : List Env} {A₀ : Around} {base h₀ : Heap} {L : Addr} {m : Str → Option Value} {news : List (Addr × Obj)} {s : Shared} {Q E : Value → Shared → Prop}
set_option maxHeartbeats 400000 in
theorem whole_any {v : Value} (hv : IsI v ∨ OddV v)
    (B : Below A₀ base outer h₀) (F : Fr h₀ L s.heap m) (X : (KK w.params).In h₀) (N : News h₀ L s.heap news) (T : Top vw lo mean mg mb h₀) (hk : cs.kind = .function) (hroom : dp + 10 < recursionLimit)
    (yes : IsI v → ∀ h' tk', Fr h₀ L h' m → News h₀ L h' news → Q (.bool true) { s with heap := h', toks := tk' })
    (no : OddV v → ∀ h' tk', Fr h₀ L h' m → News h₀ L h' news → Q (.bool false) { s with heap := h', toks := tk' }) :
  wpAny (model PySem.Challenge.rw_qz0086_01.row.prog w) (ktrTop dp un gd cn cs L a ccd cl outer) (call (.ref 342) [v]) Q E s := by
  revert X N T
  k_fill
  intro X N T
  refine wpAny_call ?_
  refine' code_def (binds := [(Str.ofString "part", v)]) B F X N T rfl rfl hk ?k6 ?k7 ?k8 ?k9 ?kB ?_ ?c2 ?c3 ?c4 ?c5
  walk_at "ENTER"
  rcases hv with hv | hv
  · have yes' := yes hv
    clear yes no
    obtain ⟨n, k, rfl⟩ := hv
    k_steps
    exact yes' _ _ (by assumption) (by assumption)
  · have no' := no hv
    clear yes no
    rcases hv with rfl | ⟨x, k, rfl⟩ | rfl | rfl | rfl
    all_goals k_steps
    all_goals exact no' _ _ (by assumption) (by assumption)
end
end -- L3
section
local macro_rules | `(tactic| walk_at "exec For Name Name cons nil") => `(tactic| k_extra "z98")
section -- L4a
open PySem PySem.W PyProof.Rows PySem.Calls
set_option maxRecDepth 100000
set_option maxHeartbeats 8000000
section
variable {w : World} {mean : ExcName → Option Value} {mg mb : Str → Option Value} {dp un : Nat} {gd : Option (List Code)} {cn : Str} {cs : Scope} {a : Addr} {ccd : Value} {cl : List (Str × Addr)} {outer : List Env} {A₀ : Around} {base h₀ : Heap} {L : Addr} {m : Str → Option Value} {news : List (Addr × Obj)} {s : Shared} {Q E : Value → Shared → Prop}
local macro_rules | `(tactic| walk_at "pyIter ref") => `(tactic| k_extra "z70")
local macro_rules | `(tactic| walk_at "call ref") => `(tactic| k_extra "z99")
local macro_rules | `(tactic| walk_at "PYES") => `(tactic| k_extra "z100")
local macro_rules | `(tactic| walk_at "PNO") => `(tactic| k_extra "z101")
local macro_rules | `(tactic| walk_at "PERM") => `(tactic| k_extra "z102")
inductive RowG (i : Nat) : List Value → (Int → Int → Prop) → Prop
  | drop (k : Tok) : RowG i [.str (Str.ofString "drop") k] (fun _ _ => True)
  | const (k : Tok) (n : Int) (k1 : Tok) : RowG i [.str (Str.ofString "const") k, .int n k1] (fun _ _ => True)
  | empty (k : Tok) : RowG i [.str (Str.ofString "empty") k] (fun _ _ => True)
  | ret0 (k : Tok) : RowG i [.str (Str.ofString "return0") k] (fun _ _ => True)
  | ret1 (k : Tok) : RowG i [.str (Str.ofString "return1") k] (fun _ _ => True)
  | pad (k0 k1 : Tok) (v : Value) (h : IsI v ∨ OddV v) : RowG i [.str (Str.ofString "pad") k0, .str (Str.ofString "S") k1, v] (fun p _ => ∃ n k, v = .int n k ∧ 0 ≤ n ∧ n < p)
  | my (k0 k1 : Tok) (v : Value) (h : IsI v ∨ OddV v) : RowG i [.str (Str.ofString "my") k0, .str (Str.ofString "A") k1, v] (fun p _ => ∃ n k, v = .int n k ∧ 0 ≤ n ∧ n < p)
  | bind (k0 : Tok) (v : Value) (h : IsI v ∨ OddV v) : RowG i [.str (Str.ofString "bindpad") k0, v] (fun p _ => ∃ n k, v = .int n k ∧ 0 ≤ n ∧ n < p)
  | jump (k0 : Tok) (v : Value) (h : IsI v ∨ OddV v) (hv : ∀ n k, v = .int n k → n = (i : Int) + 1) : RowG i [.str (Str.ofString "jump") k0, v] (fun _ _ => IsI v)
  | iff (k0 : Tok) (v : Value) (h : IsI v ∨ OddV v) (hv : ∀ n k, v = .int n k → n = (i : Int) + 1) : RowG i [.str (Str.ofString "iffalse") k0, v] (fun _ _ => IsI v)
  | app (k0 : Tok) (v : Value) (h : IsI v ∨ OddV v) (hv : ∀ n k, v = .int n k → n = 1) : RowG i [.str (Str.ofString "append") k0, v] (fun _ _ => IsI v)
  | clo (k0 : Tok) (v : Value) (h : IsI v ∨ OddV v) (hv : ∀ n k, v = .int n k → n = 0) : RowG i [.str (Str.ofString "closure") k0, v] (fun _ q => ∃ n k, v = .int n k ∧ 0 ≤ n ∧ n < q)
  | map (k0 : Tok) (v : Value) (h : IsI v ∨ OddV v) (hv : ∀ n k, v = .int n k → n = 0) : RowG i [.str (Str.ofString "map") k0, v] (fun _ q => ∃ n k, v = .int n k ∧ 0 ≤ n ∧ n < q)
  | byw (k0 : Tok) (v1 v2 v3 : Value) (h1 : IsI v1 ∨ OddV v1) (h2 : IsI v2 ∨ OddV v2) (h3 : IsI v3 ∨ OddV v3) (hv1 : ∀ n k, v1 = .int n k → n = (i : Int) + 1) (hv2 : ∀ n k, v2 = .int n k → n = (i : Int) + 1) (hv3 : ∀ n k, v3 = .int n k → n = (i : Int) + 1) :
      RowG i [.str (Str.ofString "bywant") k0, v1, v2, v3] (fun _ _ => IsI v1 ∧ IsI v2 ∧ IsI v3)
  | sort (k0 : Tok) (v : Value) (k2 : Tok) (h : IsI v ∨ OddV v) : RowG i [.str (Str.ofString "sort") k0, v, .str (Str.ofString "main") k2] (fun _ q => ∃ n k, v = .int n k ∧ n < q)
  | func (k0 k1 : Tok) (v1 v2 : Value) (h1 : IsI v1 ∨ OddV v1) (h2 : IsI v2 ∨ OddV v2) (hv1 : ∀ n k, v1 = .int n k → n = 0) (hv2 : ∀ n k, v2 = .int n k → n = 1) :
      RowG i [.str (Str.ofString "func") k0, .str (Str.ofString "lc") k1, v1, v2] (fun _ _ => IsI v1 ∧ IsI v2)
noncomputable def lMap (R : Addr) (pad : Int) (kp : Tok) (many : Int) (km : Tok) (vo vp : Option Value) : Str → Option Value := fun y =>
  if y = Str.ofString "place" then vp else if y = Str.ofString "op" then vo else List.lookup y [(Str.ofString "rows", .ref R), (Str.ofString "pad_size", .int pad kp), (Str.ofString "many", .int many km)].reverse
theorem rs_at {rs : List Addr} {i : Nat} {v : Value} (h : (rs.map Value.ref)[i]? = some v) : ∃ y, v = .ref y ∧ rs[i]? = some y := by
  rw [List.getElem?_map] at h
  cases q : rs[i]? with
  | none => rw [q] at h; cases h
  | some y => rw [q] at h; exact ⟨y, (Option.some.inj h).symm, rfl⟩
local macro_rules | `(tactic| walk_at "NORML") => `(tactic| k_extra "z103")
noncomputable def forB : Stmt → List Stmt
  | .For _ _ b .. => b
  | _ => []
noncomputable def placeB : List Stmt := forB (nth (forB (nth (fdB (st 33)) 0)) 0)
theorem iter_topJ {A : Around} {prog : Program} {env : Env} {x : Str} {body : List Stmt} {Q : Flow → Shared → Prop} {E : Value → Shared → Prop} {l : Addr} {vs : List Value} {ns : List Int} {m₀ : Str → Option Value} (J : Nat → (Str → Option Value) → Prop)
    (hh : A.handled = none) (hl : h₀.IsList l vs.toArray) (hi : IntsAre vs ns) (F : Fr h₀ env.locals s.heap m₀) (N : News h₀ env.locals s.heap news) (hj : J 0 m₀)
    (turn : ∀ i n t m₁ h tk nw, ns[i]? = some n → J i m₁ → (∀ p ∈ news, p ∈ nw) → Fr h₀ env.locals h (fun y => if y = x then some (.int n t) else m₁ y) → News h₀ env.locals h nw →
      wpAny (model prog w) A (execs body env) (InvPost h₀ env.locals (J (i + 1)) nw { s with heap := h, toks := tk } Q) E { s with heap := h, toks := tk })
    (done : ∀ m₁ h tk, J ns.length m₁ → Fr h₀ env.locals h m₁ → News h₀ env.locals h news → Q .next { s with heap := h, toks := tk }) :
    wpAny (model prog w) A (pyIter (.ref l)) (fun it s₂ => LoopAtV prog w A h₀ env x body Q E it s₂) E s :=
  iter_inv J hh hl hi F N hj (fun i n t m₁ h tk own hn hJ F₁ N₁ => turn i n t m₁ h tk (own ++ news) hn hJ (fun p hp => List.mem_append.mpr (.inr hp)) F₁ N₁) done
noncomputable def pJ (its : List Value) (ns : List Int) (R : Addr) (pad : Int) (kp : Tok) (many : Int) (km : Tok) (y : Addr) (i : Nat) (m₁ : Str → Option Value) : Prop :=
  (∃ vp, m₁ = lMap R pad kp many km (some (.ref y)) vp) ∧ ∀ j, j < i → ∀ p, ns[j]? = some p → ∃ x, its[p.toNat]? = some x ∧ IsI x
local macro_rules | `(tactic| walk_at "subscriptTail") => `(tactic| k_extra "z104")
set_option maxHeartbeats 1000000 in
theorem places_ok {E : Value → Shared → Prop} {Q : Flow → Shared → Prop} {al R y : Addr} {pad many : Int} {kp km : Tok} {vs its : List Value} {ns : List Int} {n0 : Nat} {vp : Option Value} (hl : (KK w.params).lookup al = some ⟨.type "list", none, .seq vs.toArray n0, #[]⟩) (hi : IntsAre vs ns) (hy : (y, tupOb its) ∈ news)
    (hpl : ∀ p, p ∈ ns → 0 ≤ p ∧ p ≤ 3 ∧ ∃ x, its[p.toNat]? = some x ∧ (IsI x ∨ OddV x))
    (B : Below A₀ base outer h₀) (F : Fr h₀ L s.heap (lMap R pad kp many km (some (.ref y)) vp)) (X : (KK w.params).In h₀) (N : News h₀ L s.heap news) (T : Top vw lo mean mg mb h₀) (hroom : dp + 20 < recursionLimit)
    (yes : (∀ p, p ∈ ns → ∃ x, its[p.toNat]? = some x ∧ IsI x) → ∀ vp h' tk', Fr h₀ L h' (lMap R pad kp many km (some (.ref y)) vp) → News h₀ L h' news → Q .next { s with heap := h', toks := tk' })
    (no : (∃ p, p ∈ ns ∧ ∃ x, its[p.toNat]? = some x ∧ OddV x) → ∀ vp h' tk', Fr h₀ L h' (lMap R pad kp many km (some (.ref y)) vp) → News h₀ L h' news → Q (.ret (.bool false)) { s with heap := h', toks := tk' }) :
  wpAny (model PySem.Challenge.rw_qz0086_01.row.prog w) (ktrTop dp un gd (Str.ofString "_law_is_let") (fdS (st 33)) L 349 (.ref 348) [] outer) (pyIter (.ref al))
    (fun it s₂ => LoopAtV PySem.Challenge.rw_qz0086_01.row.prog w (ktrTop dp un gd (Str.ofString "_law_is_let") (fdS (st 33)) L 349 (.ref 348) [] outer) h₀ (envOf (Str.ofString "_law_is_let") (fdS (st 33)) L 349 (.ref 348)) (Str.ofString "place") placeB Q E it s₂) E s := by
  revert X N T
  k_fill
  intro X N T
  refine iter_topJ (pJ its ns R pad kp many km y) rfl (lstK X hl) hi F N ⟨⟨vp, rfl⟩, fun j hj => absurd hj (Nat.not_lt_zero j)⟩ ?turn ?done
  case turn =>
    intro i n t m₁ h tk nw hn hj hsub F1 N1
    obtain ⟨⟨vp, rfl⟩, hP⟩ := hj
    obtain ⟨hn0, hn3, x, hx, hv⟩ := hpl n (List.mem_of_getElem? hn)
    have hy8 := hsub _ hy
    have hxl : n.toNat < its.length := (List.getElem?_eq_some_iff.mp hx).1
    have hidx : seqIndex? n its.length = some n.toNat := by unfold seqIndex?; simp; omega
    unfold placeB
    (conv in forB _ => whnf)
    k_steps
    · rename Fr _ _ _ _ => F9
      rename News _ _ _ _ => N9
      refine InvEnd.intro F9 N9 (fun p hp => hp) ⟨⟨some (.int n t), by walk_at "NORML"⟩, fun j hj p hp => ?_⟩
      rcases Nat.lt_succ_iff_lt_or_eq.mp hj with hj | rfl
      · exact hP j hj p hp
      · obtain rfl : n = p := Option.some.inj (hn.symm.trans hp)
        exact ⟨_, hx, _, _, rfl⟩
    · rename Fr _ _ _ _ => F9
      rename News _ _ _ _ => N9
      have N8 : News h₀ L _ news := fun p hp => N9 p (hsub p hp)
      refine no ⟨n, List.mem_of_getElem? hn, x, hx, hwv⟩ (some (.int n t)) _ _ ?_ N8
      have e : (fun y_1 => if y_1 = Str.ofString "place" then some (Value.int n t) else lMap R pad kp many km (some (.ref y)) vp y_1) = lMap R pad kp many km (some (.ref y)) (some (.int n t)) := by walk_at "NORML"
      rw [← e]
      exact F9
  case done =>
    intro m₁ h tk hj F1 N1
    obtain ⟨⟨vp, rfl⟩, hP⟩ := hj
    exact yes (fun p hp => by
      obtain ⟨j, hj, e⟩ := List.getElem_of_mem hp
      exact hP j hj p (by rw [List.getElem?_eq_getElem hj, e])) _ _ _ F1 N1
end
end -- L4a
section -- L4
open PySem PySem.W PyProof.Rows PySem.Calls
set_option maxRecDepth 100000
set_option maxHeartbeats 8000000
section
variable {w : World} {mean : ExcName → Option Value} {mg mb : Str → Option Value} {dp un : Nat} {gd : Option (List Code)} {cn : Str} {cs : Scope} {a : Addr} {ccd : Value} {cl : List (Str × Addr)} {outer : List Env} {A₀ : Around} {base h₀ : Heap} {L : Addr} {m : Str → Option Value} {news : List (Addr × Obj)} {s : Shared} {Q E : Value → Shared → Prop}
local macro_rules | `(tactic| walk_at "pyIter ref") => `(tactic| k_extra "z105")
local macro_rules | `(tactic| walk_at "call ref") => `(tactic| k_extra "z99")
local macro_rules | `(tactic| walk_at "PYES") => `(tactic| k_extra "z100")
local macro_rules | `(tactic| walk_at "PNO") => `(tactic| k_extra "z101")
local macro_rules | `(tactic| walk_at "PERM") => `(tactic| k_extra "z102")
local macro_rules | `(tactic| walk_at "NORML") => `(tactic| k_extra "z103")
local macro_rules | `(tactic| walk_at "subscriptTail") => `(tactic| k_extra "z106")
theorem idxm1 (n : Nat) : seqIndex? (-1) (n + 1) = some n := by unfold seqIndex?; simp; omega
theorem ofAt {its : List Value} {p : Int} {v : Value} (e : its[p.toNat]? = some v) (h : ∃ x, its[p.toNat]? = some x ∧ IsI x) : IsI v := by
  obtain ⟨x, e', hI⟩ := h
  rw [e] at e'
  exact Option.some.inj e' ▸ hI
theorem noAt {its : List Value} {ns : List Int} (h : ∃ p, p ∈ ns ∧ ∃ x, its[p.toNat]? = some x ∧ OddV x) : ¬ ∀ p, p ∈ ns → ∃ x, its[p.toNat]? = some x ∧ IsI x := fun a => by
  obtain ⟨p, hp, x, e, ho⟩ := h
  exact odd_int ho (ofAt e (a p hp))
local macro_rules | `(tactic| walk_at "PAD") => `(tactic| skip)
set_option maxHeartbeats 8000000 in
theorem is_let_ok {R : Addr} {rs : List Addr} {nR : Nat} {pad many : Int} {kp km : Tok} {P : Nat → Prop} (hR : (R, W.listOf (rs.map Value.ref).toArray nR) ∈ news)
    (hrow : ∀ i y, rs[i]? = some y → ∃ its ok, (y, tupOb its) ∈ news ∧ RowG i its ok ∧ (ok pad many ↔ P i))
    (B : Below A₀ base outer h₀) (F : Fr h₀ L s.heap m) (X : (KK w.params).In h₀) (N : News h₀ L s.heap news) (T : Top vw lo mean mg mb h₀) (hk : cs.kind = .function) (hroom : dp + 30 < recursionLimit)
    (yes : (∀ i, i < rs.length → P i) → ∀ h' tk', Fr h₀ L h' m → News h₀ L h' news → Q (.bool true) { s with heap := h', toks := tk' })
    (no : (∃ i, i < rs.length ∧ ¬ P i) → ∀ h' tk', Fr h₀ L h' m → News h₀ L h' news → Q (.bool false) { s with heap := h', toks := tk' }) :
  wpAny (model PySem.Challenge.rw_qz0086_01.row.prog w) (ktrTop dp un gd cn cs L a ccd cl outer) (call (.ref 349) [.ref R, .int pad kp, .int many km]) Q E s := by
  revert X N T
  k_fill
  intro X N T
  refine wpAny_call ?_
  refine' code_def (binds := [(Str.ofString "rows", .ref R), (Str.ofString "pad_size", .int pad kp), (Str.ofString "many", .int many km)]) B F X N T rfl rfl hk ?k6 ?k7 ?k8 ?k9 ?kB ?_ ?c2 ?c3 ?c4 ?c5
  walk_at "ENTER"
  k_steps
  refine stopG ?_
  rename Fr _ _ _ _ => F2
  rename News _ _ _ _ => N2
  refine iter_lofJ (fun i m₁ nw => (∃ vo vp, m₁ = lMap R pad kp many km vo vp) ∧ nw = news ∧ ∀ j, j < i → P j) rfl F2 N2 hR rfl rfl ⟨⟨none, none, by walk_at "NORML"⟩, rfl, fun j hj => absurd hj (Nat.not_lt_zero j)⟩ (fun i m₁ nw hj => hj.2.1 ▸ hR) ?turn ?done
  case turn =>
    intro I it i v m₁ nw h tk hv hj ho F1 N1
    obtain ⟨⟨vo, vp, rfl⟩, rfl, hP⟩ := hj
    obtain ⟨y, rfl, hy⟩ := rs_at hv
    obtain ⟨its, ok, hym, hg, hok⟩ := hrow i y hy
    have hi9 : i < rs.length := (List.getElem?_eq_some_iff.mp hy).1
    clear hrow yes
    have F8 : Fr g' L' h (lMap R pad kp many km (some (.ref y)) vp) := by
      have e : (fun y_1 => if y_1 = Str.ofString "op" then some (Value.ref y) else lMap R pad kp many km vo vp y_1) = lMap R pad kp many km (some (.ref y)) vp := by walk_at "NORML"
      rw [← e]
      exact F1
    clear F1
    cases hg with
    | drop k =>
      (try dsimp only at hok)
      k_steps
      all_goals (try dsimp only [JPost])
      all_goals k_steps
      rename Fr _ _ _ _ => F9
      rename News _ _ _ _ => N9
      first
        | (show JEnd _ _ _ _ _ _ _
           refine ⟨_, _, _, nw, rfl, F9, News.perm N9 (by walk_at "PERM"), ho, ⟨_, _, by walk_at "NORML"⟩, rfl, fun j hj => ?_⟩
           rcases Nat.lt_succ_iff_lt_or_eq.mp hj with hj | rfl
           · exact hP j hj
           · walk_at "PYES")
        | (show Q _ _
           exact no ⟨i, hi9, by walk_at "PNO"⟩ _ _ F9 (News.perm N9 (by walk_at "TAILS")))
    | const k n k1 =>
      (try dsimp only at hok)
      k_steps
      all_goals (try dsimp only [JPost])
      all_goals k_steps
      rename Fr _ _ _ _ => F9
      rename News _ _ _ _ => N9
      first
        | (show JEnd _ _ _ _ _ _ _
           refine ⟨_, _, _, nw, rfl, F9, News.perm N9 (by walk_at "PERM"), ho, ⟨_, _, by walk_at "NORML"⟩, rfl, fun j hj => ?_⟩
           rcases Nat.lt_succ_iff_lt_or_eq.mp hj with hj | rfl
           · exact hP j hj
           · walk_at "PYES")
        | (show Q _ _
           exact no ⟨i, hi9, by walk_at "PNO"⟩ _ _ F9 (News.perm N9 (by walk_at "TAILS")))
    | empty k =>
      (try dsimp only at hok)
      k_steps
      all_goals (try dsimp only [JPost])
      all_goals k_steps
      rename Fr _ _ _ _ => F9
      rename News _ _ _ _ => N9
      first
        | (show JEnd _ _ _ _ _ _ _
           refine ⟨_, _, _, nw, rfl, F9, News.perm N9 (by walk_at "PERM"), ho, ⟨_, _, by walk_at "NORML"⟩, rfl, fun j hj => ?_⟩
           rcases Nat.lt_succ_iff_lt_or_eq.mp hj with hj | rfl
           · exact hP j hj
           · walk_at "PYES")
        | (show Q _ _
           exact no ⟨i, hi9, by walk_at "PNO"⟩ _ _ F9 (News.perm N9 (by walk_at "TAILS")))
    | ret0 k =>
      (try dsimp only at hok)
      k_steps
      all_goals (try dsimp only [JPost])
      all_goals k_steps
      rename Fr _ _ _ _ => F9
      rename News _ _ _ _ => N9
      first
        | (show JEnd _ _ _ _ _ _ _
           refine ⟨_, _, _, nw, rfl, F9, News.perm N9 (by walk_at "PERM"), ho, ⟨_, _, by walk_at "NORML"⟩, rfl, fun j hj => ?_⟩
           rcases Nat.lt_succ_iff_lt_or_eq.mp hj with hj | rfl
           · exact hP j hj
           · walk_at "PYES")
        | (show Q _ _
           exact no ⟨i, hi9, by walk_at "PNO"⟩ _ _ F9 (News.perm N9 (by walk_at "TAILS")))
    | ret1 k =>
      (try dsimp only at hok)
      k_steps
      all_goals (try dsimp only [JPost])
      all_goals k_steps
      rename Fr _ _ _ _ => F9
      rename News _ _ _ _ => N9
      first
        | (show JEnd _ _ _ _ _ _ _
           refine ⟨_, _, _, nw, rfl, F9, News.perm N9 (by walk_at "PERM"), ho, ⟨_, _, by walk_at "NORML"⟩, rfl, fun j hj => ?_⟩
           rcases Nat.lt_succ_iff_lt_or_eq.mp hj with hj | rfl
           · exact hP j hj
           · walk_at "PYES")
        | (show Q _ _
           exact no ⟨i, hi9, by walk_at "PNO"⟩ _ _ F9 (News.perm N9 (by walk_at "TAILS")))
    | pad k0 k1 v hh =>
      (try dsimp only at hok)
      k_steps
      refine stopG ?_
      refine' places_ok (ns := [2]) ?hl ?hi ?hy ?hpl B' ?F X' ?N T' ?r ?yes ?no
      case hl => k_is
      case hi => repeat' constructor
      case F => k_asm
      case N => k_asm
      case hy => walk_at "MEM"
      case hpl => exact List.forall_mem_cons.mpr ⟨⟨by decide, by decide, _, rfl, hh⟩, List.forall_mem_nil _⟩
      case r => k_room
      case yes =>
        intro hall vp8 h8 tk8 F9 N9
        obtain ⟨n0, m0, rfl⟩ : IsI v := ofAt rfl (hall _ (List.Mem.head _))
        clear hall
        k_steps
        all_goals (try dsimp only [JPost])
        all_goals k_steps
        all_goals
          rename Fr _ _ _ _ => F9
          rename News _ _ _ _ => N9
          first
            | (show JEnd _ _ _ _ _ _ _
               refine ⟨_, _, _, nw, rfl, F9, News.perm N9 (by walk_at "PERM"), ho, ⟨_, _, by walk_at "NORML"⟩, rfl, fun j hj => ?_⟩
               rcases Nat.lt_succ_iff_lt_or_eq.mp hj with hj | rfl
               · exact hP j hj
               · walk_at "PYES")
            | (show Q _ _
               exact no ⟨i, hi9, by walk_at "PNO"⟩ _ _ F9 (News.perm N9 (by walk_at "TAILS")))

      case no =>
        intro hodd vp8 h8 tk8 F9 N9
        dsimp only [JPost]
        k_steps
        rename Fr _ _ _ _ => F9
        rename News _ _ _ _ => N9
        exact no ⟨i, hi9, fun hp => noAt hodd (by
          have hq := hok.mpr hp
          exact List.forall_mem_cons.mpr ⟨⟨_, rfl, ⟨_, _, hq.choose_spec.choose_spec.1⟩⟩, List.forall_mem_nil _⟩)⟩ _ _ F9 (News.perm N9 (by walk_at "TAILS"))
    | my k0 k1 v hh =>
      (try dsimp only at hok)
      k_steps
      refine stopG ?_
      refine' places_ok (ns := [2]) ?hl ?hi ?hy ?hpl B' ?F X' ?N T' ?r ?yes ?no
      case hl => k_is
      case hi => repeat' constructor
      case F => k_asm
      case N => k_asm
      case hy => walk_at "MEM"
      case hpl => exact List.forall_mem_cons.mpr ⟨⟨by decide, by decide, _, rfl, hh⟩, List.forall_mem_nil _⟩
      case r => k_room
      case yes =>
        intro hall vp8 h8 tk8 F9 N9
        obtain ⟨n0, m0, rfl⟩ : IsI v := ofAt rfl (hall _ (List.Mem.head _))
        clear hall
        k_steps
        all_goals (try dsimp only [JPost])
        all_goals k_steps
        all_goals
          rename Fr _ _ _ _ => F9
          rename News _ _ _ _ => N9
          first
            | (show JEnd _ _ _ _ _ _ _
               refine ⟨_, _, _, nw, rfl, F9, News.perm N9 (by walk_at "PERM"), ho, ⟨_, _, by walk_at "NORML"⟩, rfl, fun j hj => ?_⟩
               rcases Nat.lt_succ_iff_lt_or_eq.mp hj with hj | rfl
               · exact hP j hj
               · walk_at "PYES")
            | (show Q _ _
               exact no ⟨i, hi9, by walk_at "PNO"⟩ _ _ F9 (News.perm N9 (by walk_at "TAILS")))

      case no =>
        intro hodd vp8 h8 tk8 F9 N9
        dsimp only [JPost]
        k_steps
        rename Fr _ _ _ _ => F9
        rename News _ _ _ _ => N9
        exact no ⟨i, hi9, fun hp => noAt hodd (by
          have hq := hok.mpr hp
          exact List.forall_mem_cons.mpr ⟨⟨_, rfl, ⟨_, _, hq.choose_spec.choose_spec.1⟩⟩, List.forall_mem_nil _⟩)⟩ _ _ F9 (News.perm N9 (by walk_at "TAILS"))
    | bind k0 v hh =>
      (try dsimp only at hok)
      k_steps
      refine stopG ?_
      refine' places_ok (ns := [1]) ?hl ?hi ?hy ?hpl B' ?F X' ?N T' ?r ?yes ?no
      case hl => k_is
      case hi => repeat' constructor
      case F => k_asm
      case N => k_asm
      case hy => walk_at "MEM"
      case hpl => exact List.forall_mem_cons.mpr ⟨⟨by decide, by decide, _, rfl, hh⟩, List.forall_mem_nil _⟩
      case r => k_room
      case yes =>
        intro hall vp8 h8 tk8 F9 N9
        obtain ⟨n0, m0, rfl⟩ : IsI v := ofAt rfl (hall _ (List.Mem.head _))
        clear hall
        k_steps
        all_goals (try dsimp only [JPost])
        all_goals k_steps
        all_goals
          rename Fr _ _ _ _ => F9
          rename News _ _ _ _ => N9
          first
            | (show JEnd _ _ _ _ _ _ _
               refine ⟨_, _, _, nw, rfl, F9, News.perm N9 (by walk_at "PERM"), ho, ⟨_, _, by walk_at "NORML"⟩, rfl, fun j hj => ?_⟩
               rcases Nat.lt_succ_iff_lt_or_eq.mp hj with hj | rfl
               · exact hP j hj
               · walk_at "PYES")
            | (show Q _ _
               exact no ⟨i, hi9, by walk_at "PNO"⟩ _ _ F9 (News.perm N9 (by walk_at "TAILS")))

      case no =>
        intro hodd vp8 h8 tk8 F9 N9
        dsimp only [JPost]
        k_steps
        rename Fr _ _ _ _ => F9
        rename News _ _ _ _ => N9
        exact no ⟨i, hi9, fun hp => noAt hodd (by
          have hq := hok.mpr hp
          exact List.forall_mem_cons.mpr ⟨⟨_, rfl, ⟨_, _, hq.choose_spec.choose_spec.1⟩⟩, List.forall_mem_nil _⟩)⟩ _ _ F9 (News.perm N9 (by walk_at "TAILS"))
    | jump k0 v hh hv =>
      (try dsimp only at hok)
      k_steps
      refine stopG ?_
      refine' places_ok (ns := [1]) ?hl ?hi ?hy ?hpl B' ?F X' ?N T' ?r ?yes ?no
      case hl => k_is
      case hi => repeat' constructor
      case F => k_asm
      case N => k_asm
      case hy => walk_at "MEM"
      case hpl => exact List.forall_mem_cons.mpr ⟨⟨by decide, by decide, _, rfl, hh⟩, List.forall_mem_nil _⟩
      case r => k_room
      case yes =>
        intro hall vp8 h8 tk8 F9 N9
        obtain ⟨n0, m0, rfl⟩ : IsI v := ofAt rfl (hall _ (List.Mem.head _))
        clear hall
        k_steps
        all_goals (try dsimp only [JPost])
        all_goals k_steps
        all_goals
          rename Fr _ _ _ _ => F9
          rename News _ _ _ _ => N9
          first
            | (show JEnd _ _ _ _ _ _ _
               refine ⟨_, _, _, nw, rfl, F9, News.perm N9 (by walk_at "PERM"), ho, ⟨_, _, by walk_at "NORML"⟩, rfl, fun j hj => ?_⟩
               rcases Nat.lt_succ_iff_lt_or_eq.mp hj with hj | rfl
               · exact hP j hj
               · walk_at "PYES")
            | (show Q _ _
               exact no ⟨i, hi9, by walk_at "PNO"⟩ _ _ F9 (News.perm N9 (by walk_at "TAILS")))

      case no =>
        intro hodd vp8 h8 tk8 F9 N9
        dsimp only [JPost]
        k_steps
        rename Fr _ _ _ _ => F9
        rename News _ _ _ _ => N9
        exact no ⟨i, hi9, fun hp => noAt hodd (by
          have hq := hok.mpr hp
          exact List.forall_mem_cons.mpr ⟨⟨_, rfl, hq⟩, List.forall_mem_nil _⟩)⟩ _ _ F9 (News.perm N9 (by walk_at "TAILS"))
    | iff k0 v hh hv =>
      (try dsimp only at hok)
      k_steps
      refine stopG ?_
      refine' places_ok (ns := [1]) ?hl ?hi ?hy ?hpl B' ?F X' ?N T' ?r ?yes ?no
      case hl => k_is
      case hi => repeat' constructor
      case F => k_asm
      case N => k_asm
      case hy => walk_at "MEM"
      case hpl => exact List.forall_mem_cons.mpr ⟨⟨by decide, by decide, _, rfl, hh⟩, List.forall_mem_nil _⟩
      case r => k_room
      case yes =>
        intro hall vp8 h8 tk8 F9 N9
        obtain ⟨n0, m0, rfl⟩ : IsI v := ofAt rfl (hall _ (List.Mem.head _))
        clear hall
        k_steps
        all_goals (try dsimp only [JPost])
        all_goals k_steps
        all_goals
          rename Fr _ _ _ _ => F9
          rename News _ _ _ _ => N9
          first
            | (show JEnd _ _ _ _ _ _ _
               refine ⟨_, _, _, nw, rfl, F9, News.perm N9 (by walk_at "PERM"), ho, ⟨_, _, by walk_at "NORML"⟩, rfl, fun j hj => ?_⟩
               rcases Nat.lt_succ_iff_lt_or_eq.mp hj with hj | rfl
               · exact hP j hj
               · walk_at "PYES")
            | (show Q _ _
               exact no ⟨i, hi9, by walk_at "PNO"⟩ _ _ F9 (News.perm N9 (by walk_at "TAILS")))

      case no =>
        intro hodd vp8 h8 tk8 F9 N9
        dsimp only [JPost]
        k_steps
        rename Fr _ _ _ _ => F9
        rename News _ _ _ _ => N9
        exact no ⟨i, hi9, fun hp => noAt hodd (by
          have hq := hok.mpr hp
          exact List.forall_mem_cons.mpr ⟨⟨_, rfl, hq⟩, List.forall_mem_nil _⟩)⟩ _ _ F9 (News.perm N9 (by walk_at "TAILS"))
    | app k0 v hh hv =>
      (try dsimp only at hok)
      k_steps
      refine stopG ?_
      refine' places_ok (ns := [1]) ?hl ?hi ?hy ?hpl B' ?F X' ?N T' ?r ?yes ?no
      case hl => k_is
      case hi => repeat' constructor
      case F => k_asm
      case N => k_asm
      case hy => walk_at "MEM"
      case hpl => exact List.forall_mem_cons.mpr ⟨⟨by decide, by decide, _, rfl, hh⟩, List.forall_mem_nil _⟩
      case r => k_room
      case yes =>
        intro hall vp8 h8 tk8 F9 N9
        obtain ⟨n0, m0, rfl⟩ : IsI v := ofAt rfl (hall _ (List.Mem.head _))
        clear hall
        k_steps
        all_goals (try dsimp only [JPost])
        all_goals k_steps
        all_goals
          rename Fr _ _ _ _ => F9
          rename News _ _ _ _ => N9
          first
            | (show JEnd _ _ _ _ _ _ _
               refine ⟨_, _, _, nw, rfl, F9, News.perm N9 (by walk_at "PERM"), ho, ⟨_, _, by walk_at "NORML"⟩, rfl, fun j hj => ?_⟩
               rcases Nat.lt_succ_iff_lt_or_eq.mp hj with hj | rfl
               · exact hP j hj
               · walk_at "PYES")
            | (show Q _ _
               exact no ⟨i, hi9, by walk_at "PNO"⟩ _ _ F9 (News.perm N9 (by walk_at "TAILS")))

      case no =>
        intro hodd vp8 h8 tk8 F9 N9
        dsimp only [JPost]
        k_steps
        rename Fr _ _ _ _ => F9
        rename News _ _ _ _ => N9
        exact no ⟨i, hi9, fun hp => noAt hodd (by
          have hq := hok.mpr hp
          exact List.forall_mem_cons.mpr ⟨⟨_, rfl, hq⟩, List.forall_mem_nil _⟩)⟩ _ _ F9 (News.perm N9 (by walk_at "TAILS"))
    | clo k0 v hh hv =>
      (try dsimp only at hok)
      k_steps
      refine stopG ?_
      refine' places_ok (ns := [1]) ?hl ?hi ?hy ?hpl B' ?F X' ?N T' ?r ?yes ?no
      case hl => k_is
      case hi => repeat' constructor
      case F => k_asm
      case N => k_asm
      case hy => walk_at "MEM"
      case hpl => exact List.forall_mem_cons.mpr ⟨⟨by decide, by decide, _, rfl, hh⟩, List.forall_mem_nil _⟩
      case r => k_room
      case yes =>
        intro hall vp8 h8 tk8 F9 N9
        obtain ⟨n0, m0, rfl⟩ : IsI v := ofAt rfl (hall _ (List.Mem.head _))
        clear hall
        k_steps
        all_goals (try dsimp only [JPost])
        all_goals k_steps
        all_goals
          rename Fr _ _ _ _ => F9
          rename News _ _ _ _ => N9
          first
            | (show JEnd _ _ _ _ _ _ _
               refine ⟨_, _, _, nw, rfl, F9, News.perm N9 (by walk_at "PERM"), ho, ⟨_, _, by walk_at "NORML"⟩, rfl, fun j hj => ?_⟩
               rcases Nat.lt_succ_iff_lt_or_eq.mp hj with hj | rfl
               · exact hP j hj
               · walk_at "PYES")
            | (show Q _ _
               exact no ⟨i, hi9, by walk_at "PNO"⟩ _ _ F9 (News.perm N9 (by walk_at "TAILS")))

      case no =>
        intro hodd vp8 h8 tk8 F9 N9
        dsimp only [JPost]
        k_steps
        rename Fr _ _ _ _ => F9
        rename News _ _ _ _ => N9
        exact no ⟨i, hi9, fun hp => noAt hodd (by
          have hq := hok.mpr hp
          exact List.forall_mem_cons.mpr ⟨⟨_, rfl, ⟨_, _, hq.choose_spec.choose_spec.1⟩⟩, List.forall_mem_nil _⟩)⟩ _ _ F9 (News.perm N9 (by walk_at "TAILS"))
    | map k0 v hh hv =>
      (try dsimp only at hok)
      k_steps
      refine stopG ?_
      refine' places_ok (ns := [1]) ?hl ?hi ?hy ?hpl B' ?F X' ?N T' ?r ?yes ?no
      case hl => k_is
      case hi => repeat' constructor
      case F => k_asm
      case N => k_asm
      case hy => walk_at "MEM"
      case hpl => exact List.forall_mem_cons.mpr ⟨⟨by decide, by decide, _, rfl, hh⟩, List.forall_mem_nil _⟩
      case r => k_room
      case yes =>
        intro hall vp8 h8 tk8 F9 N9
        obtain ⟨n0, m0, rfl⟩ : IsI v := ofAt rfl (hall _ (List.Mem.head _))
        clear hall
        k_steps
        all_goals (try dsimp only [JPost])
        all_goals k_steps
        all_goals
          rename Fr _ _ _ _ => F9
          rename News _ _ _ _ => N9
          first
            | (show JEnd _ _ _ _ _ _ _
               refine ⟨_, _, _, nw, rfl, F9, News.perm N9 (by walk_at "PERM"), ho, ⟨_, _, by walk_at "NORML"⟩, rfl, fun j hj => ?_⟩
               rcases Nat.lt_succ_iff_lt_or_eq.mp hj with hj | rfl
               · exact hP j hj
               · walk_at "PYES")
            | (show Q _ _
               exact no ⟨i, hi9, by walk_at "PNO"⟩ _ _ F9 (News.perm N9 (by walk_at "TAILS")))

      case no =>
        intro hodd vp8 h8 tk8 F9 N9
        dsimp only [JPost]
        k_steps
        rename Fr _ _ _ _ => F9
        rename News _ _ _ _ => N9
        exact no ⟨i, hi9, fun hp => noAt hodd (by
          have hq := hok.mpr hp
          exact List.forall_mem_cons.mpr ⟨⟨_, rfl, ⟨_, _, hq.choose_spec.choose_spec.1⟩⟩, List.forall_mem_nil _⟩)⟩ _ _ F9 (News.perm N9 (by walk_at "TAILS"))
    | byw k0 v1 v2 v3 h1 h2 h3 hv1 hv2 hv3 =>
      (try dsimp only at hok)
      k_steps
      refine stopG ?_
      refine' places_ok (ns := [1, 2, 3]) ?hl ?hi ?hy ?hpl B' ?F X' ?N T' ?r ?yes ?no
      case hl => k_is
      case hi => repeat' constructor
      case F => k_asm
      case N => k_asm
      case hy => walk_at "MEM"
      case hpl => exact List.forall_mem_cons.mpr ⟨⟨by decide, by decide, _, rfl, h1⟩, List.forall_mem_cons.mpr ⟨⟨by decide, by decide, _, rfl, h2⟩, List.forall_mem_cons.mpr ⟨⟨by decide, by decide, _, rfl, h3⟩, List.forall_mem_nil _⟩⟩⟩
      case r => k_room
      case yes =>
        intro hall vp8 h8 tk8 F9 N9
        obtain ⟨n0, m0, rfl⟩ : IsI v1 := ofAt rfl (hall _ (List.Mem.head _))
        obtain ⟨n1, m1, rfl⟩ : IsI v2 := ofAt rfl (hall _ (List.Mem.tail _ (List.Mem.head _)))
        obtain ⟨n2, m2, rfl⟩ : IsI v3 := ofAt rfl (hall _ (List.Mem.tail _ (List.Mem.tail _ (List.Mem.head _))))
        clear hall
        k_steps
        all_goals (try dsimp only [JPost])
        all_goals k_steps
        all_goals
          rename Fr _ _ _ _ => F9
          rename News _ _ _ _ => N9
          first
            | (show JEnd _ _ _ _ _ _ _
               refine ⟨_, _, _, nw, rfl, F9, News.perm N9 (by walk_at "PERM"), ho, ⟨_, _, by walk_at "NORML"⟩, rfl, fun j hj => ?_⟩
               rcases Nat.lt_succ_iff_lt_or_eq.mp hj with hj | rfl
               · exact hP j hj
               · walk_at "PYES")
            | (show Q _ _
               exact no ⟨i, hi9, by walk_at "PNO"⟩ _ _ F9 (News.perm N9 (by walk_at "TAILS")))

      case no =>
        intro hodd vp8 h8 tk8 F9 N9
        dsimp only [JPost]
        k_steps
        rename Fr _ _ _ _ => F9
        rename News _ _ _ _ => N9
        exact no ⟨i, hi9, fun hp => noAt hodd (by
          have hq := hok.mpr hp
          exact List.forall_mem_cons.mpr ⟨⟨_, rfl, hq.1⟩, List.forall_mem_cons.mpr ⟨⟨_, rfl, hq.2.1⟩, List.forall_mem_cons.mpr ⟨⟨_, rfl, hq.2.2⟩, List.forall_mem_nil _⟩⟩⟩)⟩ _ _ F9 (News.perm N9 (by walk_at "TAILS"))
    | sort k0 v k2 hh =>
      (try dsimp only at hok)
      k_steps
      refine stopG ?_
      refine' places_ok (ns := [1]) ?hl ?hi ?hy ?hpl B' ?F X' ?N T' ?r ?yes ?no
      case hl => k_is
      case hi => repeat' constructor
      case F => k_asm
      case N => k_asm
      case hy => walk_at "MEM"
      case hpl => exact List.forall_mem_cons.mpr ⟨⟨by decide, by decide, _, rfl, hh⟩, List.forall_mem_nil _⟩
      case r => k_room
      case yes =>
        intro hall vp8 h8 tk8 F9 N9
        obtain ⟨n0, m0, rfl⟩ : IsI v := ofAt rfl (hall _ (List.Mem.head _))
        clear hall
        k_steps
        all_goals (try dsimp only [JPost])
        all_goals k_steps
        all_goals
          rename Fr _ _ _ _ => F9
          rename News _ _ _ _ => N9
          first
            | (show JEnd _ _ _ _ _ _ _
               refine ⟨_, _, _, nw, rfl, F9, News.perm N9 (by walk_at "PERM"), ho, ⟨_, _, by walk_at "NORML"⟩, rfl, fun j hj => ?_⟩
               rcases Nat.lt_succ_iff_lt_or_eq.mp hj with hj | rfl
               · exact hP j hj
               · walk_at "PYES")
            | (show Q _ _
               exact no ⟨i, hi9, by walk_at "PNO"⟩ _ _ F9 (News.perm N9 (by walk_at "TAILS")))

      case no =>
        intro hodd vp8 h8 tk8 F9 N9
        dsimp only [JPost]
        k_steps
        rename Fr _ _ _ _ => F9
        rename News _ _ _ _ => N9
        exact no ⟨i, hi9, fun hp => noAt hodd (by
          have hq := hok.mpr hp
          exact List.forall_mem_cons.mpr ⟨⟨_, rfl, ⟨_, _, hq.choose_spec.choose_spec.1⟩⟩, List.forall_mem_nil _⟩)⟩ _ _ F9 (News.perm N9 (by walk_at "TAILS"))
    | func k0 k1 v1 v2 h1 h2 hv1 hv2 =>
      (try dsimp only at hok)
      k_steps
      refine stopG ?_
      refine' places_ok (ns := [2, 3]) ?hl ?hi ?hy ?hpl B' ?F X' ?N T' ?r ?yes ?no
      case hl => k_is
      case hi => repeat' constructor
      case F => k_asm
      case N => k_asm
      case hy => walk_at "MEM"
      case hpl => exact List.forall_mem_cons.mpr ⟨⟨by decide, by decide, _, rfl, h1⟩, List.forall_mem_cons.mpr ⟨⟨by decide, by decide, _, rfl, h2⟩, List.forall_mem_nil _⟩⟩
      case r => k_room
      case yes =>
        intro hall vp8 h8 tk8 F9 N9
        obtain ⟨n0, m0, rfl⟩ : IsI v1 := ofAt rfl (hall _ (List.Mem.head _))
        obtain ⟨n1, m1, rfl⟩ : IsI v2 := ofAt rfl (hall _ (List.Mem.tail _ (List.Mem.head _)))
        clear hall
        k_steps
        all_goals (try dsimp only [JPost])
        all_goals k_steps
        all_goals
          rename Fr _ _ _ _ => F9
          rename News _ _ _ _ => N9
          first
            | (show JEnd _ _ _ _ _ _ _
               refine ⟨_, _, _, nw, rfl, F9, News.perm N9 (by walk_at "PERM"), ho, ⟨_, _, by walk_at "NORML"⟩, rfl, fun j hj => ?_⟩
               rcases Nat.lt_succ_iff_lt_or_eq.mp hj with hj | rfl
               · exact hP j hj
               · walk_at "PYES")
            | (show Q _ _
               exact no ⟨i, hi9, by walk_at "PNO"⟩ _ _ F9 (News.perm N9 (by walk_at "TAILS")))

      case no =>
        intro hodd vp8 h8 tk8 F9 N9
        dsimp only [JPost]
        k_steps
        rename Fr _ _ _ _ => F9
        rename News _ _ _ _ => N9
        exact no ⟨i, hi9, fun hp => noAt hodd (by
          have hq := hok.mpr hp
          exact List.forall_mem_cons.mpr ⟨⟨_, rfl, hq.1⟩, List.forall_mem_cons.mpr ⟨⟨_, rfl, hq.2⟩, List.forall_mem_nil _⟩⟩)⟩ _ _ F9 (News.perm N9 (by walk_at "TAILS"))
  case done =>
    intro m₁ nw h tk hj F1 N1
    obtain ⟨⟨vo, vp, rfl⟩, rfl, hP⟩ := hj
    have hP8 : ∀ i, i < rs.length → P i := fun i hi => hP i (by simpa using hi)
    k_steps
    exact yes hP8 _ _ (by assumption) (by assumption)
end
end -- L4
end
section -- M1
open PySem PySem.W PyProof.Rows PySem.Calls
set_option maxRecDepth 100000
set_option maxHeartbeats 8000000
section
variable {w : World} {mean : ExcName → Option Value} {mg mb : Str → Option Value} {dp un : Nat} {gd : Option (List Code)} {cn : Str} {cs : Scope} {a : Addr} {ccd : Value} {cl : List (Str × Addr)} {outer : List Env} {A₀ : Around} {base h₀ : Heap} {L : Addr} {m : Str → Option Value} {news : List (Addr × Obj)} {s : Shared} {Q E : Value → Shared → Prop}
local macro_rules | `(tactic| walk_at "SPL") => `(tactic| k_extra "z107")
local macro_rules | `(tactic| walk_at "call ref") => `(tactic| k_extra "z108")
local macro_rules | `(tactic| walk_at "MENUA") => `(tactic| k_extra "z109")
local macro_rules | `(tactic| walk_at "subscriptTail") => `(tactic| k_extra "z110")
local macro_rules | `(tactic| walk_at "exec For Name Call cons nil") => `(tactic| k_extra "z98")
local macro_rules | `(tactic| walk_at "pyIter ref") => `(tactic| k_extra "z59")
local macro_rules | `(tactic| walk_at "exec If") => `(tactic| k_extra "z59")
local macro_rules | `(tactic| walk_at "NORMW") => `(tactic| k_extra "z111")
local macro_rules | `(tactic| walk_at "call ref") => `(tactic| k_extra "z112")
local macro_rules | `(tactic| walk_at "binaryOp Add ref ref") => `(tactic| k_extra "z113")
inductive Spl (a : Addr) (o : Obj) : List (Addr × Obj) → List (Addr × Obj) → Prop
  | head {post : List (Addr × Obj)} : (∀ p ∈ post, p.1 ≠ a) → Spl a o ((a, o) :: post) post
  | tail {p : Addr × Obj} {l r : List (Addr × Obj)} : p.1 ≠ a → Spl a o l r → Spl a o (p :: l) (p :: r)
theorem Spl.spec {a : Addr} {o : Obj} {l r : List (Addr × Obj)} (h : Spl a o l r) : (∀ p ∈ (a, o) :: r, p ∈ l) ∧ ∀ p ∈ r, p.1 ≠ a := by
  induction h with
  | head h => exact ⟨fun p hp => hp, h⟩
  | tail hp _ ih =>
    refine ⟨fun q hq => ?_, List.forall_mem_cons.mpr ⟨hp, ih.2⟩⟩
    rcases List.mem_cons.mp hq with rfl | hq
    · exact .tail _ (ih.1 _ (.head _))
    · rcases List.mem_cons.mp hq with rfl | hq
      · exact .head _
      · exact .tail _ (ih.1 _ (.tail _ hq))
theorem scoop_use {pail aS : Addr} {i many : Int} {t km : Tok} {np nv : Nat} {rest : List (Addr × Obj)} {vs : List Value} {ns : List Int} (N : News h₀ L s.heap news) (U : Spl pail (W.listOf [Value.ref aS, .int i t].toArray np) news rest) (hS : (aS, W.listOf vs.toArray nv) ∈ rest) (hI : IntsAre vs ns) (hl : vs.length ≤ 40) (h0 : 0 ≤ i) (h1 : i ≤ 60) (hm0 : 0 < many) (hm1 : many ≤ 20)
    (B : Below A₀ base outer h₀) (F : Fr h₀ L s.heap m) (X : (KK w.params).In h₀) (T : Top vw lo mean mg mb h₀) (hk : cs.kind = .function) (hroom : dp + 10 < recursionLimit)
    (ret : ScoopPost h₀ L m pail aS i many np rest s Q) :
  wpAny (model PySem.Challenge.rw_qz0086_01.row.prog w) (ktrTop dp un gd cn cs L a ccd cl outer) (call (.ref 323) [.ref pail, .int many km]) Q E s :=
  scoop_ok U.spec.2 hS hI hl h0 h1 hm0 hm1 B F X (News.perm N U.spec.1) T hk hroom ret
theorem len40 {vs : List Value} {ns : List Int} (h : IntsAre vs (ns.take 40)) : vs.length ≤ 40 := by rw [h.length, List.length_take]; omega
theorem menu_any {vs : List Value} {Q : Value → Prop} (h : ∀ x ∈ vs, IsI x ∨ OddV x) (q : ∀ x, IsI x ∨ OddV x → Q x) : ∀ x, x ∈ vs → Q x := fun x hx => q x (h x hx)
theorem lof_any {A : Around} {prog : Program} {D : Addr} {vs : List Value} {n : Nat} {value slice : PySem.Expr} {k : Int} {u : Tok} {Q : Value → Shared → Prop} (N : News h₀ L s.heap news) (hm : (D, W.listOf vs.toArray n) ∈ news) (h0 : 0 ≤ k) (hlt : k < (vs.length : Int)) (hf : vs.length ≤ 1000) (h : ∀ x, x ∈ vs → Q x s)
    (hs : subscripted slice false (.ref D) (.int k u) = operate [.ref D, .int k u] (getItem (.ref D) (.int k u)) := by with_unfolding_all rfl) :
    wpAny (model prog w) A (subscriptTail value slice (.ref D) (.int k u)) Q E s := by
  have hl := lof_in N hm
  have hk : k.toNat < vs.length := by omega
  exact tail_any hl.typeIs slot_list_getitem.lookup (wpAny_getItem_list hl h0 (by omega) (by simp [hk]) (h _ (List.getElem_mem hk))) hs
theorem RowsIn.mono {nw nw' : List (Addr × Obj)} {rs : List Addr} {itss : List (List Value)} (h : RowsIn nw rs itss) (hs : ∀ p ∈ nw, p ∈ nw') : RowsIn nw' rs itss := by
  induction h with
  | nil => exact .nil
  | cons a _ ih => exact .cons (hs _ a) ih
theorem RowsIn.append {nw : List (Addr × Obj)} {rs rs' : List Addr} {itss itss' : List (List Value)} (h : RowsIn nw rs itss) (h' : RowsIn nw rs' itss') : RowsIn nw (rs ++ rs') (itss ++ itss') := by
  induction h with
  | nil => exact h'
  | cons a _ ih => exact .cons a ih
theorem RowsIn.len {nw : List (Addr × Obj)} {rs : List Addr} {itss : List (List Value)} (h : RowsIn nw rs itss) : rs.length = itss.length := by
  induction h with
  | nil => rfl
  | cons _ _ ih => rw [List.length_cons, List.length_cons, ih]
inductive Built : List (List Value) → Prop
  | nil : Built []
  | step {itss run : List (List Value)} {slot : Int} : Built itss → RunRel (itss.length : Nat) slot run → slot ≤ 2 → Built (itss ++ run)
theorem run_len {a b : Int} {run : List (List Value)} (h : RunRel a b run) : run.length ≤ 3 := by cases h <;> simp
theorem run_use {pail : Addr} {P : Obj} {way at' slot : Int} {kw ka ks : Tok} {rest : List (Addr × Obj)} (N : News h₀ L s.heap news) (U : Spl pail P news rest) (h0 : 0 ≤ at') (h1 : at' ≤ 40) (h2 : 0 ≤ slot) (h3 : slot ≤ 2)
    (B : Below A₀ base outer h₀) (F : Fr h₀ L s.heap m) (X : (KK w.params).In h₀) (T : Top vw lo mean mg mb h₀) (hk : cs.kind = .function) (hroom : dp + 10 < recursionLimit)
    (ret : ∀ b n ts itss nw rest' h' tk', RunRel at' slot itss → RowsIn nw ts itss → (b, W.listOf (ts.map Value.ref).toArray n) ∈ rest' → rest' = nw ++ rest → (∀ q ∈ nw, ∀ p ∈ (pail, P) :: rest, p.1 ≠ q.1) → Fr h₀ L h' m → News h₀ L h' ((pail, P) :: rest') → Q (.ref b) { s with heap := h', toks := tk' }) :
  wpAny (model PySem.Challenge.rw_qz0086_01.row.prog w) (ktrTop dp un gd cn cs L a ccd cl outer) (call (.ref 330) [.int way kw, .int at' ka, .int slot ks]) Q E s :=
  run_ok h0 h1 h2 h3 B F X (News.perm N U.spec.1) T hk hroom fun b n ts itss nw h' tk' rel ri hb off F' N' =>
    ret b n ts itss nw (nw ++ rest) h' tk' rel ri (List.mem_append.mpr (.inl hb)) rfl off F' (News.perm N' fun p hp => by
        rcases List.mem_cons.mp hp with rfl | hp
        · exact List.mem_append.mpr (.inr (.head _))
        · rcases List.mem_append.mp hp with hp | hp
          · exact List.mem_append.mpr (.inl hp)
          · exact List.mem_append.mpr (.inr (.tail _ hp)))
theorem lof_add {A : Around} {prog : Program} {D b : Addr} {vs ws : List Value} {n k : Nat} {Q : Value → Shared → Prop} (F : Fr h₀ L s.heap m) (N : News h₀ L s.heap news) (hm : (D, W.listOf vs.toArray n) ∈ news) (hb : (b, W.listOf ws.toArray k) ∈ news) (hf : vs.length + ws.length ≤ 1000)
    (h : ∀ D' h', Fr h₀ L h' m → News h₀ L h' ((D', W.listOf (vs ++ ws).toArray 0) :: news) → (∀ p ∈ news, p.1 < D') → Q (.ref D') { s with heap := h' }) :
    wpAny (model prog w) A (binaryOp .Add (.ref D) (.ref b)) Q E s :=
  add_lists (vs := vs) (ws := ws) (hsz := by rw [sizeLine_eq]; omega) F N (lof_in N hm) (lof_in N hb) fun h' F' N' => h _ h' F' N' fun p hp => Heap.lt_size (N p hp).1
noncomputable def wMap (l pail : Addr) (outer own : Value) (R : Addr) (vt vy : Option Value) : Str → Option Value := fun y =>
  if y = Str.ofString "way" then vy else if y = Str.ofString "turn" then vt else if y = Str.ofString "rows" then some (.ref R) else if y = Str.ofString "own" then some own else if y = Str.ofString "outer" then some outer else if y = Str.ofString "pail" then some (.ref pail) else List.lookup y [(Str.ofString "script", Value.ref l)].reverse
noncomputable def tJ (l pail aS : Addr) (outer own : Value) (ws : List Value) (nS : Nat) (i : Nat) (m₁ : Str → Option Value) (nw : List (Addr × Obj)) : Prop :=
  ∃ R vt vy rs itss nR np t k rest, m₁ = wMap l pail outer own R vt vy ∧ nw = (pail, W.listOf [Value.ref aS, .int k t].toArray np) :: rest ∧ (∀ p ∈ rest, p.1 ≠ pail) ∧ (aS, W.listOf ws.toArray nS) ∈ rest ∧ (R, W.listOf (rs.map Value.ref).toArray nR) ∈ rest ∧
    (@Ne Nat aS R) ∧ RowsIn rest rs itss ∧ Built itss ∧ itss.length ≤ 3 * i ∧ 0 ≤ k ∧ k ≤ 3 + 2 * (i : Int)
theorem law_names {g h : Heap} {L a b c d e : Addr} {o1 o2 o3 o4 o5 : Obj} (_ : News g L h [(a, o1), (b, o2), (c, o3), (d, o4), (e, o5)]) : ∃ a' b' e' : Addr, a' = a ∧ b' = b ∧ e' = e := ⟨_, _, _, rfl, rfl, rfl⟩
theorem fr_names {h : Heap} {L : Addr} {a b c : Value} {g : Str → Option Value} (_ : Fr h₀ L h (fun y => if y = Str.ofString "rows" then some a else if y = Str.ofString "own" then some b else if y = Str.ofString "outer" then some c else g y)) : ∃ b' c' : Value, b' = b ∧ c' = c := ⟨_, _, rfl, rfl⟩
theorem tJ_step {h' : Heap} {L l pail aS D' I : Addr} {it P P0 : Obj} {outer own : Value} {ws : List Value} {nS np i tk : Nat} {k : Int} {tt : Tok} {slot : Int} {rs ts : List Addr} {itss run : List (List Value)} {nw7 rest7 rest : List (Addr × Obj)} {vt vy : Option Value} {m' : Str → Option Value} {s₁ : Shared}
    (F' : Fr h₀ L h' m') (N' : News h₀ L h' ((D', W.listOf (rs.map Value.ref ++ ts.map Value.ref).toArray 0) :: (pail, W.listOf [Value.ref aS, .int k tt].toArray np) :: rest7)) (hm : m' = wMap l pail outer own D' vt vy) (he : rest7 = nw7 ++ (I, it) :: rest)
    (hn : ∀ q ∈ nw7, ∀ p ∈ (pail, P) :: (I, it) :: rest, p.1 ≠ q.1) (ri : RowsIn nw7 ts run) (l1 : ∀ p ∈ (pail, W.listOf [Value.ref aS, .int k tt].toArray np) :: rest7, p.1 < D') (hoff : ∀ p ∈ rest, p.1 ≠ pail) (hSm : (aS, W.listOf ws.toArray nS) ∈ rest) (hri : RowsIn rest rs itss) (hbu : Built itss) (hln : itss.length ≤ 3 * i)
    (rel : RunRel ((rs.map Value.ref).length : Nat) slot run) (hs2 : slot ≤ 2) (hk0 : 0 ≤ k) (hk1 : k ≤ 3 + 2 * ((i + 1 : Nat) : Int)) (ho : ∀ p ∈ (pail, P0) :: rest, p.1 ≠ I) :
    JEnd h₀ L I it (tJ l pail aS outer own ws nS (i + 1)) s₁ { s₁ with heap := h', toks := tk } := by
  subst he
  have hpI : pail ≠ I := ho _ (.head _)
  have hr1 := run_len rel
  refine ⟨h', tk, m', (pail, W.listOf [Value.ref aS, .int k tt].toArray np) :: (D', W.listOf (rs.map Value.ref ++ ts.map Value.ref).toArray 0) :: (nw7 ++ rest), rfl, F', News.perm N' fun p hp => ?_, fun p hp => ?_, D', vt, vy, rs ++ ts, itss ++ run, 0, np, tt, k, (D', W.listOf (rs.map Value.ref ++ ts.map Value.ref).toArray 0) :: (nw7 ++ rest), hm, rfl, fun p hp => ?_, ?_, ?_, Nat.ne_of_lt (l1 _ (.tail _ (List.mem_append.mpr (.inr (.tail _ hSm))))), ?_, ?_, ?_, hk0, hk1⟩
  · rcases List.mem_cons.mp hp with rfl | hp
    · exact .tail _ (.tail _ (List.mem_append.mpr (.inr (.head _))))
    · rcases List.mem_cons.mp hp with rfl | hp
      · exact .tail _ (.head _)
      · rcases List.mem_cons.mp hp with rfl | hp
        · exact .head _
        · rcases List.mem_append.mp hp with hp | hp
          · exact .tail _ (.tail _ (List.mem_append.mpr (.inl hp)))
          · exact .tail _ (.tail _ (List.mem_append.mpr (.inr (.tail _ hp))))
  · rcases List.mem_cons.mp hp with rfl | hp
    · exact hpI
    · rcases List.mem_cons.mp hp with rfl | hp
      · exact Nat.ne_of_gt (l1 (I, it) (.tail _ (List.mem_append.mpr (.inr (.head _)))))
      · rcases List.mem_append.mp hp with hp | hp
        · exact (hn p hp _ (.tail _ (.head _))).symm
        · exact ho p (.tail _ hp)
  · rcases List.mem_cons.mp hp with rfl | hp
    · exact Nat.ne_of_gt (l1 _ (.head _))
    · rcases List.mem_append.mp hp with hp | hp
      · exact (hn p hp _ (.head _)).symm
      · exact hoff p hp
  · exact .tail _ (List.mem_append.mpr (.inr hSm))
  · rw [List.map_append]; exact .head _
  · exact RowsIn.append (hri.mono fun p hp => .tail _ (List.mem_append.mpr (.inr hp))) (ri.mono fun p hp => .tail _ (List.mem_append.mpr (.inl hp)))
  · rw [List.length_map, hri.len] at rel
    exact .step hbu rel hs2
  · rw [List.length_append]; omega
theorem split_R {h : Heap} {L pail aS R : Addr} {P : Obj} {ws : List Value} {nS nR : Nat} {rs : List Addr} {itss : List (List Value)} {rest : List (Addr × Obj)} (N : News h₀ L h ((pail, P) :: rest)) (hRm : (R, W.listOf (rs.map Value.ref).toArray nR) ∈ rest) (hoff : ∀ p ∈ rest, p.1 ≠ pail) (hSm : (aS, W.listOf ws.toArray nS) ∈ rest) (hne : @Ne Nat aS R) (hri : RowsIn rest rs itss) :
    ∃ rest2, News h₀ L h ((R, W.listOf (rs.map Value.ref).toArray nR) :: (pail, P) :: rest2) ∧ (∀ p ∈ rest2, p.1 ≠ R) ∧ (∀ p ∈ rest2, p.1 ≠ pail) ∧ (aS, W.listOf ws.toArray nS) ∈ rest2 ∧ RowsIn rest2 rs itss ∧ (@Ne Nat pail R) := by
  refine ⟨rest.filter fun p => decide (p.1 ≠ R), News.perm N fun p hp => ?_, fun p hp => by simpa using (List.mem_filter.mp hp).2, fun p hp => hoff p (List.mem_filter.mp hp).1, List.mem_filter.mpr ⟨hSm, by simpa using hne⟩, ?_, (hoff _ hRm).symm⟩
  · rcases List.mem_cons.mp hp with rfl | hp
    · exact .tail _ hRm
    · rcases List.mem_cons.mp hp with rfl | hp
      · exact .head _
      · exact .tail _ (List.mem_filter.mp hp).1
  · have hR := (N _ (.tail _ hRm)).1
    have key : ∀ {ts : List Addr} {is : List (List Value)}, RowsIn rest ts is → RowsIn (rest.filter fun p => decide (p.1 ≠ R)) ts is := by
      intro ts is h
      induction h with
      | nil => exact .nil
      | cons a _ ih =>
        refine .cons (List.mem_filter.mpr ⟨a, ?_⟩) ih
        rename_i t its _ _ _
        have ht := (N _ (.tail _ a)).1
        refine decide_eq_true fun (e : t = R) => ?_
        rw [e] at ht
        rw [hR] at ht
        have hc := congrArg Obj.cls (Option.some.inj ht)
        exact absurd (Value.type.inj hc) (by decide)
    exact key hri
theorem tJ_start {l pail aS R : Addr} {outer own : Value} {ws : List Value} {nS nR np : Nat} {k : Int} {t : Tok} {rest : List (Addr × Obj)} {m₁ : Str → Option Value} (hm : m₁ = wMap l pail outer own R none none) (hoff : ∀ p ∈ rest, p.1 ≠ pail) (hS : (aS, W.listOf ws.toArray nS) ∈ rest) (hR : (R, W.listOf ([] : List Value).toArray nR) ∈ rest) (hne : @Ne Nat aS R) (h0 : 0 ≤ k) (h1 : k ≤ 3) :
    tJ l pail aS outer own ws nS 0 m₁ ((pail, W.listOf [Value.ref aS, .int k t].toArray np) :: rest) :=
  ⟨R, none, none, [], [], nR, np, t, k, rest, hm, rfl, hoff, hS, hR, hne, .nil, .nil, by simp, h0, by simpa using h1⟩
end
end -- M1
end
section
local macro_rules | `(tactic| walk_at "TAILS") => `(tactic| k_extra "z71")
section -- M2a
open PySem PySem.W PyProof.Rows PySem.Calls
set_option maxRecDepth 100000
set_option maxHeartbeats 8000000
section
variable {w : World} {mean : ExcName → Option Value} {mg mb : Str → Option Value} {dp un : Nat} {gd : Option (List Code)} {cn : Str} {cs : Scope} {a : Addr} {ccd : Value} {cl : List (Str × Addr)} {outer : List Env} {A₀ : Around} {base h₀ : Heap} {L : Addr} {m : Str → Option Value} {news : List (Addr × Obj)} {s : Shared} {Q E : Value → Shared → Prop}
set_option maxHeartbeats 1000000 in
theorem mk_ops {R S C : Addr} {pv : Value} {nm : Str} {kn : Tok} (B : Below A₀ base outer h₀) (F : Fr h₀ L s.heap m) (X : (KK w.params).In h₀) (N : News h₀ L s.heap news) (T : Top vw lo mean mg mb h₀) (hk : cs.kind = .function) (hroom : dp + 20 < recursionLimit) (hun : un + 100 < cLine)
    (ret : ∀ x nw h' tk', CodeObj nw x R S pv false → (∀ p ∈ news, p ∈ nw) → Fr h₀ L h' m → News h₀ L h' nw → Q (.ref x) { s with heap := h', toks := tk' }) :
    wpAny (model PySem.Challenge.rw_qz0086_01.row.prog w) (ktrTop dp un gd cn cs L a ccd cl outer) (call (.ref 195) [.ref R, .str nm kn, pv, .ref C, .ref S]) Q E s := by
  revert X N T
  k_fill
  intro X N T
  refine call_cls (C := 195) F X N (by k_is) (by k_is) (by k_is) ?_
  intro x dx h1 F1 N1 l1 l2
  have l4 : @LT.lt Nat _ dx x := l2
  have l3 : ∀ p ∈ news, p.1 ≠ dx := fun p hp => Nat.ne_of_lt (l1 p hp)
  refine' code_def (binds := [(Str.ofString "self", .ref x), (Str.ofString "rows", .ref R), (Str.ofString "name", .str nm kn), (Str.ofString "pad_size", pv), (Str.ofString "captures", .ref C), (Str.ofString "subs", .ref S)]) B F1 X N1 T rfl rfl hk ?k6 ?k7 ?k8 ?k9 ?kB ?_ ?c2 ?c3 ?c4 ?c5
  walk_at "ENTER"
  k_steps
  rename Fr _ _ _ _ => F9
  rename News _ _ _ _ => N9
  dsimp only at F9 N9
  refine ret x _ _ _ ?c ?s F9 N9
  case c => exact ⟨_, _, _, .head _, .tail _ (.head _), by k_get, by k_get, by k_get⟩
  case s => exact fun p hp => .tail _ (.tail _ hp)
set_option maxHeartbeats 1000000 in
theorem mk_weighed {R S C : Addr} {pv : Value} {nm : Str} {kn : Tok} {W : Addr} (B : Below A₀ base outer h₀) (F : Fr h₀ L s.heap m) (X : (KK w.params).In h₀) (N : News h₀ L s.heap news) (T : Top vw lo mean mg mb h₀) (hk : cs.kind = .function) (hroom : dp + 20 < recursionLimit) (hun : un + 100 < cLine)
    (ret : ∀ x nw h' tk', CodeObj nw x R S pv true → (∀ p ∈ news, p ∈ nw) → Fr h₀ L h' m → News h₀ L h' nw → Q (.ref x) { s with heap := h', toks := tk' }) :
    wpAny (model PySem.Challenge.rw_qz0086_01.row.prog w) (ktrTop dp un gd cn cs L a ccd cl outer) (call (.ref 216) [.ref R, .str nm kn, pv, .ref C, .ref S, .ref W]) Q E s := by
  revert X N T
  k_fill
  intro X N T
  refine call_cls (C := 216) F X N (by k_is) (by k_is) (by k_is) ?_
  intro x dx h1 F1 N1 l1 l2
  have l4 : @LT.lt Nat _ dx x := l2
  have l3 : ∀ p ∈ news, p.1 ≠ dx := fun p hp => Nat.ne_of_lt (l1 p hp)
  refine' code_def (binds := [(Str.ofString "self", .ref x), (Str.ofString "rows", .ref R), (Str.ofString "name", .str nm kn), (Str.ofString "pad_size", pv), (Str.ofString "captures", .ref C), (Str.ofString "subs", .ref S), (Str.ofString "weights", .ref W)]) B F1 X N1 T rfl rfl hk ?k6 ?k7 ?k8 ?k9 ?kB ?_ ?c2 ?c3 ?c4 ?c5
  walk_at "ENTER"
  k_steps
  rename Fr _ _ _ _ => F9
  rename News _ _ _ _ => N9
  dsimp only at F9 N9
  refine ret x _ _ _ ?c ?s F9 N9
  case c => exact ⟨_, _, _, .head _, .tail _ (.head _), by k_get, by k_get, by k_get⟩
  case s => exact fun p hp => .tail _ (.tail _ hp)
end
end -- M2a
section -- M3
open PySem PySem.W PyProof.Rows PySem.Calls
set_option maxRecDepth 100000
set_option maxHeartbeats 8000000
section
variable {w : World} {mean : ExcName → Option Value} {mg mb : Str → Option Value} {dp un : Nat} {gd : Option (List Code)} {cn : Str} {cs : Scope} {a : Addr} {ccd : Value} {cl : List (Str × Addr)} {outer : List Env} {A₀ : Around} {base h₀ : Heap} {L : Addr} {m : Str → Option Value} {news : List (Addr × Obj)} {s : Shared} {Q E : Value → Shared → Prop}
local macro_rules | `(tactic| walk_at "UNITS") => `(tactic| k_extra "z91")
local macro_rules | `(tactic| walk_at "call ref") => `(tactic| k_extra "z114")
noncomputable def dropS : Nat → List Stmt → List Stmt
  | 0, l => l
  | _ + 1, [] => []
  | n + 1, _ :: l => dropS n l
set_option maxHeartbeats 400000 in
theorem law_try {L fa x R S : Addr} {cdv pv : Value} {g : Str → Option Value} {b : Bool} {V : Prop} {nws : List (Addr × Obj)} {R₀ : Result → Shared → Prop} (B : Below callerA h₀ [] h₀) (F₀ : Fr h₀ L s.heap g) (hg1 : g (Str.ofString "is_let") = some (.bool b)) (hg2 : g (Str.ofString "code") = some (.ref x)) (N : News h₀ L s.heap news) (X : (KK w.params).In h₀) (T : Top vw lo mean mg mb h₀)
    (hx9 : CodeObj nws x R S pv false) (hh9 : handedIn pv = true) (hin : PadSpec w nws x pv 40 V) (hsub : ∀ p ∈ nws, p ∈ news) (hv : b = true ↔ V) (ret : ∀ h' tk', (∀ b o, h₀.get? b = some o → h'.get? b = some o) → R₀ (.ok (.ret (.bool true))) { s with heap := h', toks := tk' }) :
    wpAny (model PySem.Challenge.rw_qz0086_01.row.prog w) (callerA.deeper (envOf (Str.ofString "law") (fdS (st 34)) L fa cdv)) (exec (nth (fdB (st 34)) 15) (envOf (Str.ofString "law") (fdS (st 34)) L fa cdv))
      (fun f s' => match f with
        | .next => wpAny (model PySem.Challenge.rw_qz0086_01.row.prog w) (callerA.deeper (envOf (Str.ofString "law") (fdS (st 34)) L fa cdv)) (execs (dropS 16 (fdB (st 34))) (envOf (Str.ofString "law") (fdS (st 34)) L fa cdv)) (fun f s' => R₀ (.ok (.ret (match f with | .ret v => v | _ => .none))) s')
            (fun e s' => wpAny (model PySem.Challenge.rw_qz0086_01.row.prog w) (callerA.deeper (envOf (Str.ofString "law") (fdS (st 34)) L fa cdv)) (leaving (envOf (Str.ofString "law") (fdS (st 34)) L fa cdv) e) (fun _ s'' => R₀ (.error e) s'') (fun e' s'' => R₀ (.error e') s'') s') s'
        | f => R₀ (.ok (.ret (match f with | .ret v => v | _ => .none))) s')
      (fun e s' => wpAny (model PySem.Challenge.rw_qz0086_01.row.prog w) (callerA.deeper (envOf (Str.ofString "law") (fdS (st 34)) L fa cdv)) (leaving (envOf (Str.ofString "law") (fdS (st 34)) L fa cdv) e) (fun _ s'' => R₀ (.error e) s'') (fun e' s'' => R₀ (.error e') s'') s') s := by
  have hgm : g = fun y => if y = Str.ofString "is_let" then some (.bool b) else if y = Str.ofString "code" then some (.ref x) else g y := by
    funext y
    by_cases c1 : y = Str.ofString "is_let"
    · rw [if_pos c1, c1, hg1]
    · rw [if_neg c1]
      by_cases c2 : y = Str.ofString "code"
      · rw [if_pos c2, c2, hg2]
      · rw [if_neg c2]
  have F : Fr h₀ L s.heap (fun y => if y = Str.ofString "is_let" then some (.bool b) else if y = Str.ofString "code" then some (.ref x) else g y) := hgm ▸ F₀
  clear hgm F₀ hg1 hg2
  revert X N T
  k_fill
  intro N X T
  (conv in nth _ _ => whnf)
  (conv in dropS _ _ => whnf)
  k_steps
  · rename V => hV
    obtain rfl := hv.mpr hV
    rename Fr _ _ _ _ => F9
    exact ret _ _ F9.keep
  · rename ¬V => hV
    have hb : b = false := by
      cases b with
      | false => rfl
      | true => exact absurd (hv.mp rfl) hV
    subst hb
    rename Flew _ _ _ _ _ _ _ => R8
    refine caught_bad B R8 (by k_asm) (topRead_of (by k_asm)) (by k_is) ?_
    intro h8 F8
    k_steps
    rename Fr _ _ _ _ => F9
    exact ret _ _ F9.keep
end
end -- M3
section -- M4
open PySem PySem.W PyProof.Rows PySem.Calls
set_option maxRecDepth 100000
set_option maxHeartbeats 8000000
section
variable {w : World} {mean : ExcName → Option Value} {mg mb : Str → Option Value} {dp un : Nat} {gd : Option (List Code)} {cn : Str} {cs : Scope} {a : Addr} {ccd : Value} {cl : List (Str × Addr)} {outer : List Env} {A₀ : Around} {base h₀ : Heap} {L : Addr} {m : Str → Option Value} {news : List (Addr × Obj)} {s : Shared} {Q E : Value → Shared → Prop}
local macro_rules | `(tactic| walk_at "exec Try") => `(tactic| k_extra "z59")
local macro_rules | `(tactic| walk_at "call ref") => `(tactic| k_extra "z99")
local macro_rules | `(tactic| walk_at "call ref") => `(tactic| k_extra "z115")
noncomputable def zMap (l pail : Addr) (outer own : Value) (R : Addr) (vt vy : Option Value) (slot : Int) (ks : Tok) (wg : Bool) : Str → Option Value := fun y =>
  if y = Str.ofString "weighed" then some (.bool wg) else if y = Str.ofString "slot" then some (.int slot ks) else wMap l pail outer own R vt vy y
set_option maxHeartbeats 800000 in
theorem law_lets {L fa l pail R Ri xw x Rx Sx : Addr} {cdv outer own sv : Value} {vt vy : Option Value} {slot : Int} {ks : Tok} {wg : Bool} {rs rj : List Addr} {nR nRi : Nat} {P Pi : Nat → Prop} {V : Prop} {R₀ : Result → Shared → Prop} (B : Below callerA h₀ [] h₀)
    (F : Fr h₀ L s.heap (fun y => if y = Str.ofString "size" then some sv else if y = Str.ofString "code" then some (.ref x) else if y = Str.ofString "within" then some (.ref xw) else if y = Str.ofString "inner" then some (.ref Ri) else zMap l pail outer own R vt vy slot ks wg y))
    (N : News h₀ L s.heap news) (X : (KK w.params).In h₀) (T : Top vw lo mean mg mb h₀)
    (hRm : (R, W.listOf (rs.map Value.ref).toArray nR) ∈ news) (hRi : (Ri, W.listOf (rj.map Value.ref).toArray nRi) ∈ news) (hout : IsI outer ∨ OddV outer) (hsv : IsI sv ∨ OddV sv)
    (hlet1 : ∀ n k, outer = .int n k → ∀ i y, rs[i]? = some y → ∃ its ok, (y, tupOb its) ∈ news ∧ RowG i its ok ∧ (ok n 1 ↔ P i)) (hlet2 : ∀ n k, sv = .int n k → ∀ i y, rj[i]? = some y → ∃ its ok, (y, tupOb its) ∈ news ∧ RowG i its ok ∧ (ok n 0 ↔ Pi i))
    (hx9 : CodeObj news x Rx Sx outer false) (hh9 : handedIn outer = true) (hin : PadSpec w news x outer 40 V) (hV : V ↔ IsI outer ∧ (∀ i, i < rs.length → P i) ∧ IsI sv ∧ ∀ i, i < rj.length → Pi i) (ret : ∀ h' tk', (∀ b o, h₀.get? b = some o → h'.get? b = some o) → R₀ (.ok (.ret (.bool true))) { s with heap := h', toks := tk' }) :
    wpAny (model PySem.Challenge.rw_qz0086_01.row.prog w) (callerA.deeper (envOf (Str.ofString "law") (fdS (st 34)) L fa cdv)) (execs (dropS 13 (fdB (st 34))) (envOf (Str.ofString "law") (fdS (st 34)) L fa cdv))
      (fun f s' => R₀ (.ok (.ret (match f with | .ret v => v | _ => .none))) s')
      (fun e s' => wpAny (model PySem.Challenge.rw_qz0086_01.row.prog w) (callerA.deeper (envOf (Str.ofString "law") (fdS (st 34)) L fa cdv)) (leaving (envOf (Str.ofString "law") (fdS (st 34)) L fa cdv) e) (fun _ s'' => R₀ (.error e) s'') (fun e' s'' => R₀ (.error e') s'') s') s := by
  have hIO : ∀ v : Value, OddV v → ¬ IsI v := fun v => odd_int
  revert N X T
  k_fill
  intro N X T
  (conv in dropS _ _ => whnf)
  show wpAny _ _ _ _ _ _
  k_fold
  k_steps
  all_goals refine stopG ?_
  all_goals rename Fr _ _ _ _ => F9
  all_goals rename News _ _ _ _ => N9
  all_goals refine law_try (V := V) (nws := news) B F9 (by exact rfl) (by exact rfl) N9 X T hx9 hh9 hin (fun p hp => hp) ?_ (fun h' tk' => ret h' tk')

  all_goals first
    | exact ⟨fun _ => hV.mpr ⟨⟨_, _, rfl⟩, by assumption, ⟨_, _, rfl⟩, by assumption⟩, fun _ => rfl⟩
    | (refine ⟨fun h => (nomatch h), fun h => ?_⟩
       obtain ⟨a1, a2, a3, a4⟩ := hV.mp h
       first
         | exact absurd a1 (hIO _ (by with_reducible assumption))
         | exact absurd a3 (hIO _ (by with_reducible assumption))
         | (obtain ⟨i, hi, hn⟩ := hlv
            first
              | exact absurd (a2 i hi) hn
              | exact absurd (a4 i hi) hn))
end
end -- M4
section -- W4
open PySem PySem.W PyProof.Rows PySem.Calls
set_option maxRecDepth 100000
section
variable {w : World}
theorem RowSpec.congr {its : List Value} {size many pad : Int} {a b : Prop} (S : RowSpec w its size many pad a) (e : a ↔ b) : RowSpec w its size many pad b := (propext e) ▸ S
theorem iv {v : Value} (h : IsI v) : ∃ n k, v = .int n k := h
theorem rowg_spec {i : Nat} {its : List Value} {ok : Int → Int → Prop} (h : RowG i its ok) {size many pad : Int} (hi : its.head? ≠ none) (hsz : (i : Int) + 1 < size ∨ ∃ k, its = [.str (Str.ofString "return0") k] ∨ its = [.str (Str.ofString "return1") k]) (hm : 0 ≤ many) : RowSpec w its size many pad (ok pad many) := by
  cases h with
  | drop k => exact row_plain (chk_e (word_drop w).1 (slots_drop w) (codes_drop w)) (fun _ h => nomatch h) (eff_e (word_drop w).1) (by decide) (jmp_e (word_drop w).1) (subs_none (by decide +kernel) (by decide +kernel) (by decide +kernel)) (slots_drop w)
  | const k n k1 => exact row_plain (chk_d (word_const w).1 (slots_const w) (codes_const w)) (fun _ h => nomatch h) (eff_d (word_const w).1) (by decide) (jmp_d (word_const w).1) (subs_none (by decide +kernel) (by decide +kernel) (by decide +kernel)) (slots_const w)
  | empty k => exact row_plain (chk_e (word_empty w).1 (slots_empty w) (codes_empty w)) (fun _ h => nomatch h) (eff_e (word_empty w).1) (by decide) (jmp_e (word_empty w).1) (subs_none (by decide +kernel) (by decide +kernel) (by decide +kernel)) (slots_empty w)
  | ret0 k => exact row_plain (chk_e (word_return0 w).1 (slots_return0 w) (codes_return0 w)) (fun _ h => nomatch h) (eff_e (word_return0 w).1) (by decide) (jmp_e (word_return0 w).1) (subs_none (by decide +kernel) (by decide +kernel) (by decide +kernel)) (slots_return0 w)
  | ret1 k => exact row_plain (chk_e (word_return1 w).1 (slots_return1 w) (codes_return1 w)) (fun _ h => nomatch h) (eff_e (word_return1 w).1) (by decide) (jmp_e (word_return1 w).1) (subs_none (by decide +kernel) (by decide +kernel) (by decide +kernel)) (slots_return1 w)
  | pad k0 k1 v hv =>
    obtain ⟨ks, hs⟩ := slots_pad w
    rcases hv with hv | hv
    · obtain ⟨n, k, rfl⟩ := hv
      exact (row_s2 (chk_slot2 (word_pad w).1 hs (codes_pad w) (.inl ⟨_, _, rfl⟩)) (List.forall_mem_cons.mpr ⟨⟨_, _, rfl⟩, List.forall_mem_nil _⟩) (eff_dd (word_pad w).1) (by decide) (jmp_dd (word_pad w).1) (subs_none (by decide +kernel) (by decide +kernel) (by decide +kernel)) hs).congr ⟨fun h => ⟨_, _, rfl, h.1, h.2⟩, fun ⟨_, _, e, a, b⟩ => by cases e; exact ⟨a, b⟩⟩
    · exact (row_odd (chk_slot2 (word_pad w).1 hs (codes_pad w) (.inr hv)) ⟨_, .head _, hv⟩).congr ⟨fun h => h.elim, fun ⟨_, _, e, _⟩ => odd_int hv ⟨_, _, e⟩⟩
  | my k0 k1 v hv =>
    obtain ⟨ks, hs⟩ := slots_my w
    rcases hv with hv | hv
    · obtain ⟨n, k, rfl⟩ := hv
      exact (row_s2 (chk_slot2 (word_my w).1 hs (codes_my w) (.inl ⟨_, _, rfl⟩)) (List.forall_mem_cons.mpr ⟨⟨_, _, rfl⟩, List.forall_mem_nil _⟩) (eff_dd (word_my w).1) (by decide) (jmp_dd (word_my w).1) (subs_none (by decide +kernel) (by decide +kernel) (by decide +kernel)) hs).congr ⟨fun h => ⟨_, _, rfl, h.1, h.2⟩, fun ⟨_, _, e, a, b⟩ => by cases e; exact ⟨a, b⟩⟩
    · exact (row_odd (chk_slot2 (word_my w).1 hs (codes_my w) (.inr hv)) ⟨_, .head _, hv⟩).congr ⟨fun h => h.elim, fun ⟨_, _, e, _⟩ => odd_int hv ⟨_, _, e⟩⟩
  | bind k0 v hv =>
    obtain ⟨ks, hs⟩ := slots_bindpad w
    rcases hv with hv | hv
    · obtain ⟨n, k, rfl⟩ := hv
      exact (row_s1 (chk_slot1 (word_bindpad w).1 hs (codes_bindpad w) (.inl ⟨_, _, rfl⟩)) (List.forall_mem_cons.mpr ⟨⟨_, _, rfl⟩, List.forall_mem_nil _⟩) (eff_d (word_bindpad w).1) (by decide) (jmp_d (word_bindpad w).1) (subs_none (by decide +kernel) (by decide +kernel) (by decide +kernel)) hs).congr ⟨fun h => ⟨_, _, rfl, h.1, h.2⟩, fun ⟨_, _, e, a, b⟩ => by cases e; exact ⟨a, b⟩⟩
    · exact (row_odd (chk_slot1 (word_bindpad w).1 hs (codes_bindpad w) (.inr hv)) ⟨_, .head _, hv⟩).congr ⟨fun h => h.elim, fun ⟨_, _, e, _⟩ => odd_int hv ⟨_, _, e⟩⟩
  | jump k0 v hv hn =>
    have hsz' : (i : Int) + 1 < size := hsz.elim id fun ⟨_, e⟩ => by rcases e with e | e <;> simp at e
    rcases hv with hv | hv
    · obtain ⟨n, k, rfl⟩ := hv
      obtain rfl := hn _ _ rfl
      exact (row_j1 (chk_j (word_jump w).1 (slots_jump w) (codes_jump w) (.inl ⟨_, _, rfl⟩)) (List.forall_mem_cons.mpr ⟨⟨_, _, rfl⟩, List.forall_mem_nil _⟩) (eff_j (word_jump w).1) (by decide) (jmp_j (word_jump w).1) (by omega) hsz' (subs_none (by decide +kernel) (by decide +kernel) (by decide +kernel)) (slots_jump w)).congr ⟨fun _ => ⟨_, _, rfl⟩, fun _ => trivial⟩
    · exact (row_odd (chk_j (word_jump w).1 (slots_jump w) (codes_jump w) (.inr hv)) ⟨_, .head _, hv⟩).congr ⟨fun h => h.elim, fun h => odd_int hv h⟩
  | iff k0 v hv hn =>
    have hsz' : (i : Int) + 1 < size := hsz.elim id fun ⟨_, e⟩ => by rcases e with e | e <;> simp at e
    rcases hv with hv | hv
    · obtain ⟨n, k, rfl⟩ := hv
      obtain rfl := hn _ _ rfl
      exact (row_j1 (chk_j (word_iffalse w).1 (slots_iffalse w) (codes_iffalse w) (.inl ⟨_, _, rfl⟩)) (List.forall_mem_cons.mpr ⟨⟨_, _, rfl⟩, List.forall_mem_nil _⟩) (eff_j (word_iffalse w).1) (by decide) (jmp_j (word_iffalse w).1) (by omega) hsz' (subs_none (by decide +kernel) (by decide +kernel) (by decide +kernel)) (slots_iffalse w)).congr ⟨fun _ => ⟨_, _, rfl⟩, fun _ => trivial⟩
    · exact (row_odd (chk_j (word_iffalse w).1 (slots_iffalse w) (codes_iffalse w) (.inr hv)) ⟨_, .head _, hv⟩).congr ⟨fun h => h.elim, fun h => odd_int hv h⟩
  | app k0 v hv hn =>
    rcases hv with hv | hv
    · obtain ⟨n, k, rfl⟩ := hv
      obtain rfl := hn _ _ rfl
      exact (row_plain (chk_n (word_append w).1 (slots_append w) (codes_append w) (.inl ⟨_, _, rfl⟩)) (List.forall_mem_cons.mpr ⟨⟨_, _, rfl⟩, List.forall_mem_nil _⟩) (eff_n (word_append w).1) (by decide) (jmp_n (word_append w).1) (subs_none (by decide +kernel) (by decide +kernel) (by decide +kernel)) (slots_append w)).congr ⟨fun _ => ⟨_, _, rfl⟩, fun _ => trivial⟩
    · exact (row_odd (chk_n (word_append w).1 (slots_append w) (codes_append w) (.inr hv)) ⟨_, .head _, hv⟩).congr ⟨fun h => h.elim, fun h => odd_int hv h⟩
  | clo k0 v hv hn =>
    obtain ⟨ks, hs⟩ := codes_closure w
    rcases hv with hv | hv
    · obtain ⟨n, k, rfl⟩ := hv
      exact (row_sub (chk_code1 (word_closure w).1 (slots_closure w) hs (.inl ⟨_, _, rfl⟩)) (List.forall_mem_cons.mpr ⟨⟨_, _, rfl⟩, List.forall_mem_nil _⟩) (eff_d (word_closure w).1) (by decide) (jmp_d (word_closure w).1) (subs_one (by decide +kernel)) (slots_closure w)).congr ⟨fun h => ⟨_, _, rfl, h.1, h.2⟩, fun ⟨_, _, e, a, b⟩ => by cases e; exact ⟨a, b⟩⟩
    · exact (row_odd (chk_code1 (word_closure w).1 (slots_closure w) hs (.inr hv)) ⟨_, .head _, hv⟩).congr ⟨fun h => h.elim, fun ⟨_, _, e, _⟩ => odd_int hv ⟨_, _, e⟩⟩
  | map k0 v hv hn =>
    obtain ⟨ks, hs⟩ := codes_map w
    rcases hv with hv | hv
    · obtain ⟨n, k, rfl⟩ := hv
      exact (row_sub (chk_code1 (word_map w).1 (slots_map w) hs (.inl ⟨_, _, rfl⟩)) (List.forall_mem_cons.mpr ⟨⟨_, _, rfl⟩, List.forall_mem_nil _⟩) (eff_d (word_map w).1) (by decide) (jmp_d (word_map w).1) (subs_one (by decide +kernel)) (slots_map w)).congr ⟨fun h => ⟨_, _, rfl, h.1, h.2⟩, fun ⟨_, _, e, a, b⟩ => by cases e; exact ⟨a, b⟩⟩
    · exact (row_odd (chk_code1 (word_map w).1 (slots_map w) hs (.inr hv)) ⟨_, .head _, hv⟩).congr ⟨fun h => h.elim, fun ⟨_, _, e, _⟩ => odd_int hv ⟨_, _, e⟩⟩
  | byw k0 v1 v2 v3 h1 h2 h3 hn1 hn2 hn3 =>
    have hsz' : (i : Int) + 1 < size := hsz.elim id fun ⟨_, e⟩ => by rcases e with e | e <;> simp at e
    have C : ChkSpec w [.str (Str.ofString "bywant") k0, v1, v2, v3] [v1, v2, v3] := chk_jjj (word_bywant w).1 (slots_bywant w) (codes_bywant w) h1 h2 h3
    rcases h1 with h1 | h1
    · rcases h2 with h2 | h2
      · rcases h3 with h3 | h3
        · obtain ⟨n, k, rfl⟩ := h1
          obtain ⟨n', k', rfl⟩ := h2
          obtain ⟨n'', k'', rfl⟩ := h3
          obtain rfl := hn1 _ _ rfl
          obtain rfl := hn2 _ _ rfl
          obtain rfl := hn3 _ _ rfl
          exact (row_j3 C (List.forall_mem_cons.mpr ⟨⟨_, _, rfl⟩, List.forall_mem_cons.mpr ⟨⟨_, _, rfl⟩, List.forall_mem_cons.mpr ⟨⟨_, _, rfl⟩, List.forall_mem_nil _⟩⟩⟩) (eff_jjj (word_bywant w).1) (by decide) (jmp_jjj (word_bywant w).1) (by omega) hsz' (by omega) hsz' (by omega) hsz' (subs_none (by decide +kernel) (by decide +kernel) (by decide +kernel)) (slots_bywant w)).congr ⟨fun _ => ⟨⟨_, _, rfl⟩, ⟨_, _, rfl⟩, ⟨_, _, rfl⟩⟩, fun _ => trivial⟩
        · exact (row_odd C ⟨_, .tail _ (.tail _ (.head _)), h3⟩).congr ⟨fun h => h.elim, fun h => odd_int h3 h.2.2⟩
      · exact (row_odd C ⟨_, .tail _ (.head _), h2⟩).congr ⟨fun h => h.elim, fun h => odd_int h2 h.2.1⟩
    · exact (row_odd C ⟨_, .head _, h1⟩).congr ⟨fun h => h.elim, fun h => odd_int h1 h.1⟩
  | sort k0 v k2 hv =>
    obtain ⟨ks, hs⟩ := codes_sort w
    rcases hv with hv | hv
    · obtain ⟨n, k, rfl⟩ := hv
      have C : ChkSpec w [.str (Str.ofString "sort") k0, .int n k, .str (Str.ofString "main") k2] [.int n k] := chk_code1b (word_sort w).1 (slots_sort w) hs (.inl ⟨_, _, rfl⟩)
      have hall : ∀ v ∈ [Value.int n k], IsI v := List.forall_mem_cons.mpr ⟨⟨_, _, rfl⟩, List.forall_mem_nil _⟩
      by_cases hn : 0 ≤ n
      · exact (row_sub C hall (eff_dd (word_sort w).1) (by decide) (jmp_dd (word_sort w).1) (subs_sort1 hn) (slots_sort w)).congr ⟨fun h => ⟨_, _, rfl, h.2⟩, fun ⟨_, _, e, a⟩ => by cases e; exact ⟨hn, a⟩⟩
      · exact (row_plain C hall (eff_dd (word_sort w).1) (by decide) (jmp_dd (word_sort w).1) (subs_sort0 (by omega)) (slots_sort w)).congr ⟨fun _ => ⟨_, _, rfl, by omega⟩, fun _ => trivial⟩
    · exact (row_odd (chk_code1b (word_sort w).1 (slots_sort w) hs (.inr hv)) ⟨_, .head _, hv⟩).congr ⟨fun h => h.elim, fun ⟨_, _, e, _⟩ => odd_int hv ⟨_, _, e⟩⟩
  | func k0 k1 v1 v2 h1 h2 hn1 hn2 =>
    have C : ChkSpec w [.str (Str.ofString "func") k0, .str (Str.ofString "lc") k1, v1, v2] [v1, v2] := chk_dnw (word_func w).1 (slots_func w) (codes_func w) h1 h2
    rcases h1 with h1 | h1
    · rcases h2 with h2 | h2
      · obtain ⟨n, k, rfl⟩ := h1
        obtain ⟨n', k', rfl⟩ := h2
        obtain rfl := hn1 _ _ rfl
        obtain rfl := hn2 _ _ rfl
        exact (row_plain C (List.forall_mem_cons.mpr ⟨⟨_, _, rfl⟩, List.forall_mem_cons.mpr ⟨⟨_, _, rfl⟩, List.forall_mem_nil _⟩⟩) (eff_dnw (word_func w).1) (by decide) (jmp_dnw (word_func w).1) (subs_none (by decide +kernel) (by decide +kernel) (by decide +kernel)) (slots_func w)).congr ⟨fun _ => ⟨⟨_, _, rfl⟩, ⟨_, _, rfl⟩⟩, fun _ => trivial⟩
      · exact (row_odd C ⟨_, .tail _ (.head _), h2⟩).congr ⟨fun h => h.elim, fun h => odd_int h2 h.2⟩
    · exact (row_odd C ⟨_, .head _, h1⟩).congr ⟨fun h => h.elim, fun h => odd_int h1 h.1⟩
end
end -- W4
section -- W5
open PySem PySem.W PyProof.Rows PySem.Calls
set_option maxRecDepth 100000
section
variable {w : World}
/-- a row at place i: what it takes and leaves, where it goes -/
noncomputable def RowE (w : World) (i : Nat) (its : List Value) (tk lf : Int) (ps : List (Int × Int)) : Prop :=
  EffSpec w its tk lf ∧ HatSpec w its ps ∧ (ps = [(-1, lf - tk)] ∨ ps = [(-1, lf - tk), ((i : Int) + 1, lf - tk)] ∨ ps = [((i : Int) + 1, lf - tk)] ∨ ps = [((i : Int) + 1, lf - tk), ((i : Int) + 1, lf - tk), ((i : Int) + 1, lf - tk)])
inductive HRows (w : World) : Nat → Int → List (List Value) → Int → Prop
  | nil {i : Nat} {h : Int} : HRows w i h [] h
  | cons {i : Nat} {h h' : Int} {its : List Value} {tk lf : Int} {ps : List (Int × Int)} {rest : List (List Value)} : RowE w i its tk lf ps → tk ≤ h → HRows w (i + 1) (h + (lf - tk)) rest h' → HRows w i h (its :: rest) h'
theorem HRows.append {i : Nat} {h h1 h2 : Int} {a b : List (List Value)} (x : HRows w i h a h1) (y : HRows w (i + a.length) h1 b h2) : HRows w i h (a ++ b) h2 := by
  induction x with
  | nil => exact y
  | cons e l _ ih => exact .cons e l (ih (by rw [List.length_cons] at y; rw [show ∀ i k : Nat, i + 1 + k = i + (k + 1) by omega]; exact y))
theorem rowE_pad (i : Nat) {k0 : Tok} {x y : Value} : RowE w i [.str (Str.ofString "pad") k0, x, y] 0 1 [(-1, (1 - 0 : Int))] :=
  ⟨eff_dd (word_pad w).1, hat_0_true (eff_dd (word_pad w).1) (jmp_dd (word_pad w).1) (goes_of (nb := false) (by decide +kernel)) (word_pad w).2, .inl rfl⟩
theorem rowE_my (i : Nat) {k0 : Tok} {x y : Value} : RowE w i [.str (Str.ofString "my") k0, x, y] 0 1 [(-1, (1 - 0 : Int))] :=
  ⟨eff_dd (word_my w).1, hat_0_true (eff_dd (word_my w).1) (jmp_dd (word_my w).1) (goes_of (nb := false) (by decide +kernel)) (word_my w).2, .inl rfl⟩
theorem rowE_const (i : Nat) {k0 : Tok} {x : Value} : RowE w i [.str (Str.ofString "const") k0, x] 0 1 [(-1, (1 - 0 : Int))] :=
  ⟨eff_d (word_const w).1, hat_0_true (eff_d (word_const w).1) (jmp_d (word_const w).1) (goes_of (nb := false) (by decide +kernel)) (word_const w).2, .inl rfl⟩
theorem rowE_bindpad (i : Nat) {k0 : Tok} {x : Value} : RowE w i [.str (Str.ofString "bindpad") k0, x] 1 0 [(-1, (0 - 1 : Int))] :=
  ⟨eff_d (word_bindpad w).1, hat_0_true (eff_d (word_bindpad w).1) (jmp_d (word_bindpad w).1) (goes_of (nb := false) (by decide +kernel)) (word_bindpad w).2, .inl rfl⟩
theorem rowE_drop (i : Nat) {k0 : Tok}  : RowE w i [.str (Str.ofString "drop") k0] 1 0 [(-1, (0 - 1 : Int))] :=
  ⟨eff_e (word_drop w).1, hat_0_true (eff_e (word_drop w).1) (jmp_e (word_drop w).1) (goes_of (nb := false) (by decide +kernel)) (word_drop w).2, .inl rfl⟩
theorem rowE_empty (i : Nat) {k0 : Tok}  : RowE w i [.str (Str.ofString "empty") k0] 0 1 [(-1, (1 - 0 : Int))] :=
  ⟨eff_e (word_empty w).1, hat_0_true (eff_e (word_empty w).1) (jmp_e (word_empty w).1) (goes_of (nb := false) (by decide +kernel)) (word_empty w).2, .inl rfl⟩
theorem rowE_append (i : Nat) {k0 : Tok} {k1 : Tok} : RowE w i [.str (Str.ofString "append") k0, .int 1 k1] 1 1 [(-1, (1 - 1 : Int))] :=
  ⟨eff_n (word_append w).1, hat_0_true (eff_n (word_append w).1) (jmp_n (word_append w).1) (goes_of (nb := false) (by decide +kernel)) (word_append w).2, .inl rfl⟩
theorem rowE_closure (i : Nat) {k0 : Tok} {x : Value} : RowE w i [.str (Str.ofString "closure") k0, x] 0 1 [(-1, (1 - 0 : Int))] :=
  ⟨eff_d (word_closure w).1, hat_0_true (eff_d (word_closure w).1) (jmp_d (word_closure w).1) (goes_of (nb := false) (by decide +kernel)) (word_closure w).2, .inl rfl⟩
theorem rowE_map (i : Nat) {k0 : Tok} {x : Value} : RowE w i [.str (Str.ofString "map") k0, x] 1 1 [(-1, (1 - 1 : Int))] :=
  ⟨eff_d (word_map w).1, hat_0_true (eff_d (word_map w).1) (jmp_d (word_map w).1) (goes_of (nb := false) (by decide +kernel)) (word_map w).2, .inl rfl⟩
theorem rowE_sort (i : Nat) {k0 : Tok} {x y : Value} : RowE w i [.str (Str.ofString "sort") k0, x, y] 1 1 [(-1, (1 - 1 : Int))] :=
  ⟨eff_dd (word_sort w).1, hat_0_true (eff_dd (word_sort w).1) (jmp_dd (word_sort w).1) (goes_of (nb := false) (by decide +kernel)) (word_sort w).2, .inl rfl⟩
theorem rowE_func (i : Nat) {k0 : Tok} {x : Value} {k1 k2 : Tok} : RowE w i [.str (Str.ofString "func") k0, x, .int 0 k1, .int 1 k2] 0 1 [(-1, (1 - 0 : Int))] :=
  ⟨eff_dnw (word_func w).1, hat_0_true (eff_dnw (word_func w).1) (jmp_dnw (word_func w).1) (goes_of (nb := false) (by decide +kernel)) (word_func w).2, .inl rfl⟩
theorem rowE_jump (i : Nat) {k0 : Tok} {k1 : Tok} : RowE w i [.str (Str.ofString "jump") k0, .int ((i : Int) + 1) k1] 0 0 [((i : Int) + 1, (0 - 0 : Int))] :=
  ⟨eff_j (word_jump w).1, hat_1_false (eff_j (word_jump w).1) (jmp_j (word_jump w).1) (goes_of (nb := true) (by decide +kernel)) (word_jump w).2, .inr (.inr (.inl rfl))⟩
theorem rowE_iffalse (i : Nat) {k0 : Tok} {k1 : Tok} : RowE w i [.str (Str.ofString "iffalse") k0, .int ((i : Int) + 1) k1] 1 0 [(-1, (0 - 1 : Int)), ((i : Int) + 1, (0 - 1 : Int))] :=
  ⟨eff_j (word_iffalse w).1, hat_1_true (eff_j (word_iffalse w).1) (jmp_j (word_iffalse w).1) (goes_of (nb := false) (by decide +kernel)) (word_iffalse w).2, .inr (.inl rfl)⟩
theorem rowE_bywant (i : Nat) {k0 : Tok} {k1 k2 k3 : Tok} : RowE w i [.str (Str.ofString "bywant") k0, .int ((i : Int) + 1) k1, .int ((i : Int) + 1) k2, .int ((i : Int) + 1) k3] 0 0 [((i : Int) + 1, (0 - 0 : Int)), ((i : Int) + 1, (0 - 0 : Int)), ((i : Int) + 1, (0 - 0 : Int))] :=
  ⟨eff_jjj (word_bywant w).1, hat_3_false (eff_jjj (word_bywant w).1) (jmp_jjj (word_bywant w).1) (goes_of (nb := true) (by decide +kernel)) (word_bywant w).2, .inr (.inr (.inr rfl))⟩
end
end -- W5
section -- W6
open PySem PySem.W PyProof.Rows PySem.Calls
set_option maxRecDepth 100000
section
variable {w : World}
theorem run_heights {i : Nat} {slot : Int} {run : List (List Value)} (h : RunRel (i : Nat) slot run) : HRows w i 0 run 0 := by
  cases h with
  | pad => exact .cons (rowE_pad i) (by decide) (.cons (rowE_drop _) (by decide) .nil)
  | my => exact .cons (rowE_my i) (by decide) (.cons (rowE_drop _) (by decide) .nil)
  | bind => exact .cons (rowE_const i) (by decide) (.cons (rowE_bindpad _) (by decide) .nil)
  | jump => exact .cons (rowE_jump i) (by decide) .nil
  | iff k0 k1 k2 k3 =>
    have e : (i : Int) + 2 = ((i + 1 : Nat) : Int) + 1 := by omega
    rw [e]
    exact .cons (rowE_const i) (by decide) (.cons (rowE_iffalse (i + 1)) (by decide) .nil)
  | app => exact .cons (rowE_empty i) (by decide) (.cons (rowE_append _) (by decide) (.cons (rowE_drop _) (by decide) .nil))
  | clo => exact .cons (rowE_closure i) (by decide) (.cons (rowE_drop _) (by decide) .nil)
  | map => exact .cons (rowE_empty i) (by decide) (.cons (rowE_map _) (by decide) (.cons (rowE_drop _) (by decide) .nil))
  | byw => exact .cons (rowE_bywant i) (by decide) .nil
  | sort => exact .cons (rowE_empty i) (by decide) (.cons (rowE_sort _) (by decide) (.cons (rowE_drop _) (by decide) .nil))
  | func => exact .cons (rowE_func i) (by decide) (.cons (rowE_drop _) (by decide) .nil)
theorem built_heights {itss : List (List Value)} (h : Built itss) : HRows w 0 0 itss 0 := by
  induction h with
  | nil => exact .nil
  | step _ r _ ih => exact ih.append (by rw [Nat.zero_add]; exact run_heights r)
end
end -- W6
section -- W7
open PySem PySem.W PyProof.Rows PySem.Calls
set_option maxRecDepth 100000
section
variable {w : World}
theorem hrows_fun {i : Nat} {h h' : Int} {itss : List (List Value)} (x : HRows w i h itss h') : ∃ (tk lf H : Nat → Int) (ps : Nat → List (Int × Int)), H i = h ∧ H (i + itss.length) = h' ∧
    ∀ j its, itss[j]? = some its → RowE w (i + j) its (tk (i + j)) (lf (i + j)) (ps (i + j)) ∧ tk (i + j) ≤ H (i + j) ∧ H (i + j + 1) = H (i + j) + (lf (i + j) - tk (i + j)) := by
  induction x with
  | nil => exact ⟨fun _ => 0, fun _ => 0, fun _ => _, fun _ => [], rfl, rfl, fun j its e => by simp at e⟩
  | @cons i h h' its tk lf ps rest e l _ ih =>
    obtain ⟨tk', lf', H', ps', h0, h1, hj⟩ := ih
    refine ⟨fun k => if k = i then tk else tk' k, fun k => if k = i then lf else lf' k, fun k => if k = i then h else H' k, fun k => if k = i then ps else ps' k, if_pos rfl, ?_, fun j its' ej => ?_⟩
    · rw [List.length_cons]
      show (if i + (rest.length + 1) = i then h else H' (i + (rest.length + 1))) = h'
      rw [if_neg (by omega), ← h1]
      congr 1; omega
    · cases j with
      | zero =>
        obtain rfl : its = its' := by simpa using ej
        simp only [Nat.add_zero, if_pos]
        refine ⟨e, l, ?_⟩
        rw [if_neg (by omega), h0]
      | succ j =>
        have ej' : rest[j]? = some its' := by simpa using ej
        obtain ⟨a, b, c⟩ := hj j its' ej'
        have e1 : i + (j + 1) = i + 1 + j := by omega
        rw [e1]
        simp only [if_neg (show ¬ i + 1 + j = i by omega), if_neg (show ¬ i + 1 + j + 1 = i by omega)]
        exact ⟨a, b, c⟩
theorem RowsIn.at {nw : List (Addr × Obj)} {rs : List Addr} {itss : List (List Value)} (h : RowsIn nw rs itss) : ∀ {i : Nat} {x : Addr}, rs[i]? = some x → ∃ its, itss[i]? = some its ∧ (x, tupOb its) ∈ nw := by
  induction h with
  | nil => intro i x e; simp at e
  | cons a _ ih =>
    intro i x e
    cases i with
    | zero =>
      obtain rfl := Option.some.inj (by simpa using e)
      exact ⟨_, rfl, a⟩
    | succ i => exact ih (by simpa using e)
theorem rows_of {news : List (Addr × Obj)} {rs : List Addr} {itss : List (List Value)} {wd : Str} {kw : Tok} {t0 : Int} {h' : Int} (x : HRows w 0 0 itss h') (hl : t0 ≤ h') (hE : EffSpec w [.str wd kw] t0 0) (hH : HatSpec w [.str wd kw] []) (hri : RowsIn news rs (itss ++ [[.str wd kw]])) : ∃ tk lf H ps, Rows w news rs tk lf H ps := by
  obtain ⟨tk, lf, H, ps, h0, h1, hj⟩ := hrows_fun x
  have hlen : rs.length = itss.length + 1 := by rw [hri.len, List.length_append, List.length_singleton]
  rw [Nat.zero_add] at h1
  refine ⟨fun k => if k = itss.length then t0 else tk k, fun k => if k = itss.length then 0 else lf k, fun k => if k = itss.length + 1 then h' + (0 - t0) else H k, fun k => if k = itss.length then [] else ps k, by simp [h0], fun i hi => ?_, fun i hi => ?_, fun i y e => ?_, fun i hi => ?_⟩
  all_goals (try rw [hlen] at hi)
  · by_cases c : i = itss.length
    · subst c; simp [h1]
    · have hi' : i < itss.length := by omega
      obtain ⟨_, _, q⟩ := hj i _ (List.getElem?_eq_getElem hi')
      simp only [Nat.zero_add] at q
      simp only [if_neg c, if_neg (show ¬ i + 1 = itss.length + 1 by omega), if_neg (show ¬ i = itss.length + 1 by omega)]
      exact q
  · by_cases c : i = itss.length
    · subst c; simp [h1]; exact hl
    · have hi' : i < itss.length := by omega
      obtain ⟨_, q, _⟩ := hj i _ (List.getElem?_eq_getElem hi')
      simp only [Nat.zero_add] at q
      simp only [if_neg c, if_neg (show ¬ i = itss.length + 1 by omega)]
      exact q
  · obtain ⟨its, e1, hm⟩ := hri.at e
    refine ⟨its, hm, ?_⟩
    by_cases c : i = itss.length
    · subst c
      obtain rfl : [Value.str wd kw] = its := by simpa using e1
      simp only [if_pos]
      exact ⟨hE, hH⟩
    · have hi' : i < itss.length := by
        have := (List.getElem?_eq_some_iff.mp e1).1
        rw [List.length_append, List.length_singleton] at this; omega
      rw [List.getElem?_append_left hi'] at e1
      obtain ⟨q, _, _⟩ := hj i its e1
      simp only [Nat.zero_add] at q
      simp only [if_neg c]
      exact ⟨q.1, q.2.1⟩
  · by_cases c : i = itss.length
    · exact .inl (by simp [c])
    · have hi' : i < itss.length := by omega
      obtain ⟨q, _, _⟩ := hj i _ (List.getElem?_eq_getElem hi')
      simp only [Nat.zero_add] at q
      simp only [if_neg c]
      exact .inr ⟨by omega, q.2.2⟩
end
end -- W7
end
end
section
local macro_rules | `(tactic| walk_at "HATOPEN") => `(tactic| skip)
section -- X1
open PySem PySem.W PyProof.Rows PySem.Calls
set_option maxRecDepth 100000
set_option maxHeartbeats 8000000
section
variable {w : World} {mean : ExcName → Option Value} {mg mb : Str → Option Value} {dp un : Nat} {gd : Option (List Code)} {cn : Str} {cs : Scope} {a : Addr} {ccd : Value} {cl : List (Str × Addr)} {outer : List Env} {A₀ : Around} {base h₀ : Heap} {L : Addr} {m : Str → Option Value} {news : List (Addr × Obj)} {s : Shared} {Q E : Value → Shared → Prop}
local macro_rules | `(tactic| walk_at "TAILS") => `(tactic| k_extra "z71")
local macro_rules | `(tactic| walk_at "UNITS") => `(tactic| k_extra "z116")
local macro_rules | `(tactic| walk_at "exec Assign cons ListComp") => `(tactic| k_extra "z117")
local macro_rules | `(tactic| walk_at "SpotSrc") => `(tactic| k_extra "z59")
theorem eq_nil2 {prog : Program} {A : Around} {E : Value → Shared → Prop} {D b : Addr} {k n : Nat} {Q : Value → Shared → Prop} (hu : A.units < cLine) (N : News h₀ L s.heap news) (hm : (D, W.listOf ([] : List Value).toArray n) ∈ news) (hb : (b, W.listOf ([] : List Value).toArray k) ∈ news)
    (h : Q (.bool true) s) : wpAny (model prog w) A (compareOp .Eq (.ref D) (.ref b)) Q E s :=
  SeqAt.eq_listAt (e := fun _ => true) (lof_in N hm) (lof_in N hb) rfl hu (fun j h1 => absurd h1 (by simp)) (by simpa using h)
theorem tup_add2 {prog : Program} {A : Around} {E : Value → Shared → Prop} {t b : Addr} {vs ws : List Value} {Q : Value → Shared → Prop} (F : Fr h₀ L s.heap m) (N : News h₀ L s.heap news) (ht : (t, tupOb vs) ∈ news) (hb : (b, tupOb ws) ∈ news) (hv : vs ≠ []) (hl : vs.length + ws.length ≤ 100)
    (h : ∀ D h', Fr h₀ L h' m → News h₀ L h' ((D, tupOb (vs ++ ws)) :: news) → Q (.ref D) { s with heap := h' }) : wpAny (model prog w) A (binaryOp .Add (.ref t) (.ref b)) Q E s :=
  tup_add F N (tup_in N ht) (tup_in N hb) hv hl (fun e => by
    subst e
    refine h t _ F ?_
    rw [List.append_nil]
    exact List.forall_mem_cons.mpr ⟨N _ ht, N⟩) fun _ D h' F' N' _ => h D h' F' N'
theorem cut_set {α : Type} (x : α) : ∀ {l : List α} {q : Nat}, q < l.length → l.take q ++ [x] ++ l.drop (q + 1) = l.set q x
  | [], _, h => absurd h (Nat.not_lt_zero _)
  | a :: l, 0, _ => rfl
  | a :: l, q + 1, h => by
    have ih := cut_set x (l := l) (q := q) (Nat.lt_of_succ_lt_succ h)
    rw [List.take_succ_cons, List.drop_succ_cons, List.set_cons_succ, ← ih, List.cons_append, List.cons_append]
theorem cut_map (T : Addr) {rs : List Addr} {i : Nat} (h : i < rs.length) : (rs.map Value.ref).take i ++ [Value.ref T] ++ (rs.map Value.ref).drop (i + 1) = (rs.set i T).map Value.ref := by
  rw [cut_set _ (by rw [List.length_map]; exact h), List.map_set]
theorem rowsIn_set {nw : List (Addr × Obj)} {rs : List Addr} {itss : List (List Value)} {T : Addr} {its : List Value} (h : RowsIn nw rs itss) (hT : (T, tupOb its) ∈ nw) : ∀ i : Nat, RowsIn nw (rs.set i T) (itss.set i its) := by
  induction h with
  | nil => intro i; exact .nil
  | cons a r ih =>
    intro i
    cases i with
    | zero => exact .cons hT r
    | succ i => exact .cons a (ih i)
inductive PlacesOf (w : World) (wd : Str) : List Int → Prop
  | found {al : Addr} {vs : List Value} {n0 : Nat} {ns : List Int} : nsIn (KK w.params) 302 wd = some (some (.ref al)) → (KK w.params).lookup al = some ⟨.type "list", none, .seq vs.toArray n0, #[]⟩ → IntsAre vs ns → PlacesOf w wd ns
  | none : nsIn (KK w.params) 302 wd = some none → PlacesOf w wd []
noncomputable def BentRow (w : World) (G : Nat → List Value → Int → Prop) (i : Nat) (its : List Value) : Prop := ∃ wd kw rest ns, its = .str wd kw :: rest ∧ its.length ≤ 8 ∧ PlacesOf w wd ns ∧ ns.length ≤ 3 ∧ ∀ p ∈ ns, 1 ≤ p ∧ p.toNat < its.length ∧ G i its p
noncomputable def Bent (G : Nat → List Value → Int → Prop) (odd : Value) (itss itss' : List (List Value)) : Prop := itss' = itss ∨ ∃ (i : Nat) (its : List Value) (q : Int), itss[i]? = some its ∧ G i its q ∧ 1 ≤ q ∧ q.toNat < its.length ∧ itss' = itss.set i (its.set q.toNat odd)
local macro_rules | `(tactic| walk_at "eval Name") => `(tactic| k_extra "z118")
local macro_rules | `(tactic| walk_at "compareOp Eq ref ref") => `(tactic| k_extra "z119")
local macro_rules | `(tactic| walk_at "compareOp Eq ref ref") => `(tactic| k_extra "z120")
local macro_rules | `(tactic| walk_at "eval Name") => `(tactic| k_extra "z121")
local macro_rules | `(tactic| walk_at "subscriptTail") => `(tactic| k_extra "z122")
local macro_rules | `(tactic| walk_at "SLC") => `(tactic| k_extra "z123")
local macro_rules | `(tactic| walk_at "subscriptTail") => `(tactic| k_extra "z124")
local macro_rules | `(tactic| walk_at "subscriptTail") => `(tactic| k_extra "z125")
local macro_rules | `(tactic| walk_at "SLT") => `(tactic| k_extra "z126")
local macro_rules | `(tactic| walk_at "subscriptTail") => `(tactic| k_extra "z127")
local macro_rules | `(tactic| walk_at "subscriptTail") => `(tactic| k_extra "z128")
local macro_rules | `(tactic| walk_at "binaryOp Add ref ref") => `(tactic| k_extra "z129")
local macro_rules | `(tactic| walk_at "binaryOp Add ref ref") => `(tactic| k_extra "z130")
local macro_rules | `(tactic| walk_at "SpotOut") => `(tactic| k_extra "z59")
local macro_rules | `(tactic| walk_at "SpotEnd") => `(tactic| k_extra "z59")
noncomputable def SpotV (itss : List (List Value)) (G : Nat → List Value → Int → Prop) (i : Nat) (p : Value) : Prop := ∃ its q t, itss[i]? = some its ∧ p = .int q t ∧ G i its q ∧ 1 ≤ q ∧ q.toNat < its.length
noncomputable def SpotJ (b0 : List (Addr × Obj)) (itss : List (List Value)) (G : Nat → List Value → Int → Prop) (ys : List Value) (nw : List (Addr × Obj)) : Prop :=
  (∀ p ∈ b0, p ∈ nw) ∧ ∀ y ∈ ys, ∃ T i q ti tq its, y = .ref T ∧ (T, tupOb [.int ((i : Nat) : Int) ti, .int q tq]) ∈ nw ∧ itss[i]? = some its ∧ G i its q ∧ 1 ≤ q ∧ q.toNat < its.length
theorem rowsIn_at {nw : List (Addr × Obj)} {rs : List Addr} {itss : List (List Value)} (h : RowsIn nw rs itss) : ∀ {i : Nat}, i < rs.length → ∃ y its, rs[i]? = some y ∧ itss[i]? = some its ∧ (y, tupOb its) ∈ nw := by
  induction h with
  | nil => intro i hi; exact absurd hi (Nat.not_lt_zero i)
  | cons a _ ih =>
    intro i hi
    cases i with
    | zero => exact ⟨_, _, rfl, rfl, a⟩
    | succ i => exact ih (Nat.lt_of_succ_lt_succ hi)
theorem SpotJ.mono {b0 : List (Addr × Obj)} {itss : List (List Value)} {G : Nat → List Value → Int → Prop} {ys : List Value} {nw nw' : List (Addr × Obj)} (j : SpotJ b0 itss G ys nw) (h : ∀ p ∈ nw, p ∈ nw') : SpotJ b0 itss G ys nw' :=
  ⟨fun p hp => h _ (j.1 p hp), fun y hy => let ⟨T, i, q, ti, tq, its, a, b, c⟩ := j.2 y hy; ⟨T, i, q, ti, tq, its, a, h _ b, c⟩⟩
theorem ints_mem {vs : List Value} {ns : List Int} (hi : IntsAre vs ns) {p : Value} (hp : p ∈ vs) : ∃ q t, p = .int q t ∧ q ∈ ns := by
  obtain ⟨k, hk, e⟩ := List.getElem_of_mem hp
  have hl := hi.length
  have hk2 : k < ns.length := by omega
  obtain ⟨t, ht⟩ := hi.get k (ns[k]'hk2) (by simp)
  refine ⟨_, t, ?_, List.getElem_mem hk2⟩
  rw [List.getElem?_eq_getElem hk, e] at ht
  exact Option.some.inj ht
theorem allLt_ne {d : Nat} : ∀ {l : List (Addr × Obj)}, AllLt d l → ∀ p ∈ l, @Ne Nat p.1 d
  | [], _, _, h => nomatch h
  | _ :: _, x, p, h => by
    rcases List.mem_cons.mp h with rfl | h
    · exact Nat.ne_of_lt x.1
    · exact allLt_ne x.2 p h
theorem spot_out {g h' : Heap} {L I C D l' al : Addr} {oI oC oD ol : Obj} {m : Str → Option Value} {b0 nw' : List (Addr × Obj)} {itss : List (List Value)} {G : Nat → List Value → Int → Prop} {ys : List Value} {V : Value → Prop} {its : Array Value} {s₁ : Shared} {tk : Nat}
    (F : Fr g L h' m) (N : News g L h' ((l', ol) :: (I, oI) :: (C, oC) :: (D, oD) :: nw')) (lt : (@LT.lt Nat _ I l') ∧ (@LT.lt Nat _ C l') ∧ (@LT.lt Nat _ D l') ∧ AllLt l' nw') (hj : SpotJ b0 itss G ys nw') (off : ∀ q ∈ nw', q.1 ∉ [I, C, D])
    (src : g.IsList al its ∨ (al = l' ∧ ol.cls = .type "list" ∧ ∃ n, ol.data = .seq its n)) (hsz : its.size ≤ 3) (hV : ∀ p ∈ its.toList, V p) :
    SpotOut g L m s₁ [(I, oI), (C, oC), (D, oD)] nw' [I, C, D] V (SpotJ b0 itss G ys) (.ref al) { s₁ with heap := h', toks := tk } := by
  refine ⟨al, its, rfl, hsz, hV, h', tk, (l', ol) :: nw', rfl, F, News.perm N (fun p hp => ?_), fun p hp => .tail _ hp, fun q hq => ?_, hj.mono fun p hp => .tail _ hp, ?_⟩
  · simp only [List.cons_append, List.nil_append, List.mem_cons] at hp ⊢
    rcases hp with h | h | h | h | h <;> simp [h]
  · rcases List.mem_cons.mp hq with rfl | hq
    · simp only [List.mem_cons, List.not_mem_nil, or_false, not_or]
      exact ⟨Nat.ne_of_gt lt.1, Nat.ne_of_gt lt.2.1, Nat.ne_of_gt lt.2.2.1⟩
    · exact off q hq
  · rcases src with h | ⟨rfl, h⟩
    · exact .inl h
    · exact .inr ⟨_, .head _, h⟩
theorem spot_end {g h' : Heap} {L I2 I C D T : Addr} {oI2 oI oC oD : Obj} {m : Str → Option Value} {b0 nw' : List (Addr × Obj)} {itss : List (List Value)} {G : Nat → List Value → Int → Prop} {ys its : List Value} {i : Nat} {q : Int} {ti tq : Tok} {s₁ : Shared} {tk : Nat}
    (F : Fr g L h' m) (N : News g L h' ((T, tupOb [.int ((i : Nat) : Int) ti, .int q tq]) :: (I2, oI2) :: (I, oI) :: (C, oC) :: (D, oD) :: nw')) (lt : (@LT.lt Nat _ I2 T) ∧ (@LT.lt Nat _ I T) ∧ (@LT.lt Nat _ C T) ∧ (@LT.lt Nat _ D T) ∧ AllLt T nw') (hj : SpotJ b0 itss G ys nw') (off : ∀ q ∈ nw', q.1 ∉ [I2, I, C, D])
    (h1 : itss[i]? = some its) (h2 : G i its q) (h3 : 1 ≤ q) (h4 : q.toNat < its.length) :
    SpotEnd g L m s₁ [(I2, oI2), (I, oI), (C, oC), (D, oD)] nw' [I2, I, C, D] (fun y nw => SpotJ b0 itss G (ys ++ [y]) nw) (.ref T) { s₁ with heap := h', toks := tk } := by
  refine ⟨h', tk, (T, tupOb [.int ((i : Nat) : Int) ti, .int q tq]) :: nw', rfl, F, News.perm N (fun p hp => ?_), fun p hp => .tail _ hp, fun q hq => ?_, fun p hp => .tail _ (hj.1 p hp), fun y hy => ?_⟩
  · simp only [List.cons_append, List.nil_append, List.mem_cons] at hp ⊢
    rcases hp with h | h | h | h | h | h <;> simp [h]
  · rcases List.mem_cons.mp hq with rfl | hq
    · simp only [List.mem_cons, List.not_mem_nil, or_false, not_or]
      exact ⟨Nat.ne_of_gt lt.1, Nat.ne_of_gt lt.2.1, Nat.ne_of_gt lt.2.2.1, Nat.ne_of_gt lt.2.2.2.1⟩
    · exact off q hq
  · rcases List.mem_append.mp hy with hy | hy
    · exact (hj.mono fun p hp => .tail _ hp).2 y hy
    · rw [List.mem_singleton.mp hy]
      exact ⟨T, i, q, ti, tq, its, rfl, .head _, h1, h2, h3, h4⟩
set_option maxHeartbeats 400000 in
theorem bent_ok {R : Addr} {rs : List Addr} {nR : Nat} {itss : List (List Value)} {which : Int} {kw : Tok} {odd : Value} {G : Nat → List Value → Int → Prop} (hRm : (R, W.listOf (rs.map Value.ref).toArray nR) ∈ news) (hri : RowsIn news rs itss) (hlen : rs.length ≤ 30) (h0 : 0 ≤ which) (hodd : OddV odd)
    (hrow : ∀ (i : Nat) its, itss[i]? = some its → BentRow w G i its)
    (B : Below A₀ base outer h₀) (F : Fr h₀ L s.heap m) (X : (KK w.params).In h₀) (N : News h₀ L s.heap news) (T : Top vw lo mean mg mb h₀) (hk : cs.kind = .function) (hroom : dp + 10 < recursionLimit) (hun : un + 100 < cLine)
    (ret : ∀ R' rs' itss' nR' nw h' tk', Bent G odd itss itss' → RowsIn nw rs' itss' → (R', W.listOf (rs'.map Value.ref).toArray nR') ∈ nw → (∀ p ∈ news, p ∈ nw) → Fr h₀ L h' m → News h₀ L h' nw → Q (.ref R') { s with heap := h', toks := tk' }) :
  wpAny (model PySem.Challenge.rw_qz0086_01.row.prog w) (ktrTop dp un gd cn cs L a ccd cl outer) (call (.ref 335) [.ref R, .int which kw, odd]) Q E s := by
  revert X N T
  k_fill
  intro X N T
  refine wpAny_call ?_
  refine' code_defC (binds := [(Str.ofString "rows", .ref R), (Str.ofString "which", .int which kw), (Str.ofString "odd", odd)]) B F X N T rfl rfl hk ?k6 ?k7 ?k8 ?k9 ?kB ?kD ?_ ?c2 ?c3 ?c4
  walk_at "ENTERC"
  k_steps
  refine stopG ?_
  rename Fr _ _ _ _ => F2
  rename News _ _ _ _ => N2
  rename IsRange _ _ _ _ _ _ _ _ => hr2
  rename _ = Data.cell _ => hcell
  have hcell8 : _ = Data.cell (some (.ref R)) := hcell.trans (by with_unfolding_all rfl)
  clear hcell
  refine ⟨_, _, _, _, _, _, SpotV itss G, SpotJ _ itss G, rfl, F2, N2, hr2, by rw [List.length_map]; omega, ⟨fun p hp => hp, fun y hy => nomatch hy⟩, ?_, ?_, ?_⟩
  · intro i t I oI C oC D m₂ h tk ys nw' E' hi hoC hm F1 N1 off hj
    obtain ⟨y, its, hy, hits, hym⟩ := rowsIn_at hri (by rw [List.length_map] at hi; exact hi)
    obtain ⟨wd, kw1, rest, ns, rfl, hrest, hpl, hns3, hG⟩ := hrow i its hits
    have hyr : (rs.map Value.ref)[i]? = some (.ref y) := by rw [List.getElem?_map, hy]; rfl
    have hc8 := hj.1 _ (.head _)
    have hR8 := hj.1 _ (.tail _ hRm)
    have hy8 := hj.1 _ (.tail _ hym)
    cases hpl with
    | found hf hl hia =>
      have hl3 := hia.length
      k_steps
      refine stopG ?_
      rename Fr _ _ _ _ => F9
      rename News _ _ _ _ => N9
      rename _ ∧ _ ∧ _ ∧ AllLt _ _ => l9
      exact spot_out F9 N9 l9 hj off (.inl (lstK X' hl)) (by rw [List.size_toArray]; omega) (fun p hp => by
        obtain ⟨q, t, rfl, hq⟩ := ints_mem hia (by simpa using hp)
        exact ⟨_, q, t, hits, rfl, (hG q hq).2.2, (hG q hq).1, (hG q hq).2.1⟩)
    | none hf =>
      k_steps
      refine stopG ?_
      rename Fr _ _ _ _ => F9
      rename News _ _ _ _ => N9
      rename _ ∧ _ ∧ _ ∧ AllLt _ _ => l9
      exact spot_out (its := #[]) F9 N9 l9 hj off (.inr ⟨rfl, rfl, _, rfl⟩) (by simp) (fun p hp => by simp at hp)
  · intro i t p I2 oI2 I oI C oC D m₂ h tk ys nw' E' hi hv hoC hm1 hm2 F1 N1 off hj
    obtain ⟨its, q, tq, hits, rfl, hG, hq0, hq1⟩ := hv
    k_steps
    refine stopG ?_
    rename Fr _ _ _ _ => F9
    rename News _ _ _ _ => N9
    rename _ ∧ _ ∧ _ ∧ _ ∧ AllLt _ _ => l9
    exact spot_end F9 N9 l9 hj off hits hG hq0 hq1
  · intro D h tk ys nw' hyl F1 N1 off hj
    have hc8 := hj.1 _ (.head _)
    have hR8 := hj.1 _ (.tail _ hRm)
    cases ys with
    | nil =>
      k_steps
      rename Fr _ _ _ _ => F9
      rename News _ _ _ _ => N9
      exact ret R rs itss nR _ _ _ (.inl rfl) (hri.mono fun p hp => by have hp8 := hj.1 p (.tail _ hp); walk_at "MEM") (by walk_at "MEM") (fun p hp => by have hp8 := hj.1 p (.tail _ hp); walk_at "MEM") F9 N9
    | cons y0 yr =>
      have hyn : y0 :: yr ≠ [] := by simp
      have hyl2 : yr.length + 1 ≤ 300 := hyl
      have hyp : (((y0 :: yr).length : Nat) : Int) = (yr.length : Int) + 1 := by simp
      k_steps
      refine stopG ?_
      rename Fr _ _ _ _ => F2
      rename News _ _ _ _ => N2
      refine lof_any N2 (vs := y0 :: yr) (n := (y0 :: yr).length) (by walk_at "MEM") (Int.fmod_nonneg_of_pos _ (by omega)) (Int.fmod_lt_of_pos _ (by omega)) (by omega) ?_
      intro x hx
      obtain ⟨T9, i, q, ti, tq, its, rfl, hT8, hits, hG, hq0, hq1⟩ := hj.2 x hx
      have hi2 : i < rs.length := by
        have := (List.getElem?_eq_some_iff.mp hits).1
        rw [hri.len]; exact this
      obtain ⟨y, its', hy, hits', hym⟩ := rowsIn_at hri hi2
      obtain rfl : its' = its := Option.some.inj (hits'.symm.trans hits)
      obtain ⟨wd, kw1, rest, ns, rfl, hrest, hpl, hns3, hG2⟩ := hrow i _ hits
      have hyr : (rs.map Value.ref)[i]? = some (.ref y) := by rw [List.getElem?_map, hy]; rfl
      have hy8 := hj.1 _ (.tail _ hym)
      obtain ⟨qn, rfl⟩ : ∃ n : Nat, q = (n : Int) := ⟨q.toNat, by omega⟩
      have hqn0 : 1 ≤ qn := by omega
      have hqn1 : qn < (Value.str wd kw1 :: rest).length := by simpa using hq1
      have hrl9 : (Value.str wd kw1 :: rest).length ≤ 8 := hrest
      clear hrow hG2 hns3 hpl hrest
      generalize hits9 : Value.str wd kw1 :: rest = its9 at *
      have htn : its9.take qn ≠ [] := by
        intro e
        have := congrArg List.length e
        rw [List.length_take, List.length_nil] at this
        omega
      k_steps
      rename Fr _ _ _ _ => F9
      rename News _ _ _ _ => N9
      rw [cut_map _ hi2, cut_set _ hqn1] at N9
      refine ret ?zR ?zrs (itss.set i (its9.set qn odd)) 0 _ _ _ ?zb ?zr ?zm ?zs F9 N9
      case zm => exact List.Mem.head _
      case zb => exact .inr ⟨i, its9, (qn : Int), hits, hG, by omega, by simpa using hqn1, by simp⟩
      case zr => exact rowsIn_set (hri.mono fun p hp => by have hp8 := hj.1 p (.tail _ hp); walk_at "MEM") (by walk_at "MEM") i
      case zs => exact fun p hp => by have hp8 := hj.1 p (.tail _ hp); walk_at "MEM"
end
end -- X1
section -- Y1
open PySem PySem.W PyProof.Rows PySem.Calls
set_option maxRecDepth 100000
theorem fill_y (w : World) : PySem.Challenge.rw_qz0086_01 = PySem.Challenge.rw_qz0086_01 ∧ KK w.params = KK w.params := by
  k_fill
  exact ⟨rfl, rfl⟩
section
variable {w : World}
open Classical in
theorem exists_oks2 {itss : List (List Value)} {P : Nat → (Int → Int → Prop) → Prop} (h : ∀ (i : Nat) its, itss[i]? = some its → ∃ ok, RowG i its ok ∧ P i ok) : ∃ oks : Nat → Int → Int → Prop, ∀ (i : Nat) its, itss[i]? = some its → RowG i its (oks i) ∧ P i (oks i) := by
  refine ⟨fun i => if e : ∃ its, itss[i]? = some its then (h i e.choose e.choose_spec).choose else fun _ _ => True, fun i its e => ?_⟩
  have e2 : ∃ its, itss[i]? = some its := ⟨its, e⟩
  dsimp only
  rw [dif_pos e2]
  have h3 : e2.choose = its := Option.some.inj (e2.choose_spec.symm.trans e)
  have h4 := (h i e2.choose e2.choose_spec).choose_spec
  refine ⟨?_, h4.2⟩
  rw [← h3]
  exact h4.1
open Classical in
theorem exists_oks {itss : List (List Value)} (h : ∀ (i : Nat) its, itss[i]? = some its → ∃ ok, RowG i its ok) : ∃ oks : Nat → Int → Int → Prop, ∀ (i : Nat) its, itss[i]? = some its → RowG i its (oks i) := by
  refine ⟨fun i => if e : ∃ its, itss[i]? = some its then (h i e.choose e.choose_spec).choose else fun _ _ => True, fun i its e => ?_⟩
  have e2 : ∃ its, itss[i]? = some its := ⟨its, e⟩
  dsimp only
  rw [dif_pos e2]
  have h3 : e2.choose = its := Option.some.inj (e2.choose_spec.symm.trans e)
  have h4 := (h i e2.choose e2.choose_spec).choose_spec
  rw [← h3]
  exact h4
theorem run_rowg {n : Nat} {slot : Int} {run : List (List Value)} (h : RunRel (n : Nat) slot run) : ∀ (j : Nat) its, run[j]? = some its → ∃ ok, RowG (n + j) its ok := by
  have hI : ∀ (k : Int) t, IsI (.int k t) ∨ OddV (.int k t) := fun k t => .inl ⟨_, _, rfl⟩
  have e1 : ∀ {a b : Int} {t : Tok} (m : Int) (k : Tok), Value.int b t = .int m k → b = a → m = a := fun m k e q => by cases e; exact q
  intro j its hj
  cases h with
  | pad k0 k1 k2 k3 =>
    match j, hj with
    | 0, hj => cases hj; exact ⟨_, .pad _ _ _ (hI _ _)⟩
    | 1, hj => cases hj; exact ⟨_, .drop _⟩
    | j + 2, hj => simp at hj
  | my k0 k1 k2 k3 =>
    match j, hj with
    | 0, hj => cases hj; exact ⟨_, .my _ _ _ (hI _ _)⟩
    | 1, hj => cases hj; exact ⟨_, .drop _⟩
    | j + 2, hj => simp at hj
  | bind k0 k1 k2 k3 =>
    match j, hj with
    | 0, hj => cases hj; exact ⟨_, .const _ _ _⟩
    | 1, hj => cases hj; exact ⟨_, .bind _ _ (hI _ _)⟩
    | j + 2, hj => simp at hj
  | jump k0 k1 =>
    match j, hj with
    | 0, hj => cases hj; exact ⟨_, .jump _ _ (hI _ _) fun m k e => e1 m k e (by omega)⟩
    | j + 1, hj => simp at hj
  | iff k0 k1 k2 k3 =>
    match j, hj with
    | 0, hj => cases hj; exact ⟨_, .const _ _ _⟩
    | 1, hj => cases hj; exact ⟨_, .iff _ _ (hI _ _) fun m k e => e1 m k e (by omega)⟩
    | j + 2, hj => simp at hj
  | app k0 k1 k2 k3 =>
    match j, hj with
    | 0, hj => cases hj; exact ⟨_, .empty _⟩
    | 1, hj => cases hj; exact ⟨_, .app _ _ (hI _ _) fun m k e => e1 m k e rfl⟩
    | 2, hj => cases hj; exact ⟨_, .drop _⟩
    | j + 3, hj => simp at hj
  | clo k0 k1 k2 =>
    match j, hj with
    | 0, hj => cases hj; exact ⟨_, .clo _ _ (hI _ _) fun m k e => e1 m k e rfl⟩
    | 1, hj => cases hj; exact ⟨_, .drop _⟩
    | j + 2, hj => simp at hj
  | map k0 k1 k2 k3 =>
    match j, hj with
    | 0, hj => cases hj; exact ⟨_, .empty _⟩
    | 1, hj => cases hj; exact ⟨_, .map _ _ (hI _ _) fun m k e => e1 m k e rfl⟩
    | 2, hj => cases hj; exact ⟨_, .drop _⟩
    | j + 3, hj => simp at hj
  | byw k0 k1 k2 k3 =>
    match j, hj with
    | 0, hj => cases hj; exact ⟨_, .byw _ _ _ _ (hI _ _) (hI _ _) (hI _ _) (fun m k e => e1 m k e (by omega)) (fun m k e => e1 m k e (by omega)) (fun m k e => e1 m k e (by omega))⟩
    | j + 1, hj => simp at hj
  | sort k0 k1 k2 k3 k4 =>
    match j, hj with
    | 0, hj => cases hj; exact ⟨_, .empty _⟩
    | 1, hj => cases hj; exact ⟨_, .sort _ _ _ (hI _ _)⟩
    | 2, hj => cases hj; exact ⟨_, .drop _⟩
    | j + 3, hj => simp at hj
  | func k0 k1 k2 k3 k4 =>
    match j, hj with
    | 0, hj => cases hj; exact ⟨_, .func _ _ _ _ (hI _ _) (hI _ _) (fun m k e => e1 m k e rfl) (fun m k e => e1 m k e rfl)⟩
    | 1, hj => cases hj; exact ⟨_, .drop _⟩
    | j + 2, hj => simp at hj
theorem built_rowg {itss : List (List Value)} (h : Built itss) : ∀ (i : Nat) its, itss[i]? = some its → ∃ ok, RowG i its ok := by
  induction h with
  | nil => intro i its e; simp at e
  | @step itss run slot _ r _ ih =>
    intro i its e
    by_cases c : i < itss.length
    · rw [List.getElem?_append_left c] at e
      exact ih i its e
    · rw [List.getElem?_append_right (by omega)] at e
      have := run_rowg r (i - itss.length) its e
      rwa [show itss.length + (i - itss.length) = i by omega] at this
/-- what a bent place makes of a row -/
noncomputable def GB (i : Nat) (its : List Value) (q : Int) : Prop := ∀ odd, OddV odd → ∃ ok', RowG i (its.set q.toNat odd) ok' ∧ ∀ p m, ¬ ok' p m
theorem oddI {v : Value} (h : OddV v) : ¬ IsI v := odd_int h
theorem odd_ne {v : Value} (h : OddV v) {P : Int → Prop} : ∀ n k, v = .int n k → P n := fun n k e => absurd ⟨n, k, e⟩ (odd_int h)
theorem places_pad (w : World) : PlacesOf w (Str.ofString "pad") [2] := .found (by k_is) (by k_is) (by repeat' constructor)
theorem places_my (w : World) : PlacesOf w (Str.ofString "my") [2] := .found (by k_is) (by k_is) (by repeat' constructor)
theorem places_bindpad (w : World) : PlacesOf w (Str.ofString "bindpad") [1] := .found (by k_is) (by k_is) (by repeat' constructor)
theorem places_jump (w : World) : PlacesOf w (Str.ofString "jump") [1] := .found (by k_is) (by k_is) (by repeat' constructor)
theorem places_iffalse (w : World) : PlacesOf w (Str.ofString "iffalse") [1] := .found (by k_is) (by k_is) (by repeat' constructor)
theorem places_append (w : World) : PlacesOf w (Str.ofString "append") [1] := .found (by k_is) (by k_is) (by repeat' constructor)
theorem places_closure (w : World) : PlacesOf w (Str.ofString "closure") [1] := .found (by k_is) (by k_is) (by repeat' constructor)
theorem places_map (w : World) : PlacesOf w (Str.ofString "map") [1] := .found (by k_is) (by k_is) (by repeat' constructor)
theorem places_bywant (w : World) : PlacesOf w (Str.ofString "bywant") [1, 2, 3] := .found (by k_is) (by k_is) (by repeat' constructor)
theorem places_sort (w : World) : PlacesOf w (Str.ofString "sort") [1] := .found (by k_is) (by k_is) (by repeat' constructor)
theorem places_func (w : World) : PlacesOf w (Str.ofString "func") [2, 3] := .found (by k_is) (by k_is) (by repeat' constructor)
theorem places_drop (w : World) : PlacesOf w (Str.ofString "drop") [] := .none (by k_is)
theorem places_const (w : World) : PlacesOf w (Str.ofString "const") [] := .none (by k_is)
theorem places_empty (w : World) : PlacesOf w (Str.ofString "empty") [] := .none (by k_is)
theorem places_return0 (w : World) : PlacesOf w (Str.ofString "return0") [] := .none (by k_is)
theorem places_return1 (w : World) : PlacesOf w (Str.ofString "return1") [] := .none (by k_is)
theorem bentrow_of {i : Nat} {its : List Value} {ok : Int → Int → Prop} (h : RowG i its ok) : BentRow w GB i its := by
  have nx : ∀ {v : Value} {P : Int → Prop}, OddV v → ¬ ∃ n k, v = .int n k ∧ P n := fun ho ⟨n, k, e, _⟩ => odd_int ho ⟨n, k, e⟩
  cases h with
  | drop k => exact ⟨_, _, _, _, rfl, by simp, places_drop w, by decide, List.forall_mem_nil _⟩
  | const k n k1 => exact ⟨_, _, _, _, rfl, by simp, places_const w, by decide, List.forall_mem_nil _⟩
  | empty k => exact ⟨_, _, _, _, rfl, by simp, places_empty w, by decide, List.forall_mem_nil _⟩
  | ret0 k => exact ⟨_, _, _, _, rfl, by simp, places_return0 w, by decide, List.forall_mem_nil _⟩
  | ret1 k => exact ⟨_, _, _, _, rfl, by simp, places_return1 w, by decide, List.forall_mem_nil _⟩
  | pad k0 k1 v hv => exact ⟨_, _, _, _, rfl, by simp, places_pad w, by decide, List.forall_mem_cons.mpr ⟨⟨by decide, by simp, fun odd ho => ⟨_, .pad _ _ _ (.inr ho), fun p m => nx ho⟩⟩, List.forall_mem_nil _⟩⟩
  | my k0 k1 v hv => exact ⟨_, _, _, _, rfl, by simp, places_my w, by decide, List.forall_mem_cons.mpr ⟨⟨by decide, by simp, fun odd ho => ⟨_, .my _ _ _ (.inr ho), fun p m => nx ho⟩⟩, List.forall_mem_nil _⟩⟩
  | bind k0 v hv => exact ⟨_, _, _, _, rfl, by simp, places_bindpad w, by decide, List.forall_mem_cons.mpr ⟨⟨by decide, by simp, fun odd ho => ⟨_, .bind _ _ (.inr ho), fun p m => nx ho⟩⟩, List.forall_mem_nil _⟩⟩
  | jump k0 v hv hn => exact ⟨_, _, _, _, rfl, by simp, places_jump w, by decide, List.forall_mem_cons.mpr ⟨⟨by decide, by simp, fun odd ho => ⟨_, .jump _ _ (.inr ho) (odd_ne ho), fun p m => odd_int ho⟩⟩, List.forall_mem_nil _⟩⟩
  | iff k0 v hv hn => exact ⟨_, _, _, _, rfl, by simp, places_iffalse w, by decide, List.forall_mem_cons.mpr ⟨⟨by decide, by simp, fun odd ho => ⟨_, .iff _ _ (.inr ho) (odd_ne ho), fun p m => odd_int ho⟩⟩, List.forall_mem_nil _⟩⟩
  | app k0 v hv hn => exact ⟨_, _, _, _, rfl, by simp, places_append w, by decide, List.forall_mem_cons.mpr ⟨⟨by decide, by simp, fun odd ho => ⟨_, .app _ _ (.inr ho) (odd_ne ho), fun p m => odd_int ho⟩⟩, List.forall_mem_nil _⟩⟩
  | clo k0 v hv hn => exact ⟨_, _, _, _, rfl, by simp, places_closure w, by decide, List.forall_mem_cons.mpr ⟨⟨by decide, by simp, fun odd ho => ⟨_, .clo _ _ (.inr ho) (odd_ne ho), fun p m => nx ho⟩⟩, List.forall_mem_nil _⟩⟩
  | map k0 v hv hn => exact ⟨_, _, _, _, rfl, by simp, places_map w, by decide, List.forall_mem_cons.mpr ⟨⟨by decide, by simp, fun odd ho => ⟨_, .map _ _ (.inr ho) (odd_ne ho), fun p m => nx ho⟩⟩, List.forall_mem_nil _⟩⟩
  | byw k0 v1 v2 v3 h1 h2 h3 hn1 hn2 hn3 =>
    exact ⟨_, _, _, _, rfl, by simp, places_bywant w, by decide, List.forall_mem_cons.mpr ⟨⟨by decide, by simp, fun odd ho => ⟨_, .byw _ _ _ _ (.inr ho) h2 h3 (odd_ne ho) hn2 hn3, fun p m h => odd_int ho h.1⟩⟩,
      List.forall_mem_cons.mpr ⟨⟨by decide, by simp, fun odd ho => ⟨_, .byw _ _ _ _ h1 (.inr ho) h3 hn1 (odd_ne ho) hn3, fun p m h => odd_int ho h.2.1⟩⟩,
      List.forall_mem_cons.mpr ⟨⟨by decide, by simp, fun odd ho => ⟨_, .byw _ _ _ _ h1 h2 (.inr ho) hn1 hn2 (odd_ne ho), fun p m h => odd_int ho h.2.2⟩⟩, List.forall_mem_nil _⟩⟩⟩⟩
  | sort k0 v k2 hv => exact ⟨_, _, _, _, rfl, by simp, places_sort w, by decide, List.forall_mem_cons.mpr ⟨⟨by decide, by simp, fun odd ho => ⟨_, .sort _ _ _ (.inr ho), fun p m => nx ho⟩⟩, List.forall_mem_nil _⟩⟩
  | func k0 k1 v1 v2 h1 h2 hn1 hn2 =>
    exact ⟨_, _, _, _, rfl, by simp, places_func w, by decide, List.forall_mem_cons.mpr ⟨⟨by decide, by simp, fun odd ho => ⟨_, .func _ _ _ _ (.inr ho) h2 (odd_ne ho) hn2, fun p m h => odd_int ho h.1⟩⟩,
      List.forall_mem_cons.mpr ⟨⟨by decide, by simp, fun odd ho => ⟨_, .func _ _ _ _ h1 (.inr ho) hn1 (odd_ne ho), fun p m h => odd_int ho h.2⟩⟩, List.forall_mem_nil _⟩⟩⟩
theorem rowg_mk {i : Nat} {its : List Value} {ok : Int → Int → Prop} (h : RowG i its ok) : ∃ wd kw rest, its = .str wd kw :: rest ∧ (makers.any (· == wd) = (wd == Str.ofString "closure")) ∧ ((wd == Str.ofString "closure") = true → ∀ p m, ok p m → ∃ k r', rest = .int 0 k :: r') := by
  cases h with
  | clo k0 v hv hn =>
    refine ⟨_, _, _, rfl, by decide +kernel, fun _ p m ho => ?_⟩
    obtain ⟨n, k, rfl, _⟩ := ho
    obtain rfl := hn _ _ rfl
    exact ⟨_, _, rfl⟩
  | _ => exact ⟨_, _, _, rfl, by decide +kernel, fun e => absurd e (by decide +kernel)⟩
structure TailRows (w : World) (itss : List (List Value)) (oks : Nat → Int → Int → Prop) : Prop where
  g : ∀ (i : Nat) its, itss[i]? = some its → RowG i its (oks i)
  good : ∀ n, (∀ i, i < itss.length → oks i n 1) → HRows w 0 0 itss 0
  len : itss.length ≤ 30
theorem TailRows.built {itss : List (List Value)} (h : Built itss) (hl : itss.length ≤ 30) : ∃ oks, TailRows w itss oks := by
  obtain ⟨oks, ho⟩ := exists_oks (built_rowg h)
  exact ⟨oks, ho, fun _ _ => built_heights h, hl⟩
theorem TailRows.bent {itss itss' : List (List Value)} {odd : Value} {kr : Tok} (h : Built itss) (hl : itss.length ≤ 30) (ho : OddV odd) (hb : Bent GB odd (itss ++ [[.str (Str.ofString "return0") kr]]) itss') : ∃ it2 oks, itss' = it2 ++ [[.str (Str.ofString "return0") kr]] ∧ TailRows w it2 oks := by
  rcases hb with rfl | ⟨i, its, q, e, hG, h1, h2, rfl⟩
  · obtain ⟨oks, T⟩ := TailRows.built (w := w) h hl
    exact ⟨_, oks, rfl, T⟩
  · by_cases c : i < itss.length
    · rw [List.getElem?_append_left c] at e
      obtain ⟨ok', hr, hn⟩ := hG odd ho
      refine ⟨itss.set i (its.set q.toNat odd), ?_⟩
      have hall : ∀ (j : Nat) it, (itss.set i (its.set q.toNat odd))[j]? = some it → ∃ ok, RowG j it ok ∧ (j = i → ∀ p m, ¬ ok p m) := fun j it e2 => by
        by_cases cj : j = i
        · subst cj
          rw [List.getElem?_set_self c] at e2
          cases e2
          exact ⟨ok', hr, fun _ => hn⟩
        · rw [List.getElem?_set_ne (Ne.symm cj)] at e2
          obtain ⟨ok, h3⟩ := built_rowg h j it e2
          exact ⟨ok, h3, fun e3 => absurd e3 cj⟩
      obtain ⟨oks, ho2⟩ := exists_oks2 (P := fun j ok => j = i → ∀ p m, ¬ ok p m) hall
      refine ⟨oks, by rw [List.set_append_left _ _ c], fun j it e2 => (ho2 j it e2).1, fun n hn2 => ?_, by rw [List.length_set]; exact hl⟩
      have c2 : i < (itss.set i (its.set q.toNat odd)).length := by rw [List.length_set]; exact c
      exact absurd (hn2 i c2) ((ho2 i _ (List.getElem?_eq_getElem c2)).2 rfl _ _)
    · rw [List.getElem?_append_right (by omega)] at e
      have hi : i - itss.length = 0 := by
        have := (List.getElem?_eq_some_iff.mp e).1
        simpa using this
      rw [hi] at e
      simp only [List.getElem?_cons_zero, Option.some.injEq] at e
      subst e
      simp only [List.length_cons, List.length_nil] at h2
      omega
end
end -- Y1
section -- Y2
open PySem PySem.W PyProof.Rows PySem.Calls
set_option maxRecDepth 100000
set_option maxHeartbeats 1000000
section
variable {w : World} {mean : ExcName → Option Value} {mg mb : Str → Option Value} {h₀ : Heap} {news : List (Addr × Obj)} {s : Shared}
noncomputable def mkrOf (itss : List (List Value)) (i : Nat) : Bool := match itss[i]? with
  | some (.str wd _ :: _) => wd == Str.ofString "closure"
  | _ => false
theorem mkrOf_at {itss : List (List Value)} {i : Nat} {wd : Str} {kw : Tok} {rest : List Value} (e : itss[i]? = some (.str wd kw :: rest)) : mkrOf itss i = (wd == Str.ofString "closure") := by
  unfold mkrOf
  rw [e]
theorem handed_any {v : Value} (h : IsI v ∨ OddV v) : handedIn v = true := by
  rcases h with ⟨_, _, rfl⟩ | h
  · rfl
  · rcases h with rfl | ⟨_, _, rfl⟩ | rfl | rfl | rfl <;> rfl
theorem tail_end {L fa l pail R Ri xw x Sx Si rz d1 d2 : Addr} {cdv outer own sv : Value} {vt vy : Option Value} {slot : Int} {ks ks2 kp kS kr k1 : Tok} {wg : Bool} {ri : List Addr} {nR nRi nSx nSi : Nat} {itss : List (List Value)} {oks : Nat → Int → Int → Prop} {R₀ : Result → Shared → Prop} (B : Below callerA h₀ [] h₀)
    (F : Fr h₀ L s.heap (fun y => if y = Str.ofString "size" then some sv else if y = Str.ofString "code" then some (.ref x) else if y = Str.ofString "within" then some (.ref xw) else if y = Str.ofString "inner" then some (.ref Ri) else zMap l pail outer own R vt vy slot ks wg y))
    (N : News h₀ L s.heap news) (X : (KK w.params).In h₀) (T : Top vw lo mean mg mb h₀) (TR : TailRows w itss oks)
    (hRm : (R, W.listOf ((ri ++ [rz]).map Value.ref).toArray nR) ∈ news) (hri : RowsIn news (ri ++ [rz]) (itss ++ [[.str (Str.ofString "return0") kr]])) (hout : IsI outer ∨ OddV outer) (hown : IsI own ∨ OddV own)
    (hRi : (Ri, W.listOf ([d2, d1].map Value.ref).toArray nRi) ∈ news) (hd2 : (d2, tupOb [.str (Str.ofString "pad") kp, .str (Str.ofString "S") kS, .int slot ks2]) ∈ news) (hd1 : (d1, tupOb [.str (Str.ofString "return1") k1]) ∈ news)
    (hSx : (Sx, W.listOf [Value.ref xw].toArray nSx) ∈ news) (hSi : (Si, W.listOf ([] : List Value).toArray nSi) ∈ news) (cx : CodeObj news x R Sx outer false) (cw : CodeObj news xw Ri Si own wg)
    (hsz : sv = if (List.range (ri.length + 1)).any (mkrOf (itss ++ [[.str (Str.ofString "return0") kr]])) || wg then own else outer) (ret : ∀ h' tk', (∀ b o, h₀.get? b = some o → h'.get? b = some o) → R₀ (.ok (.ret (.bool true))) { s with heap := h', toks := tk' }) :
    wpAny (model PySem.Challenge.rw_qz0086_01.row.prog w) (callerA.deeper (envOf (Str.ofString "law") (fdS (st 34)) L fa cdv)) (execs (dropS 13 (fdB (st 34))) (envOf (Str.ofString "law") (fdS (st 34)) L fa cdv))
      (fun f s' => R₀ (.ok (.ret (match f with | .ret v => v | _ => .none))) s')
      (fun e s' => wpAny (model PySem.Challenge.rw_qz0086_01.row.prog w) (callerA.deeper (envOf (Str.ofString "law") (fdS (st 34)) L fa cdv)) (leaving (envOf (Str.ofString "law") (fdS (st 34)) L fa cdv) e) (fun _ s'' => R₀ (.error e) s'') (fun e' s'' => R₀ (.error e') s'') s') s := by
  have hlr : ri.length = itss.length := by
    have := hri.len
    simpa using this
  have hlen := TR.len
  have hsv : IsI sv ∨ OddV sv := by
    rw [hsz]
    split
    · exact hown
    · exact hout
  -- the rows
  have hG : ∀ (i : Nat) its, (itss ++ [[Value.str (Str.ofString "return0") kr]])[i]? = some its → RowG i its (if i < itss.length then oks i else fun _ _ => True) ∧ ((i : Int) + 1 < ((ri.length + 1 : Nat) : Int) ∨ ∃ k, its = [.str (Str.ofString "return0") k] ∨ its = [.str (Str.ofString "return1") k]) := by
    intro i its e
    by_cases c : i < itss.length
    · rw [List.getElem?_append_left c] at e
      rw [if_pos c]
      exact ⟨TR.g i its e, .inl (by omega)⟩
    · have hi : i - itss.length = 0 := by
        have := (List.getElem?_eq_some_iff.mp e).1
        rw [List.length_append, List.length_singleton] at this
        omega
      rw [List.getElem?_append_right (by omega), hi] at e
      simp only [List.getElem?_cons_zero, Option.some.injEq] at e
      subst e
      rw [if_neg c]
      exact ⟨.ret0 _, .inr ⟨_, .inl rfl⟩⟩
  have hhd : ∀ {i : Nat} {its : List Value} {ok : Int → Int → Prop}, RowG i its ok → its.head? ≠ none := fun h => by
    obtain ⟨wd, kw, rest, rfl, _⟩ := rowg_mk h
    simp
  let P : Nat → Prop := fun i => ∃ n k, outer = .int n k ∧ (if i < itss.length then oks i else fun _ _ => True) n 1
  have hP : ∀ {n : Int} {k : Tok} {i : Nat}, outer = .int n k → ((if i < itss.length then oks i else fun _ _ => True) n 1 ↔ P i) := fun {n k i} e => ⟨fun h => ⟨n, k, e, h⟩, fun ⟨n', k', e', h⟩ => by rw [e] at e'; cases e'; exact h⟩
  let oki : Nat → Int → Int → Prop := fun i => if i = 0 then fun p _ => ∃ n k, Value.int slot ks2 = .int n k ∧ 0 ≤ n ∧ n < p else fun _ _ => True
  have hGi : ∀ (i : Nat) y, [d2, d1][i]? = some y → ∃ its, (y, tupOb its) ∈ news ∧ RowG i its (oki i) ∧ ((i : Int) + 1 < 2 ∨ ∃ k, its = [.str (Str.ofString "return0") k] ∨ its = [.str (Str.ofString "return1") k]) ∧ ∃ wd kw rest, its = .str wd kw :: rest ∧ makers.any (· == wd) = false := by
    intro i y e
    match i, e with
    | 0, e => cases e; exact ⟨_, hd2, .pad _ _ _ (.inl ⟨_, _, rfl⟩), .inl (by decide), _, _, _, rfl, by decide +kernel⟩
    | 1, e => cases e; exact ⟨_, hd1, .ret1 _, .inr ⟨_, .inr rfl⟩, _, _, _, rfl, by decide +kernel⟩
    | i + 2, e => simp at e
  let Pi : Nat → Prop := fun i => ∃ n k, sv = .int n k ∧ oki i n 0
  have hPi : ∀ {n : Int} {k : Tok} {i : Nat}, sv = .int n k → (oki i n 0 ↔ Pi i) := fun {n k i} e => ⟨fun h => ⟨n, k, e, h⟩, fun ⟨n', k', e', h⟩ => by rw [e] at e'; cases e'; exact h⟩
  have hgo : GoesSpec w [.str (Str.ofString "return0") kr] false := goes_of (nb := true) (by decide +kernel)
  have hgo1 : GoesSpec w [.str (Str.ofString "return1") k1] false := goes_of (nb := true) (by decide +kernel)
  -- the code within
  have pin : PadSpec w news xw sv 30 (IsI sv ∧ ∀ i, i < [d2].length + 1 → Pi i) := by
    refine pad0 (ri := [d2]) (rz := d1) (P := Pi) cw hRi hSi (by simp) hsv ?row ?last ?mk ?good
    case row =>
      intro n k e i y hy
      obtain ⟨its, hm, hr, hz, _⟩ := hGi i y hy
      exact ⟨its, hm, (rowg_spec hr (hhd hr) hz (by decide)).congr (hPi e)⟩
    case last => exact ⟨_, hd1, hgo1⟩
    case mk =>
      intro i y hy
      obtain ⟨its, hm, hr, hz, wd, kw, rest, rfl, hmk⟩ := hGi i y hy
      exact ⟨wd, kw, rest, hm, fun h => by rw [hmk] at h; cases h⟩
    case good =>
      intro _ _
      exact rows_of (itss := [[.str (Str.ofString "pad") kp, .str (Str.ofString "S") kS, .int slot ks2]]) (h' := 1) (t0 := 1) (.cons (rowE_pad 0) (by decide) .nil) (by decide) (eff_e (word_return1 w).1) (hat_0_false (eff_e (word_return1 w).1) (jmp_e (word_return1 w).1) hgo1 (word_return1 w).2)
        (.cons hd2 (.cons hd1 .nil))
  -- the code
  have hrz : (rz, tupOb [.str (Str.ofString "return0") kr]) ∈ news := by
    obtain ⟨its, e, hm⟩ := hri.at (i := ri.length) (x := rz) (by simp)
    rw [hlr] at e
    simp at e
    exact e ▸ hm
  have pout : PadSpec w news x outer 40 (IsI outer ∧ (∀ i, i < ri.length + 1 → P i) ∧ (IsI sv ∧ ∀ i, i < [d2].length + 1 → Pi i)) := by
    refine pad1 (ri := ri) (rz := rz) (P := P) (mkr := mkrOf (itss ++ [[.str (Str.ofString "return0") kr]])) cx (by rw [List.map_append] at hRm; exact hRm) hSx cw (handed_any hown) (by rw [← hsz]; exact pin) (by omega) hout ?row ?last ?mk ?good
    case row =>
      intro n k e i y hy
      obtain ⟨its, e2, hm⟩ := hri.at hy
      obtain ⟨hr, hz⟩ := hG i its e2
      exact ⟨its, hm, (rowg_spec hr (hhd hr) (by simpa using hz) (by decide)).congr (hP e)⟩
    case last => exact ⟨_, hrz, hgo⟩
    case mk =>
      intro hall i y hy
      obtain ⟨its, e2, hm⟩ := hri.at hy
      obtain ⟨hr, hz⟩ := hG i its e2
      obtain ⟨wd, kw, rest, rfl, h1, h2⟩ := rowg_mk hr
      refine ⟨wd, kw, rest, hm, h1.trans (mkrOf_at e2).symm, fun h3 => ?_⟩
      have hi : i < ri.length + 1 := by
        have := (List.getElem?_eq_some_iff.mp hy).1
        simpa using this
      obtain ⟨n, k, e3, h4⟩ := hall i hi
      exact h2 ((mkrOf_at e2).symm.trans h3) n 1 h4
    case good =>
      intro ⟨n, k, e⟩ hall
      have h0 : ∀ i, i < itss.length → oks i n 1 := fun i hi => by
        have := (hP e).mpr (hall i (by omega))
        rwa [if_pos hi] at this
      exact rows_of (TR.good n h0) (Int.le_refl _) (eff_e (word_return0 w).1) (hat_0_false (eff_e (word_return0 w).1) (jmp_e (word_return0 w).1) hgo (word_return0 w).2) hri
  refine law_lets (P := P) (Pi := Pi) (rs := ri ++ [rz]) (rj := [d2, d1]) B F N X T hRm hRi hout hsv ?l1 ?l2 cx (handed_any hout) pout ?hV ret
  case l1 =>
    intro n k e i y hy
    obtain ⟨its, e2, hm⟩ := hri.at hy
    exact ⟨its, _, hm, (hG i its e2).1, hP e⟩
  case l2 =>
    intro n k e i y hy
    obtain ⟨its, hm, hr, _⟩ := hGi i y hy
    exact ⟨its, _, hm, hr, hPi e⟩
  case hV =>
    rw [List.length_append, List.length_singleton]
    exact ⟨fun h => ⟨h.1, h.2.1, h.2.2.1, h.2.2.2⟩, fun h => ⟨h.1, h.2.1, h.2.2.1, h.2.2.2⟩⟩
end
end -- Y2
section -- M5
open PySem PySem.W PyProof.Rows PySem.Calls
set_option maxRecDepth 100000
set_option maxHeartbeats 8000000
section
variable {w : World} {mean : ExcName → Option Value} {mg mb : Str → Option Value} {dp un : Nat} {gd : Option (List Code)} {cn : Str} {cs : Scope} {a : Addr} {ccd : Value} {cl : List (Str × Addr)} {outer : List Env} {A₀ : Around} {base h₀ : Heap} {L : Addr} {m : Str → Option Value} {news : List (Addr × Obj)} {s : Shared} {Q E : Value → Shared → Prop}
local macro_rules | `(tactic| walk_at "pyIter ref") => `(tactic| k_extra "z68")
local macro_rules | `(tactic| walk_at "UnrEndW") => `(tactic| k_extra "z59")
local macro_rules | `(tactic| walk_at "call builtin:list.append") => `(tactic| k_extra "z69")
local macro_rules | `(tactic| walk_at "TAILS") => `(tactic| k_extra "z71")
local macro_rules | `(tactic| walk_at "CompSrcT") => `(tactic| k_extra "z59")
local macro_rules | `(tactic| walk_at "execs cons") => `(tactic| k_extra "z131")
local macro_rules | `(tactic| walk_at "MKC") => `(tactic| k_extra "z132")
local macro_rules | `(tactic| walk_at "call ref") => `(tactic| k_extra "z133")
local macro_rules | `(tactic| walk_at "call ref") => `(tactic| k_extra "z134")
theorem ne_nil0 {prog : Program} {A : Around} {D b : Addr} {k n : Nat} {Q : Value → Shared → Prop} (hu : A.units < cLine) (N : News h₀ L s.heap news) (hm : (D, W.listOf ([] : List Value).toArray n) ∈ news) (hb : (b, W.listOf ([] : List Value).toArray k) ∈ news)
    (h : Q (.bool false) s) : wpAny (model prog w) A (compareOp .NotEq (.ref D) (.ref b)) Q E s :=
  SeqAt.RcNeAt.lists (e := fun _ => true) (lof_in N hm) (lof_in N hb) rfl hu (fun j h1 => absurd h1 (by simp)) prog w E Q (by simpa using h)
theorem ne_nil1 {prog : Program} {A : Around} {D b : Addr} {k n : Nat} {vs : List Value} {Q : Value → Shared → Prop} (hu : A.units < cLine) (N : News h₀ L s.heap news) (hm : (D, W.listOf vs.toArray n) ∈ news) (hb : (b, W.listOf ([] : List Value).toArray k) ∈ news) (hv : vs ≠ [])
    (h : Q (.bool true) s) : wpAny (model prog w) A (compareOp .NotEq (.ref D) (.ref b)) Q E s :=
  SeqAt.RcNeAt.lists_lengths (lof_in N hm) (lof_in N hb) (by cases vs with | nil => exact absurd rfl hv | cons a r => simp) hu prog w E Q h
local macro_rules | `(tactic| walk_at "UNITZ") => `(tactic| k_extra "z135")
local macro_rules | `(tactic| walk_at "compareOp NotEq ref ref") => `(tactic| k_extra "z136")
local macro_rules | `(tactic| walk_at "compareOp NotEq ref ref") => `(tactic| k_extra "z137")
theorem tail_word {itss : List (List Value)} {oks : Nat → Int → Int → Prop} {kr : Tok} {i : Nat} {its : List Value} (TR : TailRows w itss oks) (e : (itss ++ [[Value.str (Str.ofString "return0") kr]])[i]? = some its) : ∃ wd kw rest, its = .str wd kw :: rest := by
  by_cases c : i < itss.length
  · rw [List.getElem?_append_left c] at e
    obtain ⟨wd, kw, rest, e3, _⟩ := rowg_mk (TR.g i its e)
    exact ⟨wd, kw, rest, e3⟩
  · have hi : i - itss.length = 0 := by
      have := (List.getElem?_eq_some_iff.mp e).1
      rw [List.length_append, List.length_singleton] at this
      omega
    rw [List.getElem?_append_right (by omega), hi] at e
    simp only [List.getElem?_cons_zero, Option.some.injEq] at e
    exact ⟨_, _, _, e.symm⟩
noncomputable def cJ (itss : List (List Value)) (nw : List (Addr × Obj)) (i : Nat) (ys : List Value) (nw' : List (Addr × Obj)) : Prop := nw' = nw ∧ (ys ≠ [] ↔ (List.range i).any (mkrOf itss) = true)
set_option maxHeartbeats 800000 in
theorem law_tail {L fa l pail R rz : Addr} {cdv outer own : Value} {vt vy : Option Value} {slot : Int} {ks kr : Tok} {wg : Bool} {ri : List Addr} {nR : Nat} {itss : List (List Value)} {oks : Nat → Int → Int → Prop} {R₀ : Result → Shared → Prop} (B : Below callerA h₀ [] h₀) (F : Fr h₀ L s.heap (zMap l pail outer own R vt vy slot ks wg)) (N : News h₀ L s.heap news) (X : (KK w.params).In h₀) (T : Top vw lo mean mg mb h₀) (TR : TailRows w itss oks)
    (hRm : (R, W.listOf ((ri ++ [rz]).map Value.ref).toArray nR) ∈ news) (hri : RowsIn news (ri ++ [rz]) (itss ++ [[.str (Str.ofString "return0") kr]])) (hout : IsI outer ∨ OddV outer) (hown : IsI own ∨ OddV own) (ret : ∀ h' tk', (∀ b o, h₀.get? b = some o → h'.get? b = some o) → R₀ (.ok (.ret (.bool true))) { s with heap := h', toks := tk' }) :
    wpAny (model PySem.Challenge.rw_qz0086_01.row.prog w) (callerA.deeper (envOf (Str.ofString "law") (fdS (st 34)) L fa cdv)) (execs (dropS 9 (fdB (st 34))) (envOf (Str.ofString "law") (fdS (st 34)) L fa cdv))
      (fun f s' => R₀ (.ok (.ret (match f with | .ret v => v | _ => .none))) s')
      (fun e s' => wpAny (model PySem.Challenge.rw_qz0086_01.row.prog w) (callerA.deeper (envOf (Str.ofString "law") (fdS (st 34)) L fa cdv)) (leaving (envOf (Str.ofString "law") (fdS (st 34)) L fa cdv) e) (fun _ s'' => R₀ (.error e) s'') (fun e' s'' => R₀ (.error e') s'') s') s := by
  revert N X T
  k_fill
  intro N X T
  (conv in dropS _ _ => whnf)
  show wpAny _ _ _ _ _ _
  k_fold
  cases wg
  · k_steps
    refine stopG ?_
    have u6 : ∀ p ∈ news, p ∈ nw7 := fun p hp => s7 _ (.tail _ (.tail _ (s6 _ (.tail _ (.tail _ (.tail _ (.tail _ (.tail _ hp))))))))
    have hR8 := u6 _ hRm
    rename Fr _ _ _ _ => F2
    rename News _ _ _ _ => N2
    refine LCt.CompSrcT.ledger rfl F2 N2 hR8 ?size ?_
    case size => (simp only [List.size_toArray, List.length_append, List.length_map, List.length_singleton, sizeLine_eq]; have := hri.len; have := TR.len; (simp only [List.length_append, List.length_singleton] at *); omega)
    intro g8
    refine comp_inv _ (cJ (itss ++ [[.str (Str.ofString "return0") kr]]) nw7) ?turn ?fin _ 0 [] nw7 (Nat.zero_add _) ⟨rfl, by simp⟩
    case turn =>
      intro i ys nw' v I oI C oC D m₂ h tk E' hi hj hP hN hv F3 N3 off hne
      obtain ⟨rfl, hany⟩ := hj
      obtain ⟨y, rfl, hy⟩ := row_at (by simpa using hP)
      obtain ⟨its, e2, hm⟩ := hri.at hy
      have hm8 := u6 _ hm
      obtain ⟨wd, kw, rest, rfl⟩ := tail_word TR e2
      k_steps
      · rename (_ == Str.ofString "closure") = true => hwc
        exact ⟨rfl, by rw [List.range_succ, List.any_append]; simp [mkrOf_at e2, hwc]⟩
      · rename (_ == Str.ofString "closure") = false => hwc
        exact ⟨rfl, by rw [List.range_succ, List.any_append]; simpa [mkrOf_at e2, hwc] using hany⟩
    case fin =>
      intro ys nw' hj
      obtain ⟨rfl, hany⟩ := hj
      rw [show (List.map Value.ref (ri ++ [rz])).toArray.size = ri.length + 1 by simp] at hany
      cases ys with
      | nil =>
        have hany0 : (List.range (ri.length + 1)).any (mkrOf (itss ++ [[.str (Str.ofString "return0") kr]])) = false := by
          cases hq : (List.range (ri.length + 1)).any (mkrOf (itss ++ [[.str (Str.ofString "return0") kr]])) with
          | false => rfl
          | true => exact absurd rfl (hany.mpr hq)
        k_steps
        refine stopG ?_
        rename Fr _ _ _ _ => F9
        rename News _ _ _ _ => N9
        refine tail_end (nSx := 0) (nSi := 0) (nRi := 0) B F9 (News.perm N9 (news' := nw') (by walk_at "TAILS")) X T TR hR8
          (hri.mono u6) hout hown
          (s7 _ (.tail _ (.tail _ (s6 _ (.tail _ (.tail _ (.head _))))))) (s7 _ (.tail _ (.tail _ (s6 _ (.tail _ (.tail _ (.tail _ (.tail _ (.head _))))))))) (s7 _ (.tail _ (.tail _ (s6 _ (.tail _ (.tail _ (.tail _ (.head _)))))))) (s7 _ (.head _)) (s7 _ (.tail _ (.tail _ (s6 _ (.head _)))))
          c7 (c6.mono fun p hp => s7 _ (.tail _ (.tail _ hp))) (by rw [hany0]; simp) (fun h' tk' => ret h' tk')
      | cons y0 yr =>
        have hyn : y0 :: yr ≠ [] := by simp
        have hany1 := hany.mp hyn
        k_steps
        refine stopG ?_
        rename Fr _ _ _ _ => F9
        rename News _ _ _ _ => N9
        refine tail_end (nSx := 0) (nSi := 0) (nRi := 0) B F9 (News.perm N9 (news' := nw') (by walk_at "TAILS")) X T TR hR8
          (hri.mono u6) hout hown
          (s7 _ (.tail _ (.tail _ (s6 _ (.tail _ (.tail _ (.head _))))))) (s7 _ (.tail _ (.tail _ (s6 _ (.tail _ (.tail _ (.tail _ (.tail _ (.head _))))))))) (s7 _ (.tail _ (.tail _ (s6 _ (.tail _ (.tail _ (.tail _ (.head _)))))))) (s7 _ (.head _)) (s7 _ (.tail _ (.tail _ (s6 _ (.head _)))))
          c7 (c6.mono fun p hp => s7 _ (.tail _ (.tail _ hp))) (by rw [hany1]; simp) (fun h' tk' => ret h' tk')
  · k_steps
    refine stopG ?_
    rename Fr _ _ _ _ => F9
    rename News _ _ _ _ => N9
    refine tail_end (nSx := 0) (nSi := 0) (nRi := 0) B F9 N9 X T TR (s7 _ (.tail _ (.tail _ (s6 _ (.tail _ (.tail _ (.tail _ (.tail _ (.tail _ (.tail _ hRm))))))))))
      (hri.mono fun p hp => s7 _ (.tail _ (.tail _ (s6 _ (.tail _ (.tail _ (.tail _ (.tail _ (.tail _ (.tail _ hp)))))))))) hout hown
      (s7 _ (.tail _ (.tail _ (s6 _ (.tail _ (.tail _ (.tail _ (.head _)))))))) (s7 _ (.tail _ (.tail _ (s6 _ (.tail _ (.tail _ (.tail _ (.tail _ (.tail _ (.head _)))))))))) (s7 _ (.tail _ (.tail _ (s6 _ (.tail _ (.tail _ (.tail _ (.tail _ (.head _))))))))) (s7 _ (.head _)) (s7 _ (.tail _ (.tail _ (s6 _ (.tail _ (.head _))))))
      c7 (c6.mono fun p hp => s7 _ (.tail _ (.tail _ hp))) (by simp) (fun h' tk' => ret h' tk')
end
end -- M5
section -- M6
open PySem PySem.W PyProof.Rows PySem.Calls
set_option maxRecDepth 100000
set_option maxHeartbeats 8000000
section
variable {w : World} {mean : ExcName → Option Value} {mg mb : Str → Option Value} {dp un : Nat} {gd : Option (List Code)} {cn : Str} {cs : Scope} {a : Addr} {ccd : Value} {cl : List (Str × Addr)} {outer : List Env} {A₀ : Around} {base h₀ : Heap} {L : Addr} {m : Str → Option Value} {news : List (Addr × Obj)} {s : Shared} {Q E : Value → Shared → Prop}
local macro_rules | `(tactic| walk_at "TAILS") => `(tactic| k_extra "z71")
local macro_rules | `(tactic| walk_at "UNITS") => `(tactic| k_extra "z91")
local macro_rules | `(tactic| walk_at "subscriptTail") => `(tactic| k_extra "z92")
local macro_rules | `(tactic| walk_at "SPL") => `(tactic| k_extra "z107")
local macro_rules | `(tactic| walk_at "call ref") => `(tactic| k_extra "z108")
local macro_rules | `(tactic| walk_at "UNITZ") => `(tactic| k_extra "z135")
local macro_rules | `(tactic| walk_at "execs cons") => `(tactic| k_extra "z138")
theorem odd_list (w : World) : ∃ vs n, (KK w.params).lookup 316 = some ⟨.type "list", none, .seq (List.toArray vs) n, #[]⟩ ∧ vs.length = 5 ∧ ∀ v ∈ vs, OddV v := by
  refine ⟨[.none, .str (Str.ofString "1") 1123, .bool true, .ref 314, .ref 315], 0, by with_unfolding_all rfl, rfl, ?_⟩
  refine List.forall_mem_cons.mpr ⟨.inl rfl, List.forall_mem_cons.mpr ⟨.inr (.inl ⟨_, _, rfl⟩), List.forall_mem_cons.mpr ⟨.inr (.inr (.inl rfl)), List.forall_mem_cons.mpr ⟨.inr (.inr (.inr (.inl rfl))), List.forall_mem_cons.mpr ⟨.inr (.inr (.inr (.inr rfl))), List.forall_mem_nil _⟩⟩⟩⟩⟩
theorem odd_any {A : Around} {prog : Program} {value slice : PySem.Expr} {k : Int} {u : Tok} {Q : Value → Shared → Prop} (F : Fr h₀ L s.heap m) (X : (KK w.params).In h₀) (h0 : 0 ≤ k) (hlt : k < 5) (h : ∀ x, OddV x → Q x s)
    (hs : subscripted slice false (.ref 316) (.int k u) = operate [.ref 316, .int k u] (getItem (.ref 316) (.int k u)) := by with_unfolding_all rfl) :
    wpAny (model prog w) A (subscriptTail value slice (.ref 316) (.int k u)) Q E s := by
  obtain ⟨vs, n, hl, h5, hv⟩ := odd_list w
  have hl2 : s.heap.IsList 316 vs.toArray := ⟨_, X.keeps F.keep _ _ hl, rfl, _, rfl⟩
  have hk : k.toNat < vs.length := by omega
  exact tail_any hl2.typeIs slot_list_getitem.lookup (wpAny_getItem_list hl2 h0 (by omega) (by simp [hk]) (h _ (hv _ (List.getElem_mem hk)))) hs
local macro_rules | `(tactic| walk_at "subscriptTail") => `(tactic| k_extra "z139")
local macro_rules | `(tactic| walk_at "call ref") => `(tactic| k_extra "z140")
theorem zMap_rows {l pail R R' : Addr} {outer own : Value} {vt vy : Option Value} {slot : Int} {ks : Tok} {wg : Bool} : (fun y => if y = Str.ofString "rows" then some (.ref R') else zMap l pail outer own R vt vy slot ks wg y) = zMap l pail outer own R' vt vy slot ks wg := by
  funext y
  by_cases c1 : y = Str.ofString "weighed"
  · subst c1; rfl
  by_cases c2 : y = Str.ofString "slot"
  · subst c2; rfl
  by_cases c3 : y = Str.ofString "way"
  · subst c3; rfl
  by_cases c4 : y = Str.ofString "turn"
  · subst c4; rfl
  simp only [zMap, wMap, if_neg c1, if_neg c2, if_neg c3, if_neg c4]
  by_cases c5 : y = Str.ofString "rows"
  · rw [if_pos c5, if_pos c5]
  · rw [if_neg c5, if_neg c5, if_neg c5]
set_option maxHeartbeats 800000 in
theorem law_if {L fa l pail aS R rz : Addr} {cdv outer own : Value} {vt vy : Option Value} {slot k : Int} {ks kr t : Tok} {wg : Bool} {ri : List Addr} {nR nS np : Nat} {itss : List (List Value)} {ws : List Value} {ns : List Int} {rest : List (Addr × Obj)} {R₀ : Result → Shared → Prop} (B : Below callerA h₀ [] h₀) (F : Fr h₀ L s.heap (zMap l pail outer own R vt vy slot ks wg)) (N : News h₀ L s.heap ((pail, W.listOf [Value.ref aS, .int k t].toArray np) :: rest)) (X : (KK w.params).In h₀) (T : Top vw lo mean mg mb h₀)
    (hoff : ∀ p ∈ rest, p.1 ≠ pail) (hSm : (aS, W.listOf ws.toArray nS) ∈ rest) (hI2 : IntsAre ws (ns.take 40)) (hRm : (R, W.listOf ((ri ++ [rz]).map Value.ref).toArray nR) ∈ rest) (hri : RowsIn rest (ri ++ [rz]) (itss ++ [[.str (Str.ofString "return0") kr]])) (hbu : Built itss) (hln : itss.length ≤ 9) (hk0 : 0 ≤ k) (hk1 : k ≤ 15)
    (hout : IsI outer ∨ OddV outer) (hown : IsI own ∨ OddV own) (ret : ∀ h' tk', (∀ b o, h₀.get? b = some o → h'.get? b = some o) → R₀ (.ok (.ret (.bool true))) { s with heap := h', toks := tk' }) :
    wpAny (model PySem.Challenge.rw_qz0086_01.row.prog w) (callerA.deeper (envOf (Str.ofString "law") (fdS (st 34)) L fa cdv)) (execs (dropS 8 (fdB (st 34))) (envOf (Str.ofString "law") (fdS (st 34)) L fa cdv))
      (fun f s' => R₀ (.ok (.ret (match f with | .ret v => v | _ => .none))) s')
      (fun e s' => wpAny (model PySem.Challenge.rw_qz0086_01.row.prog w) (callerA.deeper (envOf (Str.ofString "law") (fdS (st 34)) L fa cdv)) (leaving (envOf (Str.ofString "law") (fdS (st 34)) L fa cdv) e) (fun _ s'' => R₀ (.error e) s'') (fun e' s'' => R₀ (.error e') s'') s') s := by
  have hl40 := len40 hI2
  have hlr : ri.length = itss.length := by
    have := hri.len
    simpa using this
  have hlen9 : (ri ++ [rz]).length ≤ 30 := by rw [List.length_append, List.length_singleton]; omega
  have hbr9 : ∀ (i : Nat) its, (itss ++ [[Value.str (Str.ofString "return0") kr]])[i]? = some its → BentRow w GB i its := fun i its e => by
    by_cases c : i < itss.length
    · rw [List.getElem?_append_left c] at e
      obtain ⟨ok, hr⟩ := built_rowg hbu i its e
      exact bentrow_of hr
    · have hi : i - itss.length = 0 := by
        have := (List.getElem?_eq_some_iff.mp e).1
        rw [List.length_append, List.length_singleton] at this
        omega
      rw [List.getElem?_append_right (by omega), hi] at e
      simp only [List.getElem?_cons_zero, Option.some.injEq] at e
      subst e
      exact bentrow_of (.ret0 kr)
  revert N X T
  k_fill
  intro N X T
  (conv in dropS _ _ => whnf)
  show wpAny _ _ _ _ _ _
  k_fold
  k_steps
  · refine stopG ?_
    rename Fr _ _ _ _ => F9
    rename News _ _ _ _ => N9
    rw [zMap_rows] at F9
    obtain ⟨it2, oks, rfl, TR⟩ := TailRows.bent (w := w) hbu (by omega) (by with_reducible assumption) hb8
    obtain ⟨ri2, rz2, rfl⟩ : ∃ a b, rs8 = a ++ [b] := by
      rcases List.eq_nil_or_concat rs8 with h | ⟨a, b, h⟩
      · have h2 := ri8.len
        rw [h, List.length_append, List.length_singleton, List.length_nil] at h2
        omega
      · exact ⟨a, b, by rw [h, List.concat_eq_append]⟩
    exact law_tail B F9 N9 X T TR hm8 ri8 hout hown fun h' tk' => ret h' tk'
  · refine stopG ?_
    rename Fr _ _ _ _ => F9
    rename News _ _ _ _ => N9
    obtain ⟨oks, TR⟩ := TailRows.built (w := w) hbu (by omega)
    exact law_tail B F9 N9 X T TR (.tail _ hRm) (hri.mono fun p hp => .tail _ hp) hout hown fun h' tk' => ret h' tk'
end
end -- M6
section -- M7
open PySem PySem.W PyProof.Rows PySem.Calls
set_option maxRecDepth 100000
set_option maxHeartbeats 8000000
section
variable {w : World} {mean : ExcName → Option Value} {mg mb : Str → Option Value} {dp un : Nat} {gd : Option (List Code)} {cn : Str} {cs : Scope} {a : Addr} {ccd : Value} {cl : List (Str × Addr)} {outer : List Env} {A₀ : Around} {base h₀ : Heap} {L : Addr} {m : Str → Option Value} {news : List (Addr × Obj)} {s : Shared} {Q E : Value → Shared → Prop}
local macro_rules | `(tactic| walk_at "pyIter ref") => `(tactic| k_extra "z68")
local macro_rules | `(tactic| walk_at "UnrEndW") => `(tactic| k_extra "z59")
local macro_rules | `(tactic| walk_at "call builtin:list.append") => `(tactic| k_extra "z69")
local macro_rules | `(tactic| walk_at "TAILS") => `(tactic| k_extra "z71")
local macro_rules | `(tactic| walk_at "UNITS") => `(tactic| k_extra "z91")
local macro_rules | `(tactic| walk_at "subscriptTail") => `(tactic| k_extra "z92")
local macro_rules | `(tactic| walk_at "SPL") => `(tactic| k_extra "z107")
local macro_rules | `(tactic| walk_at "call ref") => `(tactic| k_extra "z108")
local macro_rules | `(tactic| walk_at "MENUA") => `(tactic| k_extra "z109")
local macro_rules | `(tactic| walk_at "subscriptTail") => `(tactic| k_extra "z110")
local macro_rules | `(tactic| walk_at "exec For Name Call cons nil") => `(tactic| k_extra "z98")
local macro_rules | `(tactic| walk_at "pyIter ref") => `(tactic| k_extra "z59")
local macro_rules | `(tactic| walk_at "execs cons") => `(tactic| k_extra "z141")
local macro_rules | `(tactic| walk_at "NORMW") => `(tactic| k_extra "z111")
local macro_rules | `(tactic| walk_at "call ref") => `(tactic| k_extra "z112")
local macro_rules | `(tactic| walk_at "binaryOp Add ref ref") => `(tactic| k_extra "z113")
set_option maxHeartbeats 1000000 in
theorem law_body {L fa l : Addr} {cdv : Value} {vs : List Value} {ns : List Int} {R₀ : Result → Shared → Prop} (B : Below callerA h₀ [] h₀) (F : Fr h₀ L s.heap (fun x => List.lookup x [(Str.ofString "script", Value.ref l)].reverse)) (N : News h₀ L s.heap []) (X : (KK w.params).In h₀) (T : Top vw lo mean mg mb h₀)
    (hl : h₀.IsList l vs.toArray) (hi : IntsAre vs ns) (hlen : ns.length ≤ 63) (ret : ∀ h' tk', (∀ b o, h₀.get? b = some o → h'.get? b = some o) → R₀ (.ok (.ret (.bool true))) { s with heap := h', toks := tk' }) :
    wpAny (model PySem.Challenge.rw_qz0086_01.row.prog w) (callerA.deeper (envOf (Str.ofString "law") (fdS (st 34)) L fa cdv)) (execs (fdB (st 34)) (envOf (Str.ofString "law") (fdS (st 34)) L fa cdv))
      (fun f s' => R₀ (.ok (.ret (match f with | .ret v => v | _ => .none))) s')
      (fun e s' => wpAny (model PySem.Challenge.rw_qz0086_01.row.prog w) (callerA.deeper (envOf (Str.ofString "law") (fdS (st 34)) L fa cdv)) (leaving (envOf (Str.ofString "law") (fdS (st 34)) L fa cdv) e) (fun _ s'' => R₀ (.error e) s'') (fun e' s'' => R₀ (.error e') s'') s') s := by
  revert X N T
  k_fill
  intro X N T
  (conv in fdB _ => whnf)
  k_fold
  k_steps
  refine stopG ?_
  rename Fr _ _ _ _ => F2
  rename News _ _ _ _ => N2
  rename IsRange _ _ _ _ _ _ _ _ => hR2
  rename IntsAre _ (List.take 40 ns) => hI2
  have hl40 := len40 hI2
  obtain ⟨pail, R, aS, rfl, rfl, rfl⟩ := law_names N2
  obtain ⟨own, outer, rfl, rfl⟩ := fr_names F2
  have hown : IsI own ∨ OddV own := by with_reducible assumption
  have hout : IsI outer ∨ OddV outer := by with_reducible assumption
  obtain ⟨rn, rfl⟩ : ∃ rn : Nat, r8 = (rn : Int) := ⟨r8.toNat, by omega⟩
  have hrn : rn ≤ 3 := by omega
  refine iter_rangeJ (n := rn) (tJ l pail aS outer own _ _) rfl hR2 ?small ?size F2 N2 (tJ_start (R := R) (by walk_at "NORMW") (by k_all) (by walk_at "MEM") (by walk_at "MEM") (by k_ne) (by omega) (by omega)) ?turn ?done
  case small => exact (rng3 hrn).1
  case size => exact (rng3 hrn).2
  case turn =>
    intro I it i tv m₁ nw h tk hin hj ho F1 N1
    obtain ⟨R, vt, vy, rs, itss, nR, np, t, k, rest, rfl, rfl, hoff, hSm, hRm, hne, hri, hbu, hln, hk0, hk1⟩ := hj
    have hpI : @Ne Nat I pail := (ho _ (.head _)).symm
    have hrl := hri.len
    have hrl2 : (rs.map Value.ref).length = itss.length := by rw [List.length_map, hrl]
    k_steps
    all_goals (show JEnd _ _ _ _ _ _ _)
    all_goals rename Fr _ _ _ _ => F9
    all_goals rename News _ _ _ _ => N9
    all_goals refine tJ_step (nw7 := nw7) (rest := rest) F9 N9 (by walk_at "NORMW") he7 ho7 ri7 (by assumption) hoff hSm hri hbu hln rel7 (by omega) (by omega) (by omega) ho
  case done =>
    intro m₁ nw h tk hj F1 N1
    obtain ⟨R, vt, vy, rs, itss, nR, np, t, k, rest, rfl, rfl, hoff, hSm, hRm, hne, hri, hbu, hln, hk0, hk1⟩ := hj
    obtain ⟨rest2, N3, hoR, hoP, hSm2, hri2, hpR⟩ := split_R N1 hRm hoff hSm hne hri
    have hrl := hri2.len
    clear N1 hRm hoff hSm hri
    have hln2 : itss.length ≤ 9 := by omega
    have hk2 : k + 1 + 1 ≤ 15 := by omega
    have hk3 : 0 ≤ k + 1 + 1 := by omega
    k_steps
    refine stopG ?_
    rename Fr _ _ _ _ => F9
    rename News _ _ _ _ => N9
    rename _ ∧ _ ∧ AllLt _ _ => l9
    refine law_if B F9 N9 (by with_reducible assumption) (by with_reducible assumption) ?off (.tail _ (.tail _ hSm2)) hI2 (ri := rs) (by rw [List.map_append]; exact .tail _ (.head _)) (RowsIn.append (hri2.mono fun p hp => .tail _ (.tail _ hp)) (.cons (.head _) .nil)) hbu hln2 hk3 hk2 hout hown fun h' tk' => ret h' tk'
    case off => exact List.forall_mem_cons.mpr ⟨Nat.ne_of_gt l9.2.1, List.forall_mem_cons.mpr ⟨hpR.symm, hoP⟩⟩
end
end -- M7
end
end
end
end
section
open PySem PySem.W PyProof.Rows PySem.Calls
set_option maxRecDepth 100000
set_option maxHeartbeats 4000000
noncomputable def loQ : List Str := ["PerlError", "BadOps", "VOID", "SHAPES", "LEAVING", "KEEPING", "OpsCode", "WeighedCode", "shape_of", "effect_of", "jumps_of", "goes_on", "heights_at", "subs_used", "SLOTS", "CODES", "MAKERS", "need_number", "check_numbers", "check_row", "heights_of", "check_on_pad", "check_code", "_law_places", "_law_odd", "_law_scoop", "_law_run", "_law_bent", "_law_is_whole", "_law_is_let"]
local macro_rules | `(tactic| k_qdec) => `(tactic| decide +kernel)
theorem walk : WalkO vw loQ (XL vw []) (InK KK) (OpenRow.toRowW (OpenLaw.row PySem.Challenge.rw_qz0086_01)) ⟨Str.ofString "law", fdP (st 34), fdB (st 34), fdS (st 34), ⟨169, 0, 192, 17⟩⟩ [] (fun f vs => call f vs) := by
  k_fill
  intro w s₀ s₁ mg mb G Y fa o pm cd doc dV kV ho hd hcd hD hmg hg args vals as hpre hlay hrd hwl hlo
  have KX : (KK w.params).In s₁.heap := Y
  k_behind G ho hd hcd hD hmg hpre hlay hrd hwl hlo cd
  rename Fr _ _ _ _ => F9
  rename News _ _ _ _ => N9
  rename Below _ _ _ _ => K9
  rename Top _ _ _ _ _ _ => T9
  rename Heap.IsList _ _ _ => hL9
  rename IntsAre _ _ => hI9
  rename ¬ _ < _ => hc9
  refine law_body K9 F9 N9 KX T9 hL9 hI9 (by omega) ?_
  intro h' tk' hk
  exact ⟨.inl ⟨.bool true, .bool true, [], rfl, fun cls => rfl, readsW_of_reads (.bool true), (by first | (with_unfolding_all rfl) | kernel_rfl), fun _ => ⟨List.nodup_nil, fun a ha => nomatch ha⟩⟩, hk, rfl, hg⟩
end
end Mine
open PySem PySem.W PyProof.Rows PySem.Calls
set_option maxRecDepth 100000 in
set_option maxHeartbeats 4000000 in
theorem PySem.Challenge.cw_qz0086_01_holds : PySem.Challenge.rw_qz0086_01.Holds := by
  w_on
  refine holds_law (l := PySem.Challenge.rw_qz0086_01) Mine.lk_law fun said => ?_
  refine holds_open (q := Mine.vw) (loose := Mine.loN) (Xt := Mine.xtK) (XP := XL Mine.vw []) (Yf := Mine.hK.obs) (Ya := Mine.hK.val) (YP := Mine.hK.says) (N := 12000) Mine.h_left Mine.hK.of Mine.hK.keeps (fun s e => xl_of s (Bool.and_eq_true_iff.mp e).1) XL.keeps (by rfl) (by rfl) (by rfl) (fun s e => recFacts_of (Bool.and_eq_true_iff.mp e).2) (by rfl) (by first | assumption | decide +kernel) (by decide +kernel) ⟨rfl, rfl, rfl, rfl, rfl, by decide +kernel⟩ ?hw ?hc
  case hw => w_witness2
  case hc => exact Mine.walk
