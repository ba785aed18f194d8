/- The rules of the run in one set. -/
import Derived.Test.YtejicekieoclaaaCoreI
namespace Go.Abs
attribute [go_sem] awp_seq awp_reg awp_rex awp_block awp_skip awp_exit awp_ret awp_gz gzS awp_condK condK_t condK_f aops_nil aops_cons aop_n aop_g gK_tt gK_tf gK_ft gK_ff
attribute [go_sem] gK_un skipK_s skipK_n bK_some bK_none toDst_s toDst_n resK_some resK_none callK_some arun_call axs_nil axs_o nilK_own nilK_sl axs_nilq axs_lend backK_some arun_cp arun_mv
attribute [go_sem] arun_fz arun_pick arun_bx arun_bld arun_bsl arun_ld arun_st arun_fad arun_fld arun_iad arun_aad arun_idx arun_bin arun_beq arun_un arun_cvt arun_len arun_slen arun_app arun_slc
attribute [go_sem] arun_ext arun_mk arun_nchk arun_bad eff tk tk1 wr valOf binF binI unF view viewL viewC viewF vC vF asCells plainC
attribute [go_sem] plainA cellA cellsOf leafy ar hd asI adrOf kills_nil kills_at killS_at killr killrL upd rin rinL bldL bslL splice stC
attribute [go_sem] sub put fzAt frz cutRows optI mxI appX appY callArgs rdArgs rdA rdV rdL tkArgs tkL fzn fzl resV flatA
attribute [go_sem] fresh freshL freshR plc rdSc rowsOf backOK seqA_normal seqA_exit seqA_ret blockA_normal blockA_exit blockA_ret Gi.als start_at if_true ite_true ite_false if_false Option.map_some
attribute [go_sem] Bool.false_eq_true List.getD_cons_zero List.getD_cons_succ true_and and_true and_self false_and and_false Int.natCast_nonneg Int.toNat_natCast List.take_succ_cons List.take_zero List.drop_zero List.drop_succ_cons List.map_cons List.map_nil List.length_cons List.length_nil Nat.zero_add decide_eq_true_eq
attribute [go_sem] List.getElem?_cons_zero List.getElem?_cons_succ List.all_cons List.all_nil Bool.and_true Bool.true_and Nat.le_refl List.nil_append List.append_nil List.append_assoc beq_self_eq_true bne_self_eq_false beq_iff_eq bne_iff_ne ne_eq not_true_eq_false not_false_eq_true Ends_ret Ends_normal EndsF_ret
attribute [go_sem] EndsF_normal resIsF_some takeRes resIs_some one_one one_two AV.sc.injEq Value.bool.injEq Value.int.injEq AV.tup.injEq AV.agg.injEq List.cons.injEq AV.own.injEq AV.sl.injEq Option.some.injEq Prod.mk.injEq exists_and_left exists_eq_left exists_eq_left' exists_eq
attribute [go_sem] List.contains_nil List.filter_nil List.flatMap_nil List.not_mem_nil List.filter_cons Bool.not_true Bool.not_false Int.toNat_zero Nat.lt_irrefl Int.ofNat_lt Nat.sub_zero List.isEmpty_nil List.contains_cons Bool.or_false Bool.false_or Bool.or_true Bool.true_or List.mem_cons or_false false_or
attribute [go_sem] or_true true_or or_self Nat.lt_add_one Nat.zero_lt_one List.set_cons_zero List.set_cons_succ frzL frzR List.cons_append List.drop_nil List.take_nil Bool.not_eq_true Bool.and_false Bool.false_and Bool.and_self List.any_cons List.any_nil decide_true decide_false
attribute [go_sem] eq_self
end Go.Abs
