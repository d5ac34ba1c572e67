/-
  For every input SegmentParts answers true and its arguments read as before (no condition but the given card's own). Here: Sc, Na, Nb, Pa, Pb, Pc, Pd.
-/
import Derived.Test.YtfnjchgidpljbaaDoorC3
set_option linter.all false
set_option linter.unusedSimpArgs false
set_option linter.unusedVariables false
/-
  Segments: loaded, told, and one that is empty gets a text.
-/
namespace Go.Dv
open Go Go.RowKit Go.Proofs
set_option linter.unusedSimpArgs false
set_option linter.unusedVariables false
set_option maxRecDepth 8000


theorem t_Plain (W0 : World) (L : LibOk W0) (S : List SO) (id lb : Int) (x : Option Rp) (f1 f2 : Bool) (l : List Sp) (q : List Si) (hx : OkO x) (hbig : Big (bytes (lsO x))) (hl : l.length ≤ 1099511627776) (hq : q.length ≤ 1099511627776) :
    CtP Tryd.prog W0 n_segment_Segment_Plain [.agg [.raw (.int .i64 id), .raw (.int .i64 lb), encO x, .lst 3 f1 (encSp l), .lst 2 f2 (encSi q)]] S (fun d => d = .agg [.raw (.int .i64 id), .raw (.int .i64 lb), .raw (.string (cat (lsO x))), .lst 3 false (encSp l), .lst 2 false (encSi q)]) := by
  refine Ct_R k_segment_Segment_Plain 400 (.mk [.mk (.agg [.raw (.int .i64 id), .raw (.int .i64 lb), encO x, .lst 3 f1 (encSp l), .lst 2 f2 (encSi q)]) .junk .junk .junk .junk .junk .junk .junk, .mk .junk .junk .junk .junk .junk .junk .junk .junk] [.junk, .junk, .junk]) rfl rfl fun r hP hW hpan hret => ?_
  simp only [c_segment_Segment_Plain, ev,evA,true_and,and_true,and_self,if_true,if_false,reduceIte,ne_eq,forall_const,false_implies,beq_self_eq_true,decide_true,decide_false,Int.cast_ofNat_Int,Nat.reduceAdd,Nat.reduceLT,Nat.reduceLeDiff,Nat.reduceEqDiff,Nat.reduceBEq,Nat.reduceMul,Nat.reduceSub,Int.reduceToNat,Int.reduceEq,Int.reduceNe,Int.reduceLT,Int.reduceLE,Int.reduceBEq,Int.reduceAdd,Int.reduceSub,Int.reduceMul,hP,hW]
  try simp only [evRo, ev,evA,true_and,and_true,and_self,if_true,if_false,reduceIte,ne_eq,forall_const,false_implies,beq_self_eq_true,decide_true,decide_false,Int.cast_ofNat_Int,Nat.reduceAdd,Nat.reduceLT,Nat.reduceLeDiff,Nat.reduceEqDiff,Nat.reduceBEq,Nat.reduceMul,Nat.reduceSub,Int.reduceToNat,Int.reduceEq,Int.reduceNe,Int.reduceLT,Int.reduceLE,Int.reduceBEq,Int.reduceAdd,Int.reduceSub,Int.reduceMul,hP,hW]
  intro g
  try simp only [evRo, L.mixed, ev,evA,true_and,and_true,and_self,if_true,if_false,reduceIte,ne_eq,forall_const,false_implies,beq_self_eq_true,decide_true,decide_false,Int.cast_ofNat_Int,Nat.reduceAdd,Nat.reduceLT,Nat.reduceLeDiff,Nat.reduceEqDiff,Nat.reduceBEq,Nat.reduceMul,Nat.reduceSub,Int.reduceToNat,Int.reduceEq,Int.reduceNe,Int.reduceLT,Int.reduceLE,Int.reduceBEq,Int.reduceAdd,Int.reduceSub,Int.reduceMul,hP,hW]
  refine callE _ (fun S2 => t_Text W0 L S2 hx hbig) (by try simp only [ev,evA,true_and,and_true,and_self,if_true,if_false,reduceIte,ne_eq,forall_const,false_implies,beq_self_eq_true,decide_true,decide_false,Int.cast_ofNat_Int,Nat.reduceAdd,Nat.reduceLT,Nat.reduceLeDiff,Nat.reduceEqDiff,Nat.reduceBEq,Nat.reduceMul,Nat.reduceSub,Int.reduceToNat,Int.reduceEq,Int.reduceNe,Int.reduceLT,Int.reduceLE,Int.reduceBEq,Int.reduceAdd,Int.reduceSub,Int.reduceMul,hP,hW]) ?_
  try simp only [evRo, ev,evA,true_and,and_true,and_self,if_true,if_false,reduceIte,ne_eq,forall_const,false_implies,beq_self_eq_true,decide_true,decide_false,Int.cast_ofNat_Int,Nat.reduceAdd,Nat.reduceLT,Nat.reduceLeDiff,Nat.reduceEqDiff,Nat.reduceBEq,Nat.reduceMul,Nat.reduceSub,Int.reduceToNat,Int.reduceEq,Int.reduceNe,Int.reduceLT,Int.reduceLE,Int.reduceBEq,Int.reduceAdd,Int.reduceSub,Int.reduceMul,hP,hW]
  refine callE _ (fun S2 => t_CloneSp W0 S2 f1 l hl) (by try simp only [ev,evA,true_and,and_true,and_self,if_true,if_false,reduceIte,ne_eq,forall_const,false_implies,beq_self_eq_true,decide_true,decide_false,Int.cast_ofNat_Int,Nat.reduceAdd,Nat.reduceLT,Nat.reduceLeDiff,Nat.reduceEqDiff,Nat.reduceBEq,Nat.reduceMul,Nat.reduceSub,Int.reduceToNat,Int.reduceEq,Int.reduceNe,Int.reduceLT,Int.reduceLE,Int.reduceBEq,Int.reduceAdd,Int.reduceSub,Int.reduceMul,hP,hW]) ?_
  try simp only [evRo, ev,evA,true_and,and_true,and_self,if_true,if_false,reduceIte,ne_eq,forall_const,false_implies,beq_self_eq_true,decide_true,decide_false,Int.cast_ofNat_Int,Nat.reduceAdd,Nat.reduceLT,Nat.reduceLeDiff,Nat.reduceEqDiff,Nat.reduceBEq,Nat.reduceMul,Nat.reduceSub,Int.reduceToNat,Int.reduceEq,Int.reduceNe,Int.reduceLT,Int.reduceLE,Int.reduceBEq,Int.reduceAdd,Int.reduceSub,Int.reduceMul,hP,hW]
  refine callE _ (fun S2 => t_CloneSi W0 S2 f2 q hq) (by try simp only [ev,evA,true_and,and_true,and_self,if_true,if_false,reduceIte,ne_eq,forall_const,false_implies,beq_self_eq_true,decide_true,decide_false,Int.cast_ofNat_Int,Nat.reduceAdd,Nat.reduceLT,Nat.reduceLeDiff,Nat.reduceEqDiff,Nat.reduceBEq,Nat.reduceMul,Nat.reduceSub,Int.reduceToNat,Int.reduceEq,Int.reduceNe,Int.reduceLT,Int.reduceLE,Int.reduceBEq,Int.reduceAdd,Int.reduceSub,Int.reduceMul,hP,hW]) ?_
  try simp only [evRo, ev,evA,true_and,and_true,and_self,if_true,if_false,reduceIte,ne_eq,forall_const,false_implies,beq_self_eq_true,decide_true,decide_false,Int.cast_ofNat_Int,Nat.reduceAdd,Nat.reduceLT,Nat.reduceLeDiff,Nat.reduceEqDiff,Nat.reduceBEq,Nat.reduceMul,Nat.reduceSub,Int.reduceToNat,Int.reduceEq,Int.reduceNe,Int.reduceLT,Int.reduceLE,Int.reduceBEq,Int.reduceAdd,Int.reduceSub,Int.reduceMul,hP,hW]
  refine hret _ _ S.length 5 ?_
  simp only [r_segment_Segment_Plain, evRo, evMk, ev,evA,true_and,and_true,and_self,if_true,if_false,reduceIte,ne_eq,forall_const,false_implies,beq_self_eq_true,decide_true,decide_false,Int.cast_ofNat_Int,Nat.reduceAdd,Nat.reduceLT,Nat.reduceLeDiff,Nat.reduceEqDiff,Nat.reduceBEq,Nat.reduceMul,Nat.reduceSub,Int.reduceToNat,Int.reduceEq,Int.reduceNe,Int.reduceLT,Int.reduceLE,Int.reduceBEq,Int.reduceAdd,Int.reduceSub,Int.reduceMul,hP,hW]
  exact ⟨_, rfl, rfl⟩

theorem t_Load (W0 : World) (L : LibOk W0) (S : List SO) (id lb : Int) {ls : List ByteArray} (f1 f2 : Bool) (l : List Sp) (q : List Si) (h : Ls ls) (hbig : Big (bytes ls)) (hl : l.length ≤ 1099511627776) (hq : q.length ≤ 1099511627776) (hrs : RS ls.length 0 0 l) (hqs : QS ls.length q) :
    CtP Tryd.prog W0 n_segment_Load [.agg [.raw (.int .i64 id), .raw (.int .i64 lb), .raw (.string (cat ls)), .lst 3 f1 (encSp l), .lst 2 f2 (encSi q)]] S
      (fun d => ∃ x, d = .tup [.agg [.raw (.int .i64 id), .raw (.int .i64 lb), encO x, .lst 3 false (encSp l), .lst 2 false (encSi q)], .raw (.bool true)] ∧ OkO x ∧ lsO x = ls) := by
  refine Ct_R k_segment_Load 400 (.mk [.mk (.agg [.raw (.int .i64 id), .raw (.int .i64 lb), .raw (.string (cat ls)), .lst 3 f1 (encSp l), .lst 2 f2 (encSi q)]) .junk .junk .junk .junk .junk .junk .junk, .mk .junk .junk .junk .junk .junk .junk .junk .junk, .mk .junk .junk .junk .junk .junk .junk .junk .junk, .mk .junk .junk .junk .junk .junk .junk .junk .junk] [.junk, .junk, .junk, .junk, .junk]) rfl rfl fun r hP hW hpan hret => ?_
  simp only [c_segment_Load, ev,evA,true_and,and_true,and_self,if_true,if_false,reduceIte,ne_eq,forall_const,false_implies,beq_self_eq_true,decide_true,decide_false,Int.cast_ofNat_Int,Nat.reduceAdd,Nat.reduceLT,Nat.reduceLeDiff,Nat.reduceEqDiff,Nat.reduceBEq,Nat.reduceMul,Nat.reduceSub,Int.reduceToNat,Int.reduceEq,Int.reduceNe,Int.reduceLT,Int.reduceLE,Int.reduceBEq,Int.reduceAdd,Int.reduceSub,Int.reduceMul,hP,hW]
  try simp only [evRo, ev,evA,true_and,and_true,and_self,if_true,if_false,reduceIte,ne_eq,forall_const,false_implies,beq_self_eq_true,decide_true,decide_false,Int.cast_ofNat_Int,Nat.reduceAdd,Nat.reduceLT,Nat.reduceLeDiff,Nat.reduceEqDiff,Nat.reduceBEq,Nat.reduceMul,Nat.reduceSub,Int.reduceToNat,Int.reduceEq,Int.reduceNe,Int.reduceLT,Int.reduceLE,Int.reduceBEq,Int.reduceAdd,Int.reduceSub,Int.reduceMul,hP,hW]
  intro g
  try simp only [evRo, L.mixed, ev,evA,true_and,and_true,and_self,if_true,if_false,reduceIte,ne_eq,forall_const,false_implies,beq_self_eq_true,decide_true,decide_false,Int.cast_ofNat_Int,Nat.reduceAdd,Nat.reduceLT,Nat.reduceLeDiff,Nat.reduceEqDiff,Nat.reduceBEq,Nat.reduceMul,Nat.reduceSub,Int.reduceToNat,Int.reduceEq,Int.reduceNe,Int.reduceLT,Int.reduceLE,Int.reduceBEq,Int.reduceAdd,Int.reduceSub,Int.reduceMul,hP,hW]
  refine callQ _ (fun S2 => t_New W0 L S2 h hbig) (by obtain ⟨r, h1, h2⟩ := ropeW h; exact ⟨_, r, rfl, h1, h2⟩) (by try simp only [ev,evA,true_and,and_true,and_self,if_true,if_false,reduceIte,ne_eq,forall_const,false_implies,beq_self_eq_true,decide_true,decide_false,Int.cast_ofNat_Int,Nat.reduceAdd,Nat.reduceLT,Nat.reduceLeDiff,Nat.reduceEqDiff,Nat.reduceBEq,Nat.reduceMul,Nat.reduceSub,Int.reduceToNat,Int.reduceEq,Int.reduceNe,Int.reduceLT,Int.reduceLE,Int.reduceBEq,Int.reduceAdd,Int.reduceSub,Int.reduceMul,hP,hW]) ?_
  rintro d ⟨x, rfl, hx, hxl⟩
  try simp only [evRo, L.mixed, ev,evA,true_and,and_true,and_self,if_true,if_false,reduceIte,ne_eq,forall_const,false_implies,beq_self_eq_true,decide_true,decide_false,Int.cast_ofNat_Int,Nat.reduceAdd,Nat.reduceLT,Nat.reduceLeDiff,Nat.reduceEqDiff,Nat.reduceBEq,Nat.reduceMul,Nat.reduceSub,Int.reduceToNat,Int.reduceEq,Int.reduceNe,Int.reduceLT,Int.reduceLE,Int.reduceBEq,Int.reduceAdd,Int.reduceSub,Int.reduceMul,hP,hW]
  intro g1
  refine callE _ (fun S2 => t_CloneSp W0 S2 f1 l hl) (by try simp only [ev,evA,true_and,and_true,and_self,if_true,if_false,reduceIte,ne_eq,forall_const,false_implies,beq_self_eq_true,decide_true,decide_false,Int.cast_ofNat_Int,Nat.reduceAdd,Nat.reduceLT,Nat.reduceLeDiff,Nat.reduceEqDiff,Nat.reduceBEq,Nat.reduceMul,Nat.reduceSub,Int.reduceToNat,Int.reduceEq,Int.reduceNe,Int.reduceLT,Int.reduceLE,Int.reduceBEq,Int.reduceAdd,Int.reduceSub,Int.reduceMul,hP,hW]) ?_
  try simp only [evRo, ev,evA,true_and,and_true,and_self,if_true,if_false,reduceIte,ne_eq,forall_const,false_implies,beq_self_eq_true,decide_true,decide_false,Int.cast_ofNat_Int,Nat.reduceAdd,Nat.reduceLT,Nat.reduceLeDiff,Nat.reduceEqDiff,Nat.reduceBEq,Nat.reduceMul,Nat.reduceSub,Int.reduceToNat,Int.reduceEq,Int.reduceNe,Int.reduceLT,Int.reduceLE,Int.reduceBEq,Int.reduceAdd,Int.reduceSub,Int.reduceMul,hP,hW]
  refine callE _ (fun S2 => t_CloneSi W0 S2 f2 q hq) (by try simp only [ev,evA,true_and,and_true,and_self,if_true,if_false,reduceIte,ne_eq,forall_const,false_implies,beq_self_eq_true,decide_true,decide_false,Int.cast_ofNat_Int,Nat.reduceAdd,Nat.reduceLT,Nat.reduceLeDiff,Nat.reduceEqDiff,Nat.reduceBEq,Nat.reduceMul,Nat.reduceSub,Int.reduceToNat,Int.reduceEq,Int.reduceNe,Int.reduceLT,Int.reduceLE,Int.reduceBEq,Int.reduceAdd,Int.reduceSub,Int.reduceMul,hP,hW]) ?_
  try simp only [evRo, L.mixed, ev,evA,true_and,and_true,and_self,if_true,if_false,reduceIte,ne_eq,forall_const,false_implies,beq_self_eq_true,decide_true,decide_false,Int.cast_ofNat_Int,Nat.reduceAdd,Nat.reduceLT,Nat.reduceLeDiff,Nat.reduceEqDiff,Nat.reduceBEq,Nat.reduceMul,Nat.reduceSub,Int.reduceToNat,Int.reduceEq,Int.reduceNe,Int.reduceLT,Int.reduceLE,Int.reduceBEq,Int.reduceAdd,Int.reduceSub,Int.reduceMul,hP,hW]
  refine callE _ (fun S2 => t_Len W0 S2 x) (by try simp only [ev,evA,true_and,and_true,and_self,if_true,if_false,reduceIte,ne_eq,forall_const,false_implies,beq_self_eq_true,decide_true,decide_false,Int.cast_ofNat_Int,Nat.reduceAdd,Nat.reduceLT,Nat.reduceLeDiff,Nat.reduceEqDiff,Nat.reduceBEq,Nat.reduceMul,Nat.reduceSub,Int.reduceToNat,Int.reduceEq,Int.reduceNe,Int.reduceLT,Int.reduceLE,Int.reduceBEq,Int.reduceAdd,Int.reduceSub,Int.reduceMul,hP,hW]) ?_
  try simp only [evRo, ev,evA,true_and,and_true,and_self,if_true,if_false,reduceIte,ne_eq,forall_const,false_implies,beq_self_eq_true,decide_true,decide_false,Int.cast_ofNat_Int,Nat.reduceAdd,Nat.reduceLT,Nat.reduceLeDiff,Nat.reduceEqDiff,Nat.reduceBEq,Nat.reduceMul,Nat.reduceSub,Int.reduceToNat,Int.reduceEq,Int.reduceNe,Int.reduceLT,Int.reduceLE,Int.reduceBEq,Int.reduceAdd,Int.reduceSub,Int.reduceMul,hP,hW]
  refine callE (.raw (.bool true)) (fun S2 => (t_Right L.mixed W0 S2 false false l q (lsO x).length hl hq).mono (fun d ⟨b, h1, h2⟩ => by rw [h1, h2.2 (by rw [hxl]; exact ⟨hrs, hqs⟩)])) (by try simp only [ev,evA,true_and,and_true,and_self,if_true,if_false,reduceIte,ne_eq,forall_const,false_implies,beq_self_eq_true,decide_true,decide_false,Int.cast_ofNat_Int,Nat.reduceAdd,Nat.reduceLT,Nat.reduceLeDiff,Nat.reduceEqDiff,Nat.reduceBEq,Nat.reduceMul,Nat.reduceSub,Int.reduceToNat,Int.reduceEq,Int.reduceNe,Int.reduceLT,Int.reduceLE,Int.reduceBEq,Int.reduceAdd,Int.reduceSub,Int.reduceMul,hP,hW]) ?_
  try simp only [evRo, ev,evA,true_and,and_true,and_self,if_true,if_false,reduceIte,ne_eq,forall_const,false_implies,beq_self_eq_true,decide_true,decide_false,Int.cast_ofNat_Int,Nat.reduceAdd,Nat.reduceLT,Nat.reduceLeDiff,Nat.reduceEqDiff,Nat.reduceBEq,Nat.reduceMul,Nat.reduceSub,Int.reduceToNat,Int.reduceEq,Int.reduceNe,Int.reduceLT,Int.reduceLE,Int.reduceBEq,Int.reduceAdd,Int.reduceSub,Int.reduceMul,hP,hW]
  refine hret _ _ S.length 5 ?_
  simp only [r_segment_Load, evRo, evMk, ev,evA,true_and,and_true,and_self,if_true,if_false,reduceIte,ne_eq,forall_const,false_implies,beq_self_eq_true,decide_true,decide_false,Int.cast_ofNat_Int,Nat.reduceAdd,Nat.reduceLT,Nat.reduceLeDiff,Nat.reduceEqDiff,Nat.reduceBEq,Nat.reduceMul,Nat.reduceSub,Int.reduceToNat,Int.reduceEq,Int.reduceNe,Int.reduceLT,Int.reduceLE,Int.reduceBEq,Int.reduceAdd,Int.reduceSub,Int.reduceMul,hP,hW]
  exact ⟨_, rfl, x, rfl, hx, hxl⟩

/-- Nothing is added to nothing. -/
theorem t_addNil (W0 : World) (S : List SO) (m f t : Int) (h : t ≤ f) : CtP Tryd.prog W0 n_marks_add [.raw (.slice none 0 0), .agg [.raw (.int .i64 m), .raw (.int .i64 f), .raw (.int .i64 t)]] S (fun d => d = .raw (.slice none 0 0)) := by
  refine Ct_R k_marks_add 400 (.mk [.mk (.raw (.slice none 0 0)) (.agg [.raw (.int .i64 m), .raw (.int .i64 f), .raw (.int .i64 t)]) .junk .junk .junk .junk .junk .junk, .mk .junk .junk .junk .junk .junk .junk .junk .junk, .mk .junk .junk .junk .junk .junk .junk .junk .junk, .mk .junk .junk .junk .junk .junk .junk .junk .junk, .mk .junk .junk .junk .junk .junk .junk .junk .junk, .mk .junk .junk .junk .junk .junk .junk .junk .junk] [.junk, .junk]) rfl rfl fun r hP hW hpan hret => ?_
  simp only [c_marks_add, ev,evA,true_and,and_true,and_self,if_true,if_false,reduceIte,ne_eq,forall_const,false_implies,beq_self_eq_true,decide_true,decide_false,Int.cast_ofNat_Int,Nat.reduceAdd,Nat.reduceLT,Nat.reduceLeDiff,Nat.reduceEqDiff,Nat.reduceBEq,Nat.reduceMul,Nat.reduceSub,Int.reduceToNat,Int.reduceEq,Int.reduceNe,Int.reduceLT,Int.reduceLE,Int.reduceBEq,Int.reduceAdd,Int.reduceSub,Int.reduceMul,hP,hW]
  intro g0
  try simp only [decide_eq_true h, ev,evA,true_and,and_true,and_self,if_true,if_false,reduceIte,ne_eq,forall_const,false_implies,beq_self_eq_true,decide_true,decide_false,Int.cast_ofNat_Int,Nat.reduceAdd,Nat.reduceLT,Nat.reduceLeDiff,Nat.reduceEqDiff,Nat.reduceBEq,Nat.reduceMul,Nat.reduceSub,Int.reduceToNat,Int.reduceEq,Int.reduceNe,Int.reduceLT,Int.reduceLE,Int.reduceBEq,Int.reduceAdd,Int.reduceSub,Int.reduceMul,hP,hW]
  refine hret _ _ S.length 5 ?_
  simp only [r_marks_add, ev,evA,true_and,and_true,and_self,if_true,if_false,reduceIte,ne_eq,forall_const,false_implies,beq_self_eq_true,decide_true,decide_false,Int.cast_ofNat_Int,Nat.reduceAdd,Nat.reduceLT,Nat.reduceLeDiff,Nat.reduceEqDiff,Nat.reduceBEq,Nat.reduceMul,Nat.reduceSub,Int.reduceToNat,Int.reduceEq,Int.reduceNe,Int.reduceLT,Int.reduceLE,Int.reduceBEq,Int.reduceAdd,Int.reduceSub,Int.reduceMul,hP,hW]
  exact ⟨_, rfl, rfl⟩

theorem t_Compact0 (W0 : World) (S : List SO) (f : Bool) : CtP Tryd.prog W0 n_slices_Compact_Lapi_Site_api_Site [.lst 2 f []] S (fun d => d = .lst 2 f []) := by
  refine Ct_R k_slices_Compact_Lapi_Site_api_Site 400 (.mk [.mk (.lst 2 f []) .junk .junk .junk .junk .junk .junk .junk, .mk .junk .junk .junk .junk .junk .junk .junk .junk, .mk .junk .junk .junk .junk .junk .junk .junk .junk, .mk .junk .junk .junk .junk .junk .junk .junk .junk, .mk .junk .junk .junk .junk .junk .junk .junk .junk, .mk .junk .junk .junk .junk .junk .junk .junk .junk, .mk .junk .junk .junk .junk .junk .junk .junk .junk] [.junk, .junk, .junk, .junk, .junk]) rfl rfl fun r hP hW hpan hret => ?_
  simp only [c_slices_Compact_Lapi_Site_api_Site, ev,evA,true_and,and_true,and_self,if_true,if_false,reduceIte,ne_eq,forall_const,false_implies,beq_self_eq_true,decide_true,decide_false,Int.cast_ofNat_Int,Nat.reduceAdd,Nat.reduceLT,Nat.reduceLeDiff,Nat.reduceEqDiff,Nat.reduceBEq,Nat.reduceMul,Nat.reduceSub,Int.reduceToNat,Int.reduceEq,Int.reduceNe,Int.reduceLT,Int.reduceLE,Int.reduceBEq,Int.reduceAdd,Int.reduceSub,Int.reduceMul,hP,hW]
  refine hret _ _ S.length 5 ?_
  simp only [r_slices_Compact_Lapi_Site_api_Site, ev,evA,true_and,and_true,and_self,if_true,if_false,reduceIte,ne_eq,forall_const,false_implies,beq_self_eq_true,decide_true,decide_false,Int.cast_ofNat_Int,Nat.reduceAdd,Nat.reduceLT,Nat.reduceLeDiff,Nat.reduceEqDiff,Nat.reduceBEq,Nat.reduceMul,Nat.reduceSub,Int.reduceToNat,Int.reduceEq,Int.reduceNe,Int.reduceLT,Int.reduceLE,Int.reduceBEq,Int.reduceAdd,Int.reduceSub,Int.reduceMul,hP,hW]
  exact ⟨_, rfl, rfl⟩

theorem t_moved0 (W0 : World) (L : LibOk W0) (S : List SO) (f : DV) : CtP Tryd.prog W0 n_marks_moved [.raw (.slice none 0 0), f] S (fun d => d = .lst 2 false []) := by
  refine Ct_R k_marks_moved 400 (.mk [.mk (.raw (.slice none 0 0)) f .junk .junk .junk .junk .junk .junk, .mk .junk .junk .junk .junk .junk .junk .junk .junk, .mk .junk .junk .junk .junk .junk .junk .junk .junk] [.junk, .junk, .junk, .junk, .junk, .junk]) rfl rfl fun r hP hW hpan hret => ?_
  simp only [c_marks_moved, ev,evA,true_and,and_true,and_self,if_true,if_false,reduceIte,ne_eq,forall_const,false_implies,beq_self_eq_true,decide_true,decide_false,Int.cast_ofNat_Int,Nat.reduceAdd,Nat.reduceLT,Nat.reduceLeDiff,Nat.reduceEqDiff,Nat.reduceBEq,Nat.reduceMul,Nat.reduceSub,Int.reduceToNat,Int.reduceEq,Int.reduceNe,Int.reduceLT,Int.reduceLE,Int.reduceBEq,Int.reduceAdd,Int.reduceSub,Int.reduceMul,hP,hW]
  refine callE (.lst 2 false []) (fun S2 => CtP.argsN 0 (by simp [rlL]; exact leN_nil 0 2) (t_CloneSi W0 S2 false [] (by simp))) (by try simp only [ev,evA,true_and,and_true,and_self,if_true,if_false,reduceIte,ne_eq,forall_const,false_implies,beq_self_eq_true,decide_true,decide_false,Int.cast_ofNat_Int,Nat.reduceAdd,Nat.reduceLT,Nat.reduceLeDiff,Nat.reduceEqDiff,Nat.reduceBEq,Nat.reduceMul,Nat.reduceSub,Int.reduceToNat,Int.reduceEq,Int.reduceNe,Int.reduceLT,Int.reduceLE,Int.reduceBEq,Int.reduceAdd,Int.reduceSub,Int.reduceMul,hP,hW]) ?_
  try simp only [ev,evA,true_and,and_true,and_self,if_true,if_false,reduceIte,ne_eq,forall_const,false_implies,beq_self_eq_true,decide_true,decide_false,Int.cast_ofNat_Int,Nat.reduceAdd,Nat.reduceLT,Nat.reduceLeDiff,Nat.reduceEqDiff,Nat.reduceBEq,Nat.reduceMul,Nat.reduceSub,Int.reduceToNat,Int.reduceEq,Int.reduceNe,Int.reduceLT,Int.reduceLE,Int.reduceBEq,Int.reduceAdd,Int.reduceSub,Int.reduceMul,hP,hW]
  refine SX_lp (α := Unit) (fun _ => True) (fun _ => _) (fun _ => _) (fun _ => 0) 100 (Cv.done ⟨(), trivial, rfl, rfl⟩) ?_
  rintro ⟨⟩ _
  try simp only [ev,evA,true_and,and_true,and_self,if_true,if_false,reduceIte,ne_eq,forall_const,false_implies,beq_self_eq_true,decide_true,decide_false,Int.cast_ofNat_Int,Nat.reduceAdd,Nat.reduceLT,Nat.reduceLeDiff,Nat.reduceEqDiff,Nat.reduceBEq,Nat.reduceMul,Nat.reduceSub,Int.reduceToNat,Int.reduceEq,Int.reduceNe,Int.reduceLT,Int.reduceLE,Int.reduceBEq,Int.reduceAdd,Int.reduceSub,Int.reduceMul,hP,hW]
  refine callE _ (fun S2 => L.sort0 S2 false) (by try simp only [ev,evA,true_and,and_true,and_self,if_true,if_false,reduceIte,ne_eq,forall_const,false_implies,beq_self_eq_true,decide_true,decide_false,Int.cast_ofNat_Int,Nat.reduceAdd,Nat.reduceLT,Nat.reduceLeDiff,Nat.reduceEqDiff,Nat.reduceBEq,Nat.reduceMul,Nat.reduceSub,Int.reduceToNat,Int.reduceEq,Int.reduceNe,Int.reduceLT,Int.reduceLE,Int.reduceBEq,Int.reduceAdd,Int.reduceSub,Int.reduceMul,hP,hW]) ?_
  try simp only [ev,evA,true_and,and_true,and_self,if_true,if_false,reduceIte,ne_eq,forall_const,false_implies,beq_self_eq_true,decide_true,decide_false,Int.cast_ofNat_Int,Nat.reduceAdd,Nat.reduceLT,Nat.reduceLeDiff,Nat.reduceEqDiff,Nat.reduceBEq,Nat.reduceMul,Nat.reduceSub,Int.reduceToNat,Int.reduceEq,Int.reduceNe,Int.reduceLT,Int.reduceLE,Int.reduceBEq,Int.reduceAdd,Int.reduceSub,Int.reduceMul,hP,hW]
  refine callE _ (fun S2 => t_Compact0 W0 S2 false) (by try simp only [ev,evA,true_and,and_true,and_self,if_true,if_false,reduceIte,ne_eq,forall_const,false_implies,beq_self_eq_true,decide_true,decide_false,Int.cast_ofNat_Int,Nat.reduceAdd,Nat.reduceLT,Nat.reduceLeDiff,Nat.reduceEqDiff,Nat.reduceBEq,Nat.reduceMul,Nat.reduceSub,Int.reduceToNat,Int.reduceEq,Int.reduceNe,Int.reduceLT,Int.reduceLE,Int.reduceBEq,Int.reduceAdd,Int.reduceSub,Int.reduceMul,hP,hW]) ?_
  try simp only [ev,evA,true_and,and_true,and_self,if_true,if_false,reduceIte,ne_eq,forall_const,false_implies,beq_self_eq_true,decide_true,decide_false,Int.cast_ofNat_Int,Nat.reduceAdd,Nat.reduceLT,Nat.reduceLeDiff,Nat.reduceEqDiff,Nat.reduceBEq,Nat.reduceMul,Nat.reduceSub,Int.reduceToNat,Int.reduceEq,Int.reduceNe,Int.reduceLT,Int.reduceLE,Int.reduceBEq,Int.reduceAdd,Int.reduceSub,Int.reduceMul,hP,hW]
  refine hret _ _ S.length 5 ?_
  simp only [r_marks_moved, ev,evA,true_and,and_true,and_self,if_true,if_false,reduceIte,ne_eq,forall_const,false_implies,beq_self_eq_true,decide_true,decide_false,Int.cast_ofNat_Int,Nat.reduceAdd,Nat.reduceLT,Nat.reduceLeDiff,Nat.reduceEqDiff,Nat.reduceBEq,Nat.reduceMul,Nat.reduceSub,Int.reduceToNat,Int.reduceEq,Int.reduceNe,Int.reduceLT,Int.reduceLE,Int.reduceBEq,Int.reduceAdd,Int.reduceSub,Int.reduceMul,hP,hW]
  exact ⟨_, rfl, rfl⟩

theorem t_Put0 (W0 : World) (L : LibOk W0) (S : List SO) (at_ k : Int) : CtP Tryd.prog W0 n_marks_Put [.agg [.raw (.slice none 0 0), .raw (.slice none 0 0)], .raw (.int .i64 at_), .raw (.int .i64 k), .raw (.int .i64 0)] S (fun d => d = .agg [.raw (.slice none 0 0), .lst 2 false []]) := by
  refine Ct_R k_marks_Put 400 (.mk [.mk (.agg [.raw (.slice none 0 0), .raw (.slice none 0 0)]) (.raw (.int .i64 at_)) (.raw (.int .i64 k)) (.raw (.int .i64 0)) .junk .junk .junk .junk, .mk .junk .junk .junk .junk .junk .junk .junk .junk, .mk .junk .junk .junk .junk .junk .junk .junk .junk, .mk .junk .junk .junk .junk .junk .junk .junk .junk, .mk .junk .junk .junk .junk .junk .junk .junk .junk, .mk .junk .junk .junk .junk .junk .junk .junk .junk, .mk .junk .junk .junk .junk .junk .junk .junk .junk, .mk .junk .junk .junk .junk .junk .junk .junk .junk, .mk .junk .junk .junk .junk .junk .junk .junk .junk] [.junk, .junk, .junk, .junk, .junk, .junk]) rfl rfl fun r hP hW hpan hret => ?_
  simp only [c_marks_Put, ev,evA,true_and,and_true,and_self,if_true,if_false,reduceIte,ne_eq,forall_const,false_implies,beq_self_eq_true,decide_true,decide_false,Int.cast_ofNat_Int,Nat.reduceAdd,Nat.reduceLT,Nat.reduceLeDiff,Nat.reduceEqDiff,Nat.reduceBEq,Nat.reduceMul,Nat.reduceSub,Int.reduceToNat,Int.reduceEq,Int.reduceNe,Int.reduceLT,Int.reduceLE,Int.reduceBEq,Int.reduceAdd,Int.reduceSub,Int.reduceMul,hP,hW]
  try simp only [ev,evA,true_and,and_true,and_self,if_true,if_false,reduceIte,ne_eq,forall_const,false_implies,beq_self_eq_true,decide_true,decide_false,Int.cast_ofNat_Int,Nat.reduceAdd,Nat.reduceLT,Nat.reduceLeDiff,Nat.reduceEqDiff,Nat.reduceBEq,Nat.reduceMul,Nat.reduceSub,Int.reduceToNat,Int.reduceEq,Int.reduceNe,Int.reduceLT,Int.reduceLE,Int.reduceBEq,Int.reduceAdd,Int.reduceSub,Int.reduceMul,hP,hW]
  intro g
  try simp only [ev,evA,true_and,and_true,and_self,if_true,if_false,reduceIte,ne_eq,forall_const,false_implies,beq_self_eq_true,decide_true,decide_false,Int.cast_ofNat_Int,Nat.reduceAdd,Nat.reduceLT,Nat.reduceLeDiff,Nat.reduceEqDiff,Nat.reduceBEq,Nat.reduceMul,Nat.reduceSub,Int.reduceToNat,Int.reduceEq,Int.reduceNe,Int.reduceLT,Int.reduceLE,Int.reduceBEq,Int.reduceAdd,Int.reduceSub,Int.reduceMul,hP,hW]
  intro g1
  refine SX_lp (α := Unit) (fun _ => True) (fun _ => _) (fun _ => _) (fun _ => 0) 100 (Cv.done ⟨(), trivial, rfl, rfl⟩) ?_
  rintro ⟨⟩ _
  try simp only [ev,evA,true_and,and_true,and_self,if_true,if_false,reduceIte,ne_eq,forall_const,false_implies,beq_self_eq_true,decide_true,decide_false,Int.cast_ofNat_Int,Nat.reduceAdd,Nat.reduceLT,Nat.reduceLeDiff,Nat.reduceEqDiff,Nat.reduceBEq,Nat.reduceMul,Nat.reduceSub,Int.reduceToNat,Int.reduceEq,Int.reduceNe,Int.reduceLT,Int.reduceLE,Int.reduceBEq,Int.reduceAdd,Int.reduceSub,Int.reduceMul,hP,hW]
  refine callE _ (fun S2 => t_addNil W0 S2 0 at_ at_ (Int.le_refl _)) (by try simp only [ev,evA,true_and,and_true,and_self,if_true,if_false,reduceIte,ne_eq,forall_const,false_implies,beq_self_eq_true,decide_true,decide_false,Int.cast_ofNat_Int,Nat.reduceAdd,Nat.reduceLT,Nat.reduceLeDiff,Nat.reduceEqDiff,Nat.reduceBEq,Nat.reduceMul,Nat.reduceSub,Int.reduceToNat,Int.reduceEq,Int.reduceNe,Int.reduceLT,Int.reduceLE,Int.reduceBEq,Int.reduceAdd,Int.reduceSub,Int.reduceMul,hP,hW]) ?_
  try simp only [ev,evA,true_and,and_true,and_self,if_true,if_false,reduceIte,ne_eq,forall_const,false_implies,beq_self_eq_true,decide_true,decide_false,Int.cast_ofNat_Int,Nat.reduceAdd,Nat.reduceLT,Nat.reduceLeDiff,Nat.reduceEqDiff,Nat.reduceBEq,Nat.reduceMul,Nat.reduceSub,Int.reduceToNat,Int.reduceEq,Int.reduceNe,Int.reduceLT,Int.reduceLE,Int.reduceBEq,Int.reduceAdd,Int.reduceSub,Int.reduceMul,hP,hW]
  refine callE _ (fun S2 => t_moved0 W0 L S2 _) (by try simp only [ev,evA,true_and,and_true,and_self,if_true,if_false,reduceIte,ne_eq,forall_const,false_implies,beq_self_eq_true,decide_true,decide_false,Int.cast_ofNat_Int,Nat.reduceAdd,Nat.reduceLT,Nat.reduceLeDiff,Nat.reduceEqDiff,Nat.reduceBEq,Nat.reduceMul,Nat.reduceSub,Int.reduceToNat,Int.reduceEq,Int.reduceNe,Int.reduceLT,Int.reduceLE,Int.reduceBEq,Int.reduceAdd,Int.reduceSub,Int.reduceMul,hP,hW]) ?_
  try simp only [ev,evA,true_and,and_true,and_self,if_true,if_false,reduceIte,ne_eq,forall_const,false_implies,beq_self_eq_true,decide_true,decide_false,Int.cast_ofNat_Int,Nat.reduceAdd,Nat.reduceLT,Nat.reduceLeDiff,Nat.reduceEqDiff,Nat.reduceBEq,Nat.reduceMul,Nat.reduceSub,Int.reduceToNat,Int.reduceEq,Int.reduceNe,Int.reduceLT,Int.reduceLE,Int.reduceBEq,Int.reduceAdd,Int.reduceSub,Int.reduceMul,hP,hW]
  refine hret _ _ S.length 5 ?_
  simp only [r_marks_Put, ev,evA,true_and,and_true,and_self,if_true,if_false,reduceIte,ne_eq,forall_const,false_implies,beq_self_eq_true,decide_true,decide_false,Int.cast_ofNat_Int,Nat.reduceAdd,Nat.reduceLT,Nat.reduceLeDiff,Nat.reduceEqDiff,Nat.reduceBEq,Nat.reduceMul,Nat.reduceSub,Int.reduceToNat,Int.reduceEq,Int.reduceNe,Int.reduceLT,Int.reduceLE,Int.reduceBEq,Int.reduceAdd,Int.reduceSub,Int.reduceMul,hP,hW]
  exact ⟨_, rfl, rfl⟩

theorem t_Insert0 (W0 : World) (L : LibOk W0) (S : List SO) (id lb quota : Int) {x : Option Rp} (hx : OkO x) (hb : Big (bytes (lsO x))) (hq : (bytes (lsO x) : Int) ≤ quota) :
    CtP Tryd.prog W0 n_segment_Segment_Insert [.agg [.raw (.int .i64 id), .raw (.int .i64 lb), encO none, .raw (.slice none 0 0), .raw (.slice none 0 0)], .raw (.int .i64 0), encO x, .raw (.int .i64 0), .raw (.int .i64 quota)] S
      (fun d => ∃ y, d = .tup [.agg [.raw (.int .i64 id), .raw (.int .i64 lb), encO y, .raw (.slice none 0 0), .lst 2 false []], .raw (.bool true)] ∧ OkO y ∧ lsO y = lsO x) := by
  refine Ct_R k_segment_Segment_Insert 400 (.mk [.mk (.agg [.raw (.int .i64 id), .raw (.int .i64 lb), encO none, .raw (.slice none 0 0), .raw (.slice none 0 0)]) (.raw (.int .i64 0)) (encO x) (.raw (.int .i64 0)) (.raw (.int .i64 quota)) .junk .junk .junk, .mk .junk .junk .junk .junk .junk .junk .junk .junk, .mk .junk .junk .junk .junk .junk .junk .junk .junk, .mk .junk .junk .junk .junk .junk .junk .junk .junk] [.junk, .junk, .junk, .junk, .junk, .junk, .junk]) rfl rfl fun r hP hW hpan hret => ?_
  simp only [c_segment_Segment_Insert, ev,evA,true_and,and_true,and_self,if_true,if_false,reduceIte,ne_eq,forall_const,false_implies,beq_self_eq_true,decide_true,decide_false,Int.cast_ofNat_Int,Nat.reduceAdd,Nat.reduceLT,Nat.reduceLeDiff,Nat.reduceEqDiff,Nat.reduceBEq,Nat.reduceMul,Nat.reduceSub,Int.reduceToNat,Int.reduceEq,Int.reduceNe,Int.reduceLT,Int.reduceLE,Int.reduceBEq,Int.reduceAdd,Int.reduceSub,Int.reduceMul,hP,hW]
  try simp only [evRo, ev,evA,true_and,and_true,and_self,if_true,if_false,reduceIte,ne_eq,forall_const,false_implies,beq_self_eq_true,decide_true,decide_false,Int.cast_ofNat_Int,Nat.reduceAdd,Nat.reduceLT,Nat.reduceLeDiff,Nat.reduceEqDiff,Nat.reduceBEq,Nat.reduceMul,Nat.reduceSub,Int.reduceToNat,Int.reduceEq,Int.reduceNe,Int.reduceLT,Int.reduceLE,Int.reduceBEq,Int.reduceAdd,Int.reduceSub,Int.reduceMul,hP,hW]
  intro g
  try simp only [evRo, L.mixed, ev,evA,true_and,and_true,and_self,if_true,if_false,reduceIte,ne_eq,forall_const,false_implies,beq_self_eq_true,decide_true,decide_false,Int.cast_ofNat_Int,Nat.reduceAdd,Nat.reduceLT,Nat.reduceLeDiff,Nat.reduceEqDiff,Nat.reduceBEq,Nat.reduceMul,Nat.reduceSub,Int.reduceToNat,Int.reduceEq,Int.reduceNe,Int.reduceLT,Int.reduceLE,Int.reduceBEq,Int.reduceAdd,Int.reduceSub,Int.reduceMul,hP,hW]
  refine callE _ (fun S2 => t_Bytes W0 S2 none) (by try simp only [ev,evA,true_and,and_true,and_self,if_true,if_false,reduceIte,ne_eq,forall_const,false_implies,beq_self_eq_true,decide_true,decide_false,Int.cast_ofNat_Int,Nat.reduceAdd,Nat.reduceLT,Nat.reduceLeDiff,Nat.reduceEqDiff,Nat.reduceBEq,Nat.reduceMul,Nat.reduceSub,Int.reduceToNat,Int.reduceEq,Int.reduceNe,Int.reduceLT,Int.reduceLE,Int.reduceBEq,Int.reduceAdd,Int.reduceSub,Int.reduceMul,hP,hW]) ?_
  try simp only [evRo, L.mixed, ev,evA,true_and,and_true,and_self,if_true,if_false,reduceIte,ne_eq,forall_const,false_implies,beq_self_eq_true,decide_true,decide_false,Int.cast_ofNat_Int,Nat.reduceAdd,Nat.reduceLT,Nat.reduceLeDiff,Nat.reduceEqDiff,Nat.reduceBEq,Nat.reduceMul,Nat.reduceSub,Int.reduceToNat,Int.reduceEq,Int.reduceNe,Int.reduceLT,Int.reduceLE,Int.reduceBEq,Int.reduceAdd,Int.reduceSub,Int.reduceMul,hP,hW]
  refine callE _ (fun S2 => t_Bytes W0 S2 x) (by try simp only [ev,evA,true_and,and_true,and_self,if_true,if_false,reduceIte,ne_eq,forall_const,false_implies,beq_self_eq_true,decide_true,decide_false,Int.cast_ofNat_Int,Nat.reduceAdd,Nat.reduceLT,Nat.reduceLeDiff,Nat.reduceEqDiff,Nat.reduceBEq,Nat.reduceMul,Nat.reduceSub,Int.reduceToNat,Int.reduceEq,Int.reduceNe,Int.reduceLT,Int.reduceLE,Int.reduceBEq,Int.reduceAdd,Int.reduceSub,Int.reduceMul,hP,hW]) ?_
  unfold Big at hb
  have e1 : bytes (lsO none) = 0 := rfl
  have w1 : IntKind.i64.wrap (((0 : Nat) : Int) + (bytes (lsO x) : Int)) = (bytes (lsO x) : Int) := by rw [wrap_id (by omega) (by omega)]; omega
  have w2 : IntKind.i64.wrap ((0 : Int) + (bytes (lsO x) : Int)) = (bytes (lsO x) : Int) := by rw [wrap_id (by omega) (by omega)]; omega
  have d1 : decide (quota < (bytes (lsO x) : Int)) = false := decide_eq_false (by omega)
  try simp only [evRo, L.mixed, e1, w1, w2, d1, ev,evA,true_and,and_true,and_self,if_true,if_false,reduceIte,ne_eq,forall_const,false_implies,beq_self_eq_true,decide_true,decide_false,Int.cast_ofNat_Int,Nat.reduceAdd,Nat.reduceLT,Nat.reduceLeDiff,Nat.reduceEqDiff,Nat.reduceBEq,Nat.reduceMul,Nat.reduceSub,Int.reduceToNat,Int.reduceEq,Int.reduceNe,Int.reduceLT,Int.reduceLE,Int.reduceBEq,Int.reduceAdd,Int.reduceSub,Int.reduceMul,hP,hW]
  refine callE _ (fun S2 => CtP.argsN 1 (args' := [.agg [.raw (.int .i64 id), .raw (.int .i64 lb), encO none, .lst 3 false (encSp []), .lst 2 false (encSi [])], .raw (.int .i64 0)]) ?_ (t_clamp W0 S2 id lb none false false [] [] 0)) (by try simp only [ev,evA,true_and,and_true,and_self,if_true,if_false,reduceIte,ne_eq,forall_const,false_implies,beq_self_eq_true,decide_true,decide_false,Int.cast_ofNat_Int,Nat.reduceAdd,Nat.reduceLT,Nat.reduceLeDiff,Nat.reduceEqDiff,Nat.reduceBEq,Nat.reduceMul,Nat.reduceSub,Int.reduceToNat,Int.reduceEq,Int.reduceNe,Int.reduceLT,Int.reduceLE,Int.reduceBEq,Int.reduceAdd,Int.reduceSub,Int.reduceMul,hP,hW]) ?_
  · simp only [rlL]; exact ⟨leMarks _ _ _, leN_refl _ _, trivial⟩
  have e2 : pa (lsO none).length 0 = 0 := rfl
  try simp only [evRo, L.mixed, e1, w1, w2, d1, e2, ev,evA,true_and,and_true,and_self,if_true,if_false,reduceIte,ne_eq,forall_const,false_implies,beq_self_eq_true,decide_true,decide_false,Int.cast_ofNat_Int,Nat.reduceAdd,Nat.reduceLT,Nat.reduceLeDiff,Nat.reduceEqDiff,Nat.reduceBEq,Nat.reduceMul,Nat.reduceSub,Int.reduceToNat,Int.reduceEq,Int.reduceNe,Int.reduceLT,Int.reduceLE,Int.reduceBEq,Int.reduceAdd,Int.reduceSub,Int.reduceMul,hP,hW]
  refine callE _ (fun S2 => t_Len W0 S2 x) (by try simp only [ev,evA,true_and,and_true,and_self,if_true,if_false,reduceIte,ne_eq,forall_const,false_implies,beq_self_eq_true,decide_true,decide_false,Int.cast_ofNat_Int,Nat.reduceAdd,Nat.reduceLT,Nat.reduceLeDiff,Nat.reduceEqDiff,Nat.reduceBEq,Nat.reduceMul,Nat.reduceSub,Int.reduceToNat,Int.reduceEq,Int.reduceNe,Int.reduceLT,Int.reduceLE,Int.reduceBEq,Int.reduceAdd,Int.reduceSub,Int.reduceMul,hP,hW]) ?_
  try simp only [evRo, L.mixed, ev,evA,true_and,and_true,and_self,if_true,if_false,reduceIte,ne_eq,forall_const,false_implies,beq_self_eq_true,decide_true,decide_false,Int.cast_ofNat_Int,Nat.reduceAdd,Nat.reduceLT,Nat.reduceLeDiff,Nat.reduceEqDiff,Nat.reduceBEq,Nat.reduceMul,Nat.reduceSub,Int.reduceToNat,Int.reduceEq,Int.reduceNe,Int.reduceLT,Int.reduceLE,Int.reduceBEq,Int.reduceAdd,Int.reduceSub,Int.reduceMul,hP,hW]
  refine callE _ (fun S2 => t_Put0 W0 L S2 0 (lsO x).length) (by try simp only [ev,evA,true_and,and_true,and_self,if_true,if_false,reduceIte,ne_eq,forall_const,false_implies,beq_self_eq_true,decide_true,decide_false,Int.cast_ofNat_Int,Nat.reduceAdd,Nat.reduceLT,Nat.reduceLeDiff,Nat.reduceEqDiff,Nat.reduceBEq,Nat.reduceMul,Nat.reduceSub,Int.reduceToNat,Int.reduceEq,Int.reduceNe,Int.reduceLT,Int.reduceLE,Int.reduceBEq,Int.reduceAdd,Int.reduceSub,Int.reduceMul,hP,hW]) ?_
  try simp only [evRo, L.mixed, ev,evA,true_and,and_true,and_self,if_true,if_false,reduceIte,ne_eq,forall_const,false_implies,beq_self_eq_true,decide_true,decide_false,Int.cast_ofNat_Int,Nat.reduceAdd,Nat.reduceLT,Nat.reduceLeDiff,Nat.reduceEqDiff,Nat.reduceBEq,Nat.reduceMul,Nat.reduceSub,Int.reduceToNat,Int.reduceEq,Int.reduceNe,Int.reduceLT,Int.reduceLE,Int.reduceBEq,Int.reduceAdd,Int.reduceSub,Int.reduceMul,hP,hW]
  refine callQ _ (fun S2 => t_Put L.mixed W0 S2 (x := none) (y := x) 0 trivial hx (by rw [e1]; unfold Big; omega)) (by have := ropeQ hx.Ls; simpa [lsO] using this) (by try simp only [ev,evA,true_and,and_true,and_self,if_true,if_false,reduceIte,ne_eq,forall_const,false_implies,beq_self_eq_true,decide_true,decide_false,Int.cast_ofNat_Int,Nat.reduceAdd,Nat.reduceLT,Nat.reduceLeDiff,Nat.reduceEqDiff,Nat.reduceBEq,Nat.reduceMul,Nat.reduceSub,Int.reduceToNat,Int.reduceEq,Int.reduceNe,Int.reduceLT,Int.reduceLE,Int.reduceBEq,Int.reduceAdd,Int.reduceSub,Int.reduceMul,hP,hW]) ?_
  rintro d ⟨y, rfl, hy, hyl⟩
  try simp only [evRo, L.mixed, ev,evA,true_and,and_true,and_self,if_true,if_false,reduceIte,ne_eq,forall_const,false_implies,beq_self_eq_true,decide_true,decide_false,Int.cast_ofNat_Int,Nat.reduceAdd,Nat.reduceLT,Nat.reduceLeDiff,Nat.reduceEqDiff,Nat.reduceBEq,Nat.reduceMul,Nat.reduceSub,Int.reduceToNat,Int.reduceEq,Int.reduceNe,Int.reduceLT,Int.reduceLE,Int.reduceBEq,Int.reduceAdd,Int.reduceSub,Int.reduceMul,hP,hW]
  refine hret _ _ S.length 5 ?_
  simp only [r_segment_Segment_Insert, evRo, evMk, ev,evA,true_and,and_true,and_self,if_true,if_false,reduceIte,ne_eq,forall_const,false_implies,beq_self_eq_true,decide_true,decide_false,Int.cast_ofNat_Int,Nat.reduceAdd,Nat.reduceLT,Nat.reduceLeDiff,Nat.reduceEqDiff,Nat.reduceBEq,Nat.reduceMul,Nat.reduceSub,Int.reduceToNat,Int.reduceEq,Int.reduceNe,Int.reduceLT,Int.reduceLE,Int.reduceBEq,Int.reduceAdd,Int.reduceSub,Int.reduceMul,hP,hW]
  exact ⟨_, rfl, y, rfl, hy, by simpa [lsO] using hyl⟩

theorem t_of (W0 : World) (L : LibOk W0) (S : List SO) {ls : List ByteArray} (h : Ls ls) (hbig : Big (bytes ls)) : CtP Tryd.prog W0 n_law05_of [.raw (.string (cat ls))] S (RopeQ ls) := by
  refine Ct_R k_law05_of 400 (.mk [.mk (.raw (.string (cat ls))) .junk .junk .junk .junk .junk .junk .junk] [.junk, .junk, .junk]) rfl rfl fun r hP hW hpan hret => ?_
  simp only [c_law05_of, ev,evA,true_and,and_true,and_self,if_true,if_false,reduceIte,ne_eq,forall_const,false_implies,beq_self_eq_true,decide_true,decide_false,Int.cast_ofNat_Int,Nat.reduceAdd,Nat.reduceLT,Nat.reduceLeDiff,Nat.reduceEqDiff,Nat.reduceBEq,Nat.reduceMul,Nat.reduceSub,Int.reduceToNat,Int.reduceEq,Int.reduceNe,Int.reduceLT,Int.reduceLE,Int.reduceBEq,Int.reduceAdd,Int.reduceSub,Int.reduceMul,hP,hW]
  refine callQ _ (fun S2 => t_New W0 L S2 h hbig) (by obtain ⟨r, h1, h2⟩ := ropeW h; exact ⟨_, r, rfl, h1, h2⟩) (by try simp only [ev,evA,true_and,and_true,and_self,if_true,if_false,reduceIte,ne_eq,forall_const,false_implies,beq_self_eq_true,decide_true,decide_false,Int.cast_ofNat_Int,Nat.reduceAdd,Nat.reduceLT,Nat.reduceLeDiff,Nat.reduceEqDiff,Nat.reduceBEq,Nat.reduceMul,Nat.reduceSub,Int.reduceToNat,Int.reduceEq,Int.reduceNe,Int.reduceLT,Int.reduceLE,Int.reduceBEq,Int.reduceAdd,Int.reduceSub,Int.reduceMul,hP,hW]) ?_
  rintro d ⟨x, rfl, hx, hxl⟩
  try simp only [ev,evA,true_and,and_true,and_self,if_true,if_false,reduceIte,ne_eq,forall_const,false_implies,beq_self_eq_true,decide_true,decide_false,Int.cast_ofNat_Int,Nat.reduceAdd,Nat.reduceLT,Nat.reduceLeDiff,Nat.reduceEqDiff,Nat.reduceBEq,Nat.reduceMul,Nat.reduceSub,Int.reduceToNat,Int.reduceEq,Int.reduceNe,Int.reduceLT,Int.reduceLE,Int.reduceBEq,Int.reduceAdd,Int.reduceSub,Int.reduceMul,hP,hW]
  refine hret _ _ S.length 5 ?_
  simp only [r_law05_of, evRo, ev,evA,true_and,and_true,and_self,if_true,if_false,reduceIte,ne_eq,forall_const,false_implies,beq_self_eq_true,decide_true,decide_false,Int.cast_ofNat_Int,Nat.reduceAdd,Nat.reduceLT,Nat.reduceLeDiff,Nat.reduceEqDiff,Nat.reduceBEq,Nat.reduceMul,Nat.reduceSub,Int.reduceToNat,Int.reduceEq,Int.reduceNe,Int.reduceLT,Int.reduceLE,Int.reduceBEq,Int.reduceAdd,Int.reduceSub,Int.reduceMul,hP,hW]
  exact ⟨_, rfl, x, rfl, hx, hxl⟩

theorem t_text (W0 : World) (L : LibOk W0) (S : List SO) {ls : List ByteArray} (h : Ls ls) (hb : bytes ls ≤ 1000) : CtP Tryd.prog W0 n_law05_text [.raw (.string (cat ls))] S
    (fun d => ∃ y, d = .agg [.raw (.int .i64 1), .raw (.int .i64 2), encO y, .lst 3 false [], .lst 2 false []] ∧ OkO y ∧ lsO y = ls) := by
  have hbig : Big (bytes ls) := by unfold Big; omega
  refine CtP.leN (q := fun d => ∃ y, d = .agg [.raw (.int .i64 1), .raw (.int .i64 2), encO y, .raw (.slice none 0 0), .lst 2 false []] ∧ OkO y ∧ lsO y = ls) 1 ?_ ?_
  rotate_left
  · rintro d ⟨y, rfl, h1, h2⟩
    refine ⟨_, ?_, y, rfl, h1, h2⟩
    exact leN_agg 0 ⟨leN_refl _ _, leN_refl _ _, leN_refl _ _, leN_nil _ _, leN_refl _ _, trivial⟩
  refine Ct_R k_law05_text 400 (.mk [.mk (.raw (.string (cat ls))) .junk .junk .junk .junk .junk .junk .junk] [.junk, .junk, .junk, .junk, .junk]) rfl rfl fun r hP hW hpan hret => ?_
  simp only [c_law05_text, ev,evA,true_and,and_true,and_self,if_true,if_false,reduceIte,ne_eq,forall_const,false_implies,beq_self_eq_true,decide_true,decide_false,Int.cast_ofNat_Int,Nat.reduceAdd,Nat.reduceLT,Nat.reduceLeDiff,Nat.reduceEqDiff,Nat.reduceBEq,Nat.reduceMul,Nat.reduceSub,Int.reduceToNat,Int.reduceEq,Int.reduceNe,Int.reduceLT,Int.reduceLE,Int.reduceBEq,Int.reduceAdd,Int.reduceSub,Int.reduceMul,hP,hW]
  try simp only [evRo, ev,evA,true_and,and_true,and_self,if_true,if_false,reduceIte,ne_eq,forall_const,false_implies,beq_self_eq_true,decide_true,decide_false,Int.cast_ofNat_Int,Nat.reduceAdd,Nat.reduceLT,Nat.reduceLeDiff,Nat.reduceEqDiff,Nat.reduceBEq,Nat.reduceMul,Nat.reduceSub,Int.reduceToNat,Int.reduceEq,Int.reduceNe,Int.reduceLT,Int.reduceLE,Int.reduceBEq,Int.reduceAdd,Int.reduceSub,Int.reduceMul,hP,hW]
  intro g g1
  refine callE _ (fun S2 => t_SegNew W0 S2 1 2) (by try simp only [ev,evA,true_and,and_true,and_self,if_true,if_false,reduceIte,ne_eq,forall_const,false_implies,beq_self_eq_true,decide_true,decide_false,Int.cast_ofNat_Int,Nat.reduceAdd,Nat.reduceLT,Nat.reduceLeDiff,Nat.reduceEqDiff,Nat.reduceBEq,Nat.reduceMul,Nat.reduceSub,Int.reduceToNat,Int.reduceEq,Int.reduceNe,Int.reduceLT,Int.reduceLE,Int.reduceBEq,Int.reduceAdd,Int.reduceSub,Int.reduceMul,hP,hW]) ?_
  try simp only [evRo, ev,evA,true_and,and_true,and_self,if_true,if_false,reduceIte,ne_eq,forall_const,false_implies,beq_self_eq_true,decide_true,decide_false,Int.cast_ofNat_Int,Nat.reduceAdd,Nat.reduceLT,Nat.reduceLeDiff,Nat.reduceEqDiff,Nat.reduceBEq,Nat.reduceMul,Nat.reduceSub,Int.reduceToNat,Int.reduceEq,Int.reduceNe,Int.reduceLT,Int.reduceLE,Int.reduceBEq,Int.reduceAdd,Int.reduceSub,Int.reduceMul,hP,hW]
  refine callQ _ (fun S2 => t_of W0 L S2 h hbig) (ropeQ h) (by try simp only [ev,evA,true_and,and_true,and_self,if_true,if_false,reduceIte,ne_eq,forall_const,false_implies,beq_self_eq_true,decide_true,decide_false,Int.cast_ofNat_Int,Nat.reduceAdd,Nat.reduceLT,Nat.reduceLeDiff,Nat.reduceEqDiff,Nat.reduceBEq,Nat.reduceMul,Nat.reduceSub,Int.reduceToNat,Int.reduceEq,Int.reduceNe,Int.reduceLT,Int.reduceLE,Int.reduceBEq,Int.reduceAdd,Int.reduceSub,Int.reduceMul,hP,hW]) ?_
  rintro d ⟨x, rfl, hx, hxl⟩
  try simp only [evRo, ev,evA,true_and,and_true,and_self,if_true,if_false,reduceIte,ne_eq,forall_const,false_implies,beq_self_eq_true,decide_true,decide_false,Int.cast_ofNat_Int,Nat.reduceAdd,Nat.reduceLT,Nat.reduceLeDiff,Nat.reduceEqDiff,Nat.reduceBEq,Nat.reduceMul,Nat.reduceSub,Int.reduceToNat,Int.reduceEq,Int.reduceNe,Int.reduceLT,Int.reduceLE,Int.reduceBEq,Int.reduceAdd,Int.reduceSub,Int.reduceMul,hP,hW]
  refine callQ _ (fun S2 => t_Insert0 W0 L S2 1 2 1000 hx (by rw [hxl]; exact hbig) (by rw [hxl]; omega)) (⟨_, x, rfl, hx, rfl⟩) (by try simp only [ev,evA,true_and,and_true,and_self,if_true,if_false,reduceIte,ne_eq,forall_const,false_implies,beq_self_eq_true,decide_true,decide_false,Int.cast_ofNat_Int,Nat.reduceAdd,Nat.reduceLT,Nat.reduceLeDiff,Nat.reduceEqDiff,Nat.reduceBEq,Nat.reduceMul,Nat.reduceSub,Int.reduceToNat,Int.reduceEq,Int.reduceNe,Int.reduceLT,Int.reduceLE,Int.reduceBEq,Int.reduceAdd,Int.reduceSub,Int.reduceMul,hP,hW]) ?_
  rintro d ⟨y, rfl, hy, hyl⟩
  try simp only [evRo, ev,evA,true_and,and_true,and_self,if_true,if_false,reduceIte,ne_eq,forall_const,false_implies,beq_self_eq_true,decide_true,decide_false,Int.cast_ofNat_Int,Nat.reduceAdd,Nat.reduceLT,Nat.reduceLeDiff,Nat.reduceEqDiff,Nat.reduceBEq,Nat.reduceMul,Nat.reduceSub,Int.reduceToNat,Int.reduceEq,Int.reduceNe,Int.reduceLT,Int.reduceLE,Int.reduceBEq,Int.reduceAdd,Int.reduceSub,Int.reduceMul,hP,hW]
  refine hret _ _ S.length 5 ?_
  simp only [r_law05_text, evRo, evMk, ev,evA,true_and,and_true,and_self,if_true,if_false,reduceIte,ne_eq,forall_const,false_implies,beq_self_eq_true,decide_true,decide_false,Int.cast_ofNat_Int,Nat.reduceAdd,Nat.reduceLT,Nat.reduceLeDiff,Nat.reduceEqDiff,Nat.reduceBEq,Nat.reduceMul,Nat.reduceSub,Int.reduceToNat,Int.reduceEq,Int.reduceNe,Int.reduceLT,Int.reduceLE,Int.reduceBEq,Int.reduceAdd,Int.reduceSub,Int.reduceMul,hP,hW]
  exact ⟨_, rfl, y, rfl, hy, hyl.trans hxl⟩
end Go.Dv
/-
  The document's letters: a letter's size.
-/
namespace Go.Dv
open Go Go.RowKit Go.Proofs
set_option linter.unusedSimpArgs false
set_option linter.unusedVariables false
set_option maxRecDepth 30000

theorem bytD_B {s : ByteArray} {i : Nat} (h : i < s.size) : bytD s i = (B s i : Int) := by
  unfold bytD B
  rw [get!_eq h, getElem?_pos s i h]; rfl

theorem size_bad {s : ByteArray} (h : Utf8.decode s 0 = (65533, 1)) : ∃ d, Out.ret (.tup [.raw (.int .i64 1), .raw (.int .i32 65533)]) = Out.ret d ∧ d = .tup [.raw (.int .i64 ((Utf8.decode s 0).2 : Nat)), .raw (.int .i32 ((Utf8.decode s 0).1 : Nat))] := by
  rw [h]; exact ⟨_, rfl, rfl⟩
theorem size_good {s : ByteArray} {v n : Nat} (h : Utf8.decode s 0 = (v, n)) : ∃ d, Out.ret (.tup [.raw (.int .i64 n), .raw (.int .i32 v)]) = Out.ret d ∧ d = .tup [.raw (.int .i64 ((Utf8.decode s 0).2 : Nat)), .raw (.int .i32 ((Utf8.decode s 0).1 : Nat))] := by
  rw [h]; exact ⟨_, rfl, rfl⟩

theorem not_whole {s : ByteArray} {n lo v0 v : Nat} (hv : val s v0 (n - 1) = v) (h : ¬ (lo ≤ v ∧ v ≤ 1114111 ∧ ¬ (55296 ≤ v ∧ v < 57344))) : ¬ Whole s n lo v0 := by
  intro h5; have h6 := h5.2.2; rw [hv] at h6; exact h h6
theorem is_whole {s : ByteArray} {n lo v0 v : Nat} (hv : val s v0 (n - 1) = v) (h1 : n ≤ s.size) (h2 : ∀ k, 1 ≤ k → k < n → 128 ≤ B s k ∧ B s k < 192) (h3 : lo ≤ v) (h4 : v ≤ 1114111) (h5 : ¬ (55296 ≤ v ∧ v < 57344)) : Whole s n lo v0 := by
  unfold Whole; rw [hv]; exact ⟨h1, h2, h3, h4, h5⟩

theorem t_size (hm : Tryd.prog.follows .mixedOrders = true) (W0 : World) (S : List SO) (s : ByteArray) (h0 : 0 < s.size) (hs : Big s.size) : CtP Tryd.prog W0 n_ref01_size [.raw (.string s)] S (fun d => d = .tup [.raw (.int .i64 (Utf8.decode s 0).2), .raw (.int .i32 (Utf8.decode s 0).1)]) := by
  have c0 : (0 ≤ (0 : Int) ∧ (0 : Int) < (s.size : Int)) = True := by simp; exact h0
  have b0 := B_lt s 0
  have w0 : IntKind.i64.wrap (bytD s 0) = (B s 0 : Int) := by rw [bytD_B h0, wrap_id (by omega) (by omega)]
  refine Ct_R k_ref01_size 400 (.mk [.mk (.raw (.string s)) .junk .junk .junk .junk .junk .junk .junk, .mk .junk .junk .junk .junk .junk .junk .junk .junk, .mk .junk .junk .junk .junk .junk .junk .junk .junk, .mk .junk .junk .junk .junk .junk .junk .junk .junk, .mk .junk .junk .junk .junk .junk .junk .junk .junk, .mk .junk .junk .junk .junk .junk .junk .junk .junk, .mk .junk .junk .junk .junk .junk .junk .junk .junk, .mk .junk .junk .junk .junk .junk .junk .junk .junk, .mk .junk .junk .junk .junk .junk .junk .junk .junk, .mk .junk .junk .junk .junk .junk .junk .junk .junk] [.junk, .junk, .junk, .junk, .junk, .junk, .junk]) rfl rfl fun r hP hW hpan hret => ?_
  simp only [c_ref01_size, ev,evA,true_and,and_true,and_self,if_true,if_false,reduceIte,ne_eq,forall_const,false_implies,beq_self_eq_true,decide_true,decide_false,Int.cast_ofNat_Int,Nat.reduceAdd,Nat.reduceLT,Nat.reduceLeDiff,Nat.reduceEqDiff,Nat.reduceBEq,Nat.reduceMul,Nat.reduceSub,Int.reduceToNat,Int.reduceEq,Int.reduceNe,Int.reduceLT,Int.reduceLE,Int.reduceBEq,Int.reduceAdd,Int.reduceSub,Int.reduceMul,hP,hW]
  try simp only [c0, w0, ev,evA,true_and,and_true,and_self,if_true,if_false,reduceIte,ne_eq,forall_const,false_implies,beq_self_eq_true,decide_true,decide_false,Int.cast_ofNat_Int,Nat.reduceAdd,Nat.reduceLT,Nat.reduceLeDiff,Nat.reduceEqDiff,Nat.reduceBEq,Nat.reduceMul,Nat.reduceSub,Int.reduceToNat,Int.reduceEq,Int.reduceNe,Int.reduceLT,Int.reduceLE,Int.reduceBEq,Int.reduceAdd,Int.reduceSub,Int.reduceMul,hP,hW]
  refine ⟨by omega, ?_⟩
  have w1 : IntKind.i32.wrap (B s 0 : Int) = (B s 0 : Int) := by rw [IntKind.wrap_i32]; omega
  by_cases h1 : B s 0 < 128
  · try simp only [decide_eq_true (show (B s 0 : Int) < 128 by omega), w1, ev,evA,true_and,and_true,and_self,if_true,if_false,reduceIte,ne_eq,forall_const,false_implies,beq_self_eq_true,decide_true,decide_false,Int.cast_ofNat_Int,Nat.reduceAdd,Nat.reduceLT,Nat.reduceLeDiff,Nat.reduceEqDiff,Nat.reduceBEq,Nat.reduceMul,Nat.reduceSub,Int.reduceToNat,Int.reduceEq,Int.reduceNe,Int.reduceLT,Int.reduceLE,Int.reduceBEq,Int.reduceAdd,Int.reduceSub,Int.reduceMul,hP,hW]
    refine hret _ _ S.length 5 ?_
    simp only [r_ref01_size, ev,evA,true_and,and_true,and_self,if_true,if_false,reduceIte,ne_eq,forall_const,false_implies,beq_self_eq_true,decide_true,decide_false,Int.cast_ofNat_Int,Nat.reduceAdd,Nat.reduceLT,Nat.reduceLeDiff,Nat.reduceEqDiff,Nat.reduceBEq,Nat.reduceMul,Nat.reduceSub,Int.reduceToNat,Int.reduceEq,Int.reduceNe,Int.reduceLT,Int.reduceLE,Int.reduceBEq,Int.reduceAdd,Int.reduceSub,Int.reduceMul,hP,hW]
    exact ⟨_, rfl, by rw [dec1 h1]; rfl⟩
  have d1 : decide ((B s 0 : Int) < 128) = false := decide_eq_false (by omega)
  by_cases h2 : 192 ≤ B s 0 ∧ B s 0 < 224
  · have a1 : decide ((192 : Int) ≤ (B s 0 : Int)) = true := decide_eq_true (by omega)
    have a2 : decide ((B s 0 : Int) < 224) = true := decide_eq_true (by omega)
    have a3 : decide ((224 : Int) ≤ (B s 0 : Int)) = false := decide_eq_false (by omega)
    have a4 : decide ((B s 0 : Int) < 240) = true := decide_eq_true (by omega)
    have a5 : decide ((240 : Int) ≤ (B s 0 : Int)) = false := decide_eq_false (by omega)
    have a6 : decide ((B s 0 : Int) < 248) = true := decide_eq_true (by omega)
    have wv : IntKind.i64.wrap ((B s 0 : Int) - 192) = ((B s 0 - 192 : Nat) : Int) := by rw [wrap_id (by omega) (by omega)]; omega
    have hd := dec2 h2.1 h2.2
    try simp only [d1, a1, a2, a3, a4, a5, a6, wv, ev,evA,true_and,and_true,and_self,if_true,if_false,reduceIte,ne_eq,forall_const,false_implies,beq_self_eq_true,decide_true,decide_false,Int.cast_ofNat_Int,Nat.reduceAdd,Nat.reduceLT,Nat.reduceLeDiff,Nat.reduceEqDiff,Nat.reduceBEq,Nat.reduceMul,Nat.reduceSub,Int.reduceToNat,Int.reduceEq,Int.reduceNe,Int.reduceLT,Int.reduceLE,Int.reduceBEq,Int.reduceAdd,Int.reduceSub,Int.reduceMul,hP,hW]
    refine Gc_dec (fun hc => ?_) (fun hc => ?_)
    · try simp only [ev,evA,true_and,and_true,and_self,if_true,if_false,reduceIte,ne_eq,forall_const,false_implies,beq_self_eq_true,decide_true,decide_false,Int.cast_ofNat_Int,Nat.reduceAdd,Nat.reduceLT,Nat.reduceLeDiff,Nat.reduceEqDiff,Nat.reduceBEq,Nat.reduceMul,Nat.reduceSub,Int.reduceToNat,Int.reduceEq,Int.reduceNe,Int.reduceLT,Int.reduceLE,Int.reduceBEq,Int.reduceAdd,Int.reduceSub,Int.reduceMul,hP,hW]
      refine hret _ _ S.length 5 ?_
      simp only [r_ref01_size, ev,evA,true_and,and_true,and_self,if_true,if_false,reduceIte,ne_eq,forall_const,false_implies,beq_self_eq_true,decide_true,decide_false,Int.cast_ofNat_Int,Nat.reduceAdd,Nat.reduceLT,Nat.reduceLeDiff,Nat.reduceEqDiff,Nat.reduceBEq,Nat.reduceMul,Nat.reduceSub,Int.reduceToNat,Int.reduceEq,Int.reduceNe,Int.reduceLT,Int.reduceLE,Int.reduceBEq,Int.reduceAdd,Int.reduceSub,Int.reduceMul,hP,hW]
      exact ⟨_, rfl, by rw [hd.2 (fun hh => by have := hh.1; omega)]; rfl⟩
    · try simp only [ev,evA,true_and,and_true,and_self,if_true,if_false,reduceIte,ne_eq,forall_const,false_implies,beq_self_eq_true,decide_true,decide_false,Int.cast_ofNat_Int,Nat.reduceAdd,Nat.reduceLT,Nat.reduceLeDiff,Nat.reduceEqDiff,Nat.reduceBEq,Nat.reduceMul,Nat.reduceSub,Int.reduceToNat,Int.reduceEq,Int.reduceNe,Int.reduceLT,Int.reduceLE,Int.reduceBEq,Int.reduceAdd,Int.reduceSub,Int.reduceMul,hP,hW]
      refine SX_lp (α := Nat) (fun k => k + 1 ≤ 2 ∧ ∀ j, 1 ≤ j → j < k + 1 → 128 ≤ B s j ∧ B s j < 192) (fun k => (.mk [.mk (.raw (.string s)) .junk .junk .junk .junk (.raw (.int .i64 2)) (.raw (.int .i64 128)) (.raw (.int .i64 ((val s (B s 0 - 192) k : Nat) : Int))), .mk (.raw (.int .i64 (k + 1 : Nat))) .junk .junk .junk .junk .junk .junk .junk, .mk .junk .junk .junk .junk .junk .junk .junk .junk, .mk .junk .junk .junk .junk .junk .junk .junk .junk, .mk .junk .junk .junk .junk .junk .junk .junk .junk, .mk .junk .junk .junk .junk .junk .junk .junk .junk, .mk .junk .junk .junk .junk .junk .junk .junk .junk, .mk .junk .junk .junk .junk .junk .junk .junk .junk, .mk .junk .junk .junk .junk .junk .junk .junk .junk, .mk .junk .junk .junk .junk .junk .junk .junk .junk] [.junk, .junk, .junk, .junk, .junk, .junk, .junk])) (fun k => S) (fun k => 2 - k) 200 ?_ ?_
      · refine Cv.ex S.length _ _ ?_ (take_all (Nat.le_refl _)) (Cv.done ⟨0, ⟨by omega, fun j _ _ => by omega⟩, rfl, rfl⟩)
        simp [rlE, rlRs, rlR, rlL, DV.le, val]
      · rintro k ⟨hk, hcont⟩
        have hvk := val_le (s := s) (v := B s 0 - 192) (k := k) (by omega) (by omega)
        by_cases hlt : k + 1 < 2
        · have bk := B_lt s (k + 1)
          have hsz : k + 1 < s.size := by omega
          have e1 : decide (((k + 1 : Nat) : Int) < 2) = true := decide_eq_true (by omega)
          have e2 : (0 ≤ ((k + 1 : Nat) : Int) ∧ ((k + 1 : Nat) : Int) < (s.size : Int)) = True := by simp; omega
          have e3 : IntKind.i64.wrap (bytD s (k + 1)) = (B s (k + 1) : Int) := by rw [bytD_B hsz, wrap_id (by omega) (by omega)]
          try simp only [e1, e2, e3, ev,evA,true_and,and_true,and_self,if_true,if_false,reduceIte,ne_eq,forall_const,false_implies,beq_self_eq_true,decide_true,decide_false,Int.cast_ofNat_Int,Nat.reduceAdd,Nat.reduceLT,Nat.reduceLeDiff,Nat.reduceEqDiff,Nat.reduceBEq,Nat.reduceMul,Nat.reduceSub,Int.reduceToNat,Int.reduceEq,Int.reduceNe,Int.reduceLT,Int.reduceLE,Int.reduceBEq,Int.reduceAdd,Int.reduceSub,Int.reduceMul,hP,hW]
          by_cases q1 : B s (k + 1) < 128
          · try simp only [decide_eq_true (show (B s (k + 1) : Int) < 128 by omega), ev,evA,true_and,and_true,and_self,if_true,if_false,reduceIte,ne_eq,forall_const,false_implies,beq_self_eq_true,decide_true,decide_false,Int.cast_ofNat_Int,Nat.reduceAdd,Nat.reduceLT,Nat.reduceLeDiff,Nat.reduceEqDiff,Nat.reduceBEq,Nat.reduceMul,Nat.reduceSub,Int.reduceToNat,Int.reduceEq,Int.reduceNe,Int.reduceLT,Int.reduceLE,Int.reduceBEq,Int.reduceAdd,Int.reduceSub,Int.reduceMul,hP,hW]
            refine hret _ _ S.length 5 ?_
            simp only [r_ref01_size, ev,evA,true_and,and_true,and_self,if_true,if_false,reduceIte,ne_eq,forall_const,false_implies,beq_self_eq_true,decide_true,decide_false,Int.cast_ofNat_Int,Nat.reduceAdd,Nat.reduceLT,Nat.reduceLeDiff,Nat.reduceEqDiff,Nat.reduceBEq,Nat.reduceMul,Nat.reduceSub,Int.reduceToNat,Int.reduceEq,Int.reduceNe,Int.reduceLT,Int.reduceLE,Int.reduceBEq,Int.reduceAdd,Int.reduceSub,Int.reduceMul,hP,hW]
            exact ⟨_, rfl, by rw [hd.2 (fun hh => by have := hh.2.1 (k + 1) (by omega) (by omega); omega)]; rfl⟩
          have f1 : decide ((B s (k + 1) : Int) < 128) = false := decide_eq_false (by omega)
          by_cases q2 : 192 ≤ B s (k + 1)
          · try simp only [f1, decide_eq_true (show (192 : Int) ≤ (B s (k + 1) : Int) by omega), ev,evA,true_and,and_true,and_self,if_true,if_false,reduceIte,ne_eq,forall_const,false_implies,beq_self_eq_true,decide_true,decide_false,Int.cast_ofNat_Int,Nat.reduceAdd,Nat.reduceLT,Nat.reduceLeDiff,Nat.reduceEqDiff,Nat.reduceBEq,Nat.reduceMul,Nat.reduceSub,Int.reduceToNat,Int.reduceEq,Int.reduceNe,Int.reduceLT,Int.reduceLE,Int.reduceBEq,Int.reduceAdd,Int.reduceSub,Int.reduceMul,hP,hW]
            refine hret _ _ S.length 5 ?_
            simp only [r_ref01_size, ev,evA,true_and,and_true,and_self,if_true,if_false,reduceIte,ne_eq,forall_const,false_implies,beq_self_eq_true,decide_true,decide_false,Int.cast_ofNat_Int,Nat.reduceAdd,Nat.reduceLT,Nat.reduceLeDiff,Nat.reduceEqDiff,Nat.reduceBEq,Nat.reduceMul,Nat.reduceSub,Int.reduceToNat,Int.reduceEq,Int.reduceNe,Int.reduceLT,Int.reduceLE,Int.reduceBEq,Int.reduceAdd,Int.reduceSub,Int.reduceMul,hP,hW]
            exact ⟨_, rfl, by rw [hd.2 (fun hh => by have := hh.2.1 (k + 1) (by omega) (by omega); omega)]; rfl⟩
          have u1 : IntKind.i64.wrap ((val s (B s 0 - 192) k : Int) * 64) = (val s (B s 0 - 192) k : Int) * 64 := wrap_id (by omega) (by omega)
          have u2 : IntKind.i64.wrap ((val s (B s 0 - 192) k : Int) * 64 + (B s (k + 1) : Int)) = (val s (B s 0 - 192) k : Int) * 64 + (B s (k + 1) : Int) := wrap_id (by omega) (by omega)
          have u3 : IntKind.i64.wrap ((val s (B s 0 - 192) k : Int) * 64 + (B s (k + 1) : Int) - 128) = (val s (B s 0 - 192) (k + 1) : Int) := by rw [wrap_id (by omega) (by omega)]; simp only [val]; omega
          have u4 : IntKind.i64.wrap (((k + 1 : Nat) : Int) + 1) = ((k + 1 + 1 : Nat) : Int) := by rw [wrap_id (by omega) (by omega)]; omega
          try simp only [f1, decide_eq_false (show ¬ (192 : Int) ≤ (B s (k + 1) : Int) by omega), u1, u2, u3, u4, ev,evA,true_and,and_true,and_self,if_true,if_false,reduceIte,ne_eq,forall_const,false_implies,beq_self_eq_true,decide_true,decide_false,Int.cast_ofNat_Int,Nat.reduceAdd,Nat.reduceLT,Nat.reduceLeDiff,Nat.reduceEqDiff,Nat.reduceBEq,Nat.reduceMul,Nat.reduceSub,Int.reduceToNat,Int.reduceEq,Int.reduceNe,Int.reduceLT,Int.reduceLE,Int.reduceBEq,Int.reduceAdd,Int.reduceSub,Int.reduceMul,hP,hW]
          refine Cv.ex S.length _ _ ?_ (take_all (Nat.le_refl _)) (Cv.done ⟨k + 1, ⟨by omega, fun j j1 j2 => ?_⟩, by omega, rfl, rfl⟩)
          · simp [rlE, rlRs, rlR, rlL, DV.le] <;> omega
          · rcases Nat.lt_or_ge j (k + 1) with h | h
            · exact hcont j j1 h
            · obtain rfl : j = k + 1 := by omega
              omega
        · have e1 : decide (((k + 1 : Nat) : Int) < 2) = false := decide_eq_false (by omega)
          obtain rfl : k = 2 - 1 := by omega
          simp only [Nat.add_one_sub_one, show 2 - 1 + 1 = 2 from rfl] at *
          generalize hv : val s (B s 0 - 192) (2 - 1) = v at *
          try simp only [e1, ev,evA,true_and,and_true,and_self,if_true,if_false,reduceIte,ne_eq,forall_const,false_implies,beq_self_eq_true,decide_true,decide_false,Int.cast_ofNat_Int,Nat.reduceAdd,Nat.reduceLT,Nat.reduceLeDiff,Nat.reduceEqDiff,Nat.reduceBEq,Nat.reduceMul,Nat.reduceSub,Int.reduceToNat,Int.reduceEq,Int.reduceNe,Int.reduceLT,Int.reduceLE,Int.reduceBEq,Int.reduceAdd,Int.reduceSub,Int.reduceMul,hP,hW]
          have em1 := Classical.em ((v : Int) < 128)
          have em2 := Classical.em ((1114111 : Int) < (v : Int))
          have em3 := Classical.em ((55296 : Int) ≤ (v : Int))
          have em4 := Classical.em ((v : Int) < 57344)
          cases em1 with
          | inl g1 =>
            try simp only [decide_eq_true g1, ev,evA,true_and,and_true,and_self,if_true,if_false,reduceIte,ne_eq,forall_const,false_implies,beq_self_eq_true,decide_true,decide_false,Int.cast_ofNat_Int,Nat.reduceAdd,Nat.reduceLT,Nat.reduceLeDiff,Nat.reduceEqDiff,Nat.reduceBEq,Nat.reduceMul,Nat.reduceSub,Int.reduceToNat,Int.reduceEq,Int.reduceNe,Int.reduceLT,Int.reduceLE,Int.reduceBEq,Int.reduceAdd,Int.reduceSub,Int.reduceMul,hP,hW]
            refine hret _ _ S.length 5 ?_
            simp only [r_ref01_size, ev,evA,true_and,and_true,and_self,if_true,if_false,reduceIte,ne_eq,forall_const,false_implies,beq_self_eq_true,decide_true,decide_false,Int.cast_ofNat_Int,Nat.reduceAdd,Nat.reduceLT,Nat.reduceLeDiff,Nat.reduceEqDiff,Nat.reduceBEq,Nat.reduceMul,Nat.reduceSub,Int.reduceToNat,Int.reduceEq,Int.reduceNe,Int.reduceLT,Int.reduceLE,Int.reduceBEq,Int.reduceAdd,Int.reduceSub,Int.reduceMul,hP,hW]
            exact size_bad (hd.2 (not_whole hv (by omega)))
          | inr g1 =>
            have f1 := decide_eq_false g1
            cases em2 with
            | inl g2 =>
              try simp only [f1, decide_eq_true g2, ev,evA,true_and,and_true,and_self,if_true,if_false,reduceIte,ne_eq,forall_const,false_implies,beq_self_eq_true,decide_true,decide_false,Int.cast_ofNat_Int,Nat.reduceAdd,Nat.reduceLT,Nat.reduceLeDiff,Nat.reduceEqDiff,Nat.reduceBEq,Nat.reduceMul,Nat.reduceSub,Int.reduceToNat,Int.reduceEq,Int.reduceNe,Int.reduceLT,Int.reduceLE,Int.reduceBEq,Int.reduceAdd,Int.reduceSub,Int.reduceMul,hP,hW]
              refine hret _ _ S.length 5 ?_
              simp only [r_ref01_size, ev,evA,true_and,and_true,and_self,if_true,if_false,reduceIte,ne_eq,forall_const,false_implies,beq_self_eq_true,decide_true,decide_false,Int.cast_ofNat_Int,Nat.reduceAdd,Nat.reduceLT,Nat.reduceLeDiff,Nat.reduceEqDiff,Nat.reduceBEq,Nat.reduceMul,Nat.reduceSub,Int.reduceToNat,Int.reduceEq,Int.reduceNe,Int.reduceLT,Int.reduceLE,Int.reduceBEq,Int.reduceAdd,Int.reduceSub,Int.reduceMul,hP,hW]
              exact size_bad (hd.2 (not_whole hv (by omega)))
            | inr g2 =>
              have f2 := decide_eq_false g2
              have wr : IntKind.i32.wrap (v : Int) = (v : Int) := by rw [IntKind.wrap_i32]; omega
              cases em3 with
              | inl g3 =>
                cases em4 with
                | inl g4 =>
                  try simp only [f1, f2, decide_eq_true g3, decide_eq_true g4, ev,evA,true_and,and_true,and_self,if_true,if_false,reduceIte,ne_eq,forall_const,false_implies,beq_self_eq_true,decide_true,decide_false,Int.cast_ofNat_Int,Nat.reduceAdd,Nat.reduceLT,Nat.reduceLeDiff,Nat.reduceEqDiff,Nat.reduceBEq,Nat.reduceMul,Nat.reduceSub,Int.reduceToNat,Int.reduceEq,Int.reduceNe,Int.reduceLT,Int.reduceLE,Int.reduceBEq,Int.reduceAdd,Int.reduceSub,Int.reduceMul,hP,hW]
                  refine hret _ _ S.length 5 ?_
                  simp only [r_ref01_size, ev,evA,true_and,and_true,and_self,if_true,if_false,reduceIte,ne_eq,forall_const,false_implies,beq_self_eq_true,decide_true,decide_false,Int.cast_ofNat_Int,Nat.reduceAdd,Nat.reduceLT,Nat.reduceLeDiff,Nat.reduceEqDiff,Nat.reduceBEq,Nat.reduceMul,Nat.reduceSub,Int.reduceToNat,Int.reduceEq,Int.reduceNe,Int.reduceLT,Int.reduceLE,Int.reduceBEq,Int.reduceAdd,Int.reduceSub,Int.reduceMul,hP,hW]
                  exact size_bad (hd.2 (not_whole hv (by omega)))
                | inr g4 =>
                  try simp only [f1, f2, decide_eq_true g3, decide_eq_false g4, wr, ev,evA,true_and,and_true,and_self,if_true,if_false,reduceIte,ne_eq,forall_const,false_implies,beq_self_eq_true,decide_true,decide_false,Int.cast_ofNat_Int,Nat.reduceAdd,Nat.reduceLT,Nat.reduceLeDiff,Nat.reduceEqDiff,Nat.reduceBEq,Nat.reduceMul,Nat.reduceSub,Int.reduceToNat,Int.reduceEq,Int.reduceNe,Int.reduceLT,Int.reduceLE,Int.reduceBEq,Int.reduceAdd,Int.reduceSub,Int.reduceMul,hP,hW]
                  refine hret _ _ S.length 5 ?_
                  simp only [r_ref01_size, ev,evA,true_and,and_true,and_self,if_true,if_false,reduceIte,ne_eq,forall_const,false_implies,beq_self_eq_true,decide_true,decide_false,Int.cast_ofNat_Int,Nat.reduceAdd,Nat.reduceLT,Nat.reduceLeDiff,Nat.reduceEqDiff,Nat.reduceBEq,Nat.reduceMul,Nat.reduceSub,Int.reduceToNat,Int.reduceEq,Int.reduceNe,Int.reduceLT,Int.reduceLE,Int.reduceBEq,Int.reduceAdd,Int.reduceSub,Int.reduceMul,hP,hW]
                  exact size_good (hd.1 (is_whole hv (by omega) hcont (by omega) (by omega) (by omega)))
              | inr g3 =>
                try simp only [f1, f2, decide_eq_false g3, wr, ev,evA,true_and,and_true,and_self,if_true,if_false,reduceIte,ne_eq,forall_const,false_implies,beq_self_eq_true,decide_true,decide_false,Int.cast_ofNat_Int,Nat.reduceAdd,Nat.reduceLT,Nat.reduceLeDiff,Nat.reduceEqDiff,Nat.reduceBEq,Nat.reduceMul,Nat.reduceSub,Int.reduceToNat,Int.reduceEq,Int.reduceNe,Int.reduceLT,Int.reduceLE,Int.reduceBEq,Int.reduceAdd,Int.reduceSub,Int.reduceMul,hP,hW]
                refine hret _ _ S.length 5 ?_
                simp only [r_ref01_size, ev,evA,true_and,and_true,and_self,if_true,if_false,reduceIte,ne_eq,forall_const,false_implies,beq_self_eq_true,decide_true,decide_false,Int.cast_ofNat_Int,Nat.reduceAdd,Nat.reduceLT,Nat.reduceLeDiff,Nat.reduceEqDiff,Nat.reduceBEq,Nat.reduceMul,Nat.reduceSub,Int.reduceToNat,Int.reduceEq,Int.reduceNe,Int.reduceLT,Int.reduceLE,Int.reduceBEq,Int.reduceAdd,Int.reduceSub,Int.reduceMul,hP,hW]
                exact size_good (hd.1 (is_whole hv (by omega) hcont (by omega) (by omega) (by omega)))
  by_cases h3 : 224 ≤ B s 0 ∧ B s 0 < 240
  · have a1 : decide ((192 : Int) ≤ (B s 0 : Int)) = true := decide_eq_true (by omega)
    have a2 : decide ((B s 0 : Int) < 224) = false := decide_eq_false (by omega)
    have a3 : decide ((224 : Int) ≤ (B s 0 : Int)) = true := decide_eq_true (by omega)
    have a4 : decide ((B s 0 : Int) < 240) = true := decide_eq_true (by omega)
    have a5 : decide ((240 : Int) ≤ (B s 0 : Int)) = false := decide_eq_false (by omega)
    have a6 : decide ((B s 0 : Int) < 248) = true := decide_eq_true (by omega)
    have wv : IntKind.i64.wrap ((B s 0 : Int) - 224) = ((B s 0 - 224 : Nat) : Int) := by rw [wrap_id (by omega) (by omega)]; omega
    have hd := dec3 h3.1 h3.2
    try simp only [d1, a1, a2, a3, a4, a5, a6, wv, ev,evA,true_and,and_true,and_self,if_true,if_false,reduceIte,ne_eq,forall_const,false_implies,beq_self_eq_true,decide_true,decide_false,Int.cast_ofNat_Int,Nat.reduceAdd,Nat.reduceLT,Nat.reduceLeDiff,Nat.reduceEqDiff,Nat.reduceBEq,Nat.reduceMul,Nat.reduceSub,Int.reduceToNat,Int.reduceEq,Int.reduceNe,Int.reduceLT,Int.reduceLE,Int.reduceBEq,Int.reduceAdd,Int.reduceSub,Int.reduceMul,hP,hW]
    refine Gc_dec (fun hc => ?_) (fun hc => ?_)
    · try simp only [ev,evA,true_and,and_true,and_self,if_true,if_false,reduceIte,ne_eq,forall_const,false_implies,beq_self_eq_true,decide_true,decide_false,Int.cast_ofNat_Int,Nat.reduceAdd,Nat.reduceLT,Nat.reduceLeDiff,Nat.reduceEqDiff,Nat.reduceBEq,Nat.reduceMul,Nat.reduceSub,Int.reduceToNat,Int.reduceEq,Int.reduceNe,Int.reduceLT,Int.reduceLE,Int.reduceBEq,Int.reduceAdd,Int.reduceSub,Int.reduceMul,hP,hW]
      refine hret _ _ S.length 5 ?_
      simp only [r_ref01_size, ev,evA,true_and,and_true,and_self,if_true,if_false,reduceIte,ne_eq,forall_const,false_implies,beq_self_eq_true,decide_true,decide_false,Int.cast_ofNat_Int,Nat.reduceAdd,Nat.reduceLT,Nat.reduceLeDiff,Nat.reduceEqDiff,Nat.reduceBEq,Nat.reduceMul,Nat.reduceSub,Int.reduceToNat,Int.reduceEq,Int.reduceNe,Int.reduceLT,Int.reduceLE,Int.reduceBEq,Int.reduceAdd,Int.reduceSub,Int.reduceMul,hP,hW]
      exact ⟨_, rfl, by rw [hd.2 (fun hh => by have := hh.1; omega)]; rfl⟩
    · try simp only [ev,evA,true_and,and_true,and_self,if_true,if_false,reduceIte,ne_eq,forall_const,false_implies,beq_self_eq_true,decide_true,decide_false,Int.cast_ofNat_Int,Nat.reduceAdd,Nat.reduceLT,Nat.reduceLeDiff,Nat.reduceEqDiff,Nat.reduceBEq,Nat.reduceMul,Nat.reduceSub,Int.reduceToNat,Int.reduceEq,Int.reduceNe,Int.reduceLT,Int.reduceLE,Int.reduceBEq,Int.reduceAdd,Int.reduceSub,Int.reduceMul,hP,hW]
      refine SX_lp (α := Nat) (fun k => k + 1 ≤ 3 ∧ ∀ j, 1 ≤ j → j < k + 1 → 128 ≤ B s j ∧ B s j < 192) (fun k => (.mk [.mk (.raw (.string s)) .junk .junk .junk .junk (.raw (.int .i64 3)) (.raw (.int .i64 2048)) (.raw (.int .i64 ((val s (B s 0 - 224) k : Nat) : Int))), .mk (.raw (.int .i64 (k + 1 : Nat))) .junk .junk .junk .junk .junk .junk .junk, .mk .junk .junk .junk .junk .junk .junk .junk .junk, .mk .junk .junk .junk .junk .junk .junk .junk .junk, .mk .junk .junk .junk .junk .junk .junk .junk .junk, .mk .junk .junk .junk .junk .junk .junk .junk .junk, .mk .junk .junk .junk .junk .junk .junk .junk .junk, .mk .junk .junk .junk .junk .junk .junk .junk .junk, .mk .junk .junk .junk .junk .junk .junk .junk .junk, .mk .junk .junk .junk .junk .junk .junk .junk .junk] [.junk, .junk, .junk, .junk, .junk, .junk, .junk])) (fun k => S) (fun k => 3 - k) 200 ?_ ?_
      · refine Cv.ex S.length _ _ ?_ (take_all (Nat.le_refl _)) (Cv.done ⟨0, ⟨by omega, fun j _ _ => by omega⟩, rfl, rfl⟩)
        simp [rlE, rlRs, rlR, rlL, DV.le, val]
      · rintro k ⟨hk, hcont⟩
        have hvk := val_le (s := s) (v := B s 0 - 224) (k := k) (by omega) (by omega)
        by_cases hlt : k + 1 < 3
        · have bk := B_lt s (k + 1)
          have hsz : k + 1 < s.size := by omega
          have e1 : decide (((k + 1 : Nat) : Int) < 3) = true := decide_eq_true (by omega)
          have e2 : (0 ≤ ((k + 1 : Nat) : Int) ∧ ((k + 1 : Nat) : Int) < (s.size : Int)) = True := by simp; omega
          have e3 : IntKind.i64.wrap (bytD s (k + 1)) = (B s (k + 1) : Int) := by rw [bytD_B hsz, wrap_id (by omega) (by omega)]
          try simp only [e1, e2, e3, ev,evA,true_and,and_true,and_self,if_true,if_false,reduceIte,ne_eq,forall_const,false_implies,beq_self_eq_true,decide_true,decide_false,Int.cast_ofNat_Int,Nat.reduceAdd,Nat.reduceLT,Nat.reduceLeDiff,Nat.reduceEqDiff,Nat.reduceBEq,Nat.reduceMul,Nat.reduceSub,Int.reduceToNat,Int.reduceEq,Int.reduceNe,Int.reduceLT,Int.reduceLE,Int.reduceBEq,Int.reduceAdd,Int.reduceSub,Int.reduceMul,hP,hW]
          by_cases q1 : B s (k + 1) < 128
          · try simp only [decide_eq_true (show (B s (k + 1) : Int) < 128 by omega), ev,evA,true_and,and_true,and_self,if_true,if_false,reduceIte,ne_eq,forall_const,false_implies,beq_self_eq_true,decide_true,decide_false,Int.cast_ofNat_Int,Nat.reduceAdd,Nat.reduceLT,Nat.reduceLeDiff,Nat.reduceEqDiff,Nat.reduceBEq,Nat.reduceMul,Nat.reduceSub,Int.reduceToNat,Int.reduceEq,Int.reduceNe,Int.reduceLT,Int.reduceLE,Int.reduceBEq,Int.reduceAdd,Int.reduceSub,Int.reduceMul,hP,hW]
            refine hret _ _ S.length 5 ?_
            simp only [r_ref01_size, ev,evA,true_and,and_true,and_self,if_true,if_false,reduceIte,ne_eq,forall_const,false_implies,beq_self_eq_true,decide_true,decide_false,Int.cast_ofNat_Int,Nat.reduceAdd,Nat.reduceLT,Nat.reduceLeDiff,Nat.reduceEqDiff,Nat.reduceBEq,Nat.reduceMul,Nat.reduceSub,Int.reduceToNat,Int.reduceEq,Int.reduceNe,Int.reduceLT,Int.reduceLE,Int.reduceBEq,Int.reduceAdd,Int.reduceSub,Int.reduceMul,hP,hW]
            exact ⟨_, rfl, by rw [hd.2 (fun hh => by have := hh.2.1 (k + 1) (by omega) (by omega); omega)]; rfl⟩
          have f1 : decide ((B s (k + 1) : Int) < 128) = false := decide_eq_false (by omega)
          by_cases q2 : 192 ≤ B s (k + 1)
          · try simp only [f1, decide_eq_true (show (192 : Int) ≤ (B s (k + 1) : Int) by omega), ev,evA,true_and,and_true,and_self,if_true,if_false,reduceIte,ne_eq,forall_const,false_implies,beq_self_eq_true,decide_true,decide_false,Int.cast_ofNat_Int,Nat.reduceAdd,Nat.reduceLT,Nat.reduceLeDiff,Nat.reduceEqDiff,Nat.reduceBEq,Nat.reduceMul,Nat.reduceSub,Int.reduceToNat,Int.reduceEq,Int.reduceNe,Int.reduceLT,Int.reduceLE,Int.reduceBEq,Int.reduceAdd,Int.reduceSub,Int.reduceMul,hP,hW]
            refine hret _ _ S.length 5 ?_
            simp only [r_ref01_size, ev,evA,true_and,and_true,and_self,if_true,if_false,reduceIte,ne_eq,forall_const,false_implies,beq_self_eq_true,decide_true,decide_false,Int.cast_ofNat_Int,Nat.reduceAdd,Nat.reduceLT,Nat.reduceLeDiff,Nat.reduceEqDiff,Nat.reduceBEq,Nat.reduceMul,Nat.reduceSub,Int.reduceToNat,Int.reduceEq,Int.reduceNe,Int.reduceLT,Int.reduceLE,Int.reduceBEq,Int.reduceAdd,Int.reduceSub,Int.reduceMul,hP,hW]
            exact ⟨_, rfl, by rw [hd.2 (fun hh => by have := hh.2.1 (k + 1) (by omega) (by omega); omega)]; rfl⟩
          have u1 : IntKind.i64.wrap ((val s (B s 0 - 224) k : Int) * 64) = (val s (B s 0 - 224) k : Int) * 64 := wrap_id (by omega) (by omega)
          have u2 : IntKind.i64.wrap ((val s (B s 0 - 224) k : Int) * 64 + (B s (k + 1) : Int)) = (val s (B s 0 - 224) k : Int) * 64 + (B s (k + 1) : Int) := wrap_id (by omega) (by omega)
          have u3 : IntKind.i64.wrap ((val s (B s 0 - 224) k : Int) * 64 + (B s (k + 1) : Int) - 128) = (val s (B s 0 - 224) (k + 1) : Int) := by rw [wrap_id (by omega) (by omega)]; simp only [val]; omega
          have u4 : IntKind.i64.wrap (((k + 1 : Nat) : Int) + 1) = ((k + 1 + 1 : Nat) : Int) := by rw [wrap_id (by omega) (by omega)]; omega
          try simp only [f1, decide_eq_false (show ¬ (192 : Int) ≤ (B s (k + 1) : Int) by omega), u1, u2, u3, u4, ev,evA,true_and,and_true,and_self,if_true,if_false,reduceIte,ne_eq,forall_const,false_implies,beq_self_eq_true,decide_true,decide_false,Int.cast_ofNat_Int,Nat.reduceAdd,Nat.reduceLT,Nat.reduceLeDiff,Nat.reduceEqDiff,Nat.reduceBEq,Nat.reduceMul,Nat.reduceSub,Int.reduceToNat,Int.reduceEq,Int.reduceNe,Int.reduceLT,Int.reduceLE,Int.reduceBEq,Int.reduceAdd,Int.reduceSub,Int.reduceMul,hP,hW]
          refine Cv.ex S.length _ _ ?_ (take_all (Nat.le_refl _)) (Cv.done ⟨k + 1, ⟨by omega, fun j j1 j2 => ?_⟩, by omega, rfl, rfl⟩)
          · simp [rlE, rlRs, rlR, rlL, DV.le] <;> omega
          · rcases Nat.lt_or_ge j (k + 1) with h | h
            · exact hcont j j1 h
            · obtain rfl : j = k + 1 := by omega
              omega
        · have e1 : decide (((k + 1 : Nat) : Int) < 3) = false := decide_eq_false (by omega)
          obtain rfl : k = 3 - 1 := by omega
          simp only [Nat.add_one_sub_one, show 3 - 1 + 1 = 3 from rfl] at *
          generalize hv : val s (B s 0 - 224) (3 - 1) = v at *
          try simp only [e1, ev,evA,true_and,and_true,and_self,if_true,if_false,reduceIte,ne_eq,forall_const,false_implies,beq_self_eq_true,decide_true,decide_false,Int.cast_ofNat_Int,Nat.reduceAdd,Nat.reduceLT,Nat.reduceLeDiff,Nat.reduceEqDiff,Nat.reduceBEq,Nat.reduceMul,Nat.reduceSub,Int.reduceToNat,Int.reduceEq,Int.reduceNe,Int.reduceLT,Int.reduceLE,Int.reduceBEq,Int.reduceAdd,Int.reduceSub,Int.reduceMul,hP,hW]
          have em1 := Classical.em ((v : Int) < 2048)
          have em2 := Classical.em ((1114111 : Int) < (v : Int))
          have em3 := Classical.em ((55296 : Int) ≤ (v : Int))
          have em4 := Classical.em ((v : Int) < 57344)
          cases em1 with
          | inl g1 =>
            try simp only [decide_eq_true g1, ev,evA,true_and,and_true,and_self,if_true,if_false,reduceIte,ne_eq,forall_const,false_implies,beq_self_eq_true,decide_true,decide_false,Int.cast_ofNat_Int,Nat.reduceAdd,Nat.reduceLT,Nat.reduceLeDiff,Nat.reduceEqDiff,Nat.reduceBEq,Nat.reduceMul,Nat.reduceSub,Int.reduceToNat,Int.reduceEq,Int.reduceNe,Int.reduceLT,Int.reduceLE,Int.reduceBEq,Int.reduceAdd,Int.reduceSub,Int.reduceMul,hP,hW]
            refine hret _ _ S.length 5 ?_
            simp only [r_ref01_size, ev,evA,true_and,and_true,and_self,if_true,if_false,reduceIte,ne_eq,forall_const,false_implies,beq_self_eq_true,decide_true,decide_false,Int.cast_ofNat_Int,Nat.reduceAdd,Nat.reduceLT,Nat.reduceLeDiff,Nat.reduceEqDiff,Nat.reduceBEq,Nat.reduceMul,Nat.reduceSub,Int.reduceToNat,Int.reduceEq,Int.reduceNe,Int.reduceLT,Int.reduceLE,Int.reduceBEq,Int.reduceAdd,Int.reduceSub,Int.reduceMul,hP,hW]
            exact size_bad (hd.2 (not_whole hv (by omega)))
          | inr g1 =>
            have f1 := decide_eq_false g1
            cases em2 with
            | inl g2 =>
              try simp only [f1, decide_eq_true g2, ev,evA,true_and,and_true,and_self,if_true,if_false,reduceIte,ne_eq,forall_const,false_implies,beq_self_eq_true,decide_true,decide_false,Int.cast_ofNat_Int,Nat.reduceAdd,Nat.reduceLT,Nat.reduceLeDiff,Nat.reduceEqDiff,Nat.reduceBEq,Nat.reduceMul,Nat.reduceSub,Int.reduceToNat,Int.reduceEq,Int.reduceNe,Int.reduceLT,Int.reduceLE,Int.reduceBEq,Int.reduceAdd,Int.reduceSub,Int.reduceMul,hP,hW]
              refine hret _ _ S.length 5 ?_
              simp only [r_ref01_size, ev,evA,true_and,and_true,and_self,if_true,if_false,reduceIte,ne_eq,forall_const,false_implies,beq_self_eq_true,decide_true,decide_false,Int.cast_ofNat_Int,Nat.reduceAdd,Nat.reduceLT,Nat.reduceLeDiff,Nat.reduceEqDiff,Nat.reduceBEq,Nat.reduceMul,Nat.reduceSub,Int.reduceToNat,Int.reduceEq,Int.reduceNe,Int.reduceLT,Int.reduceLE,Int.reduceBEq,Int.reduceAdd,Int.reduceSub,Int.reduceMul,hP,hW]
              exact size_bad (hd.2 (not_whole hv (by omega)))
            | inr g2 =>
              have f2 := decide_eq_false g2
              have wr : IntKind.i32.wrap (v : Int) = (v : Int) := by rw [IntKind.wrap_i32]; omega
              cases em3 with
              | inl g3 =>
                cases em4 with
                | inl g4 =>
                  try simp only [f1, f2, decide_eq_true g3, decide_eq_true g4, ev,evA,true_and,and_true,and_self,if_true,if_false,reduceIte,ne_eq,forall_const,false_implies,beq_self_eq_true,decide_true,decide_false,Int.cast_ofNat_Int,Nat.reduceAdd,Nat.reduceLT,Nat.reduceLeDiff,Nat.reduceEqDiff,Nat.reduceBEq,Nat.reduceMul,Nat.reduceSub,Int.reduceToNat,Int.reduceEq,Int.reduceNe,Int.reduceLT,Int.reduceLE,Int.reduceBEq,Int.reduceAdd,Int.reduceSub,Int.reduceMul,hP,hW]
                  refine hret _ _ S.length 5 ?_
                  simp only [r_ref01_size, ev,evA,true_and,and_true,and_self,if_true,if_false,reduceIte,ne_eq,forall_const,false_implies,beq_self_eq_true,decide_true,decide_false,Int.cast_ofNat_Int,Nat.reduceAdd,Nat.reduceLT,Nat.reduceLeDiff,Nat.reduceEqDiff,Nat.reduceBEq,Nat.reduceMul,Nat.reduceSub,Int.reduceToNat,Int.reduceEq,Int.reduceNe,Int.reduceLT,Int.reduceLE,Int.reduceBEq,Int.reduceAdd,Int.reduceSub,Int.reduceMul,hP,hW]
                  exact size_bad (hd.2 (not_whole hv (by omega)))
                | inr g4 =>
                  try simp only [f1, f2, decide_eq_true g3, decide_eq_false g4, wr, ev,evA,true_and,and_true,and_self,if_true,if_false,reduceIte,ne_eq,forall_const,false_implies,beq_self_eq_true,decide_true,decide_false,Int.cast_ofNat_Int,Nat.reduceAdd,Nat.reduceLT,Nat.reduceLeDiff,Nat.reduceEqDiff,Nat.reduceBEq,Nat.reduceMul,Nat.reduceSub,Int.reduceToNat,Int.reduceEq,Int.reduceNe,Int.reduceLT,Int.reduceLE,Int.reduceBEq,Int.reduceAdd,Int.reduceSub,Int.reduceMul,hP,hW]
                  refine hret _ _ S.length 5 ?_
                  simp only [r_ref01_size, ev,evA,true_and,and_true,and_self,if_true,if_false,reduceIte,ne_eq,forall_const,false_implies,beq_self_eq_true,decide_true,decide_false,Int.cast_ofNat_Int,Nat.reduceAdd,Nat.reduceLT,Nat.reduceLeDiff,Nat.reduceEqDiff,Nat.reduceBEq,Nat.reduceMul,Nat.reduceSub,Int.reduceToNat,Int.reduceEq,Int.reduceNe,Int.reduceLT,Int.reduceLE,Int.reduceBEq,Int.reduceAdd,Int.reduceSub,Int.reduceMul,hP,hW]
                  exact size_good (hd.1 (is_whole hv (by omega) hcont (by omega) (by omega) (by omega)))
              | inr g3 =>
                try simp only [f1, f2, decide_eq_false g3, wr, ev,evA,true_and,and_true,and_self,if_true,if_false,reduceIte,ne_eq,forall_const,false_implies,beq_self_eq_true,decide_true,decide_false,Int.cast_ofNat_Int,Nat.reduceAdd,Nat.reduceLT,Nat.reduceLeDiff,Nat.reduceEqDiff,Nat.reduceBEq,Nat.reduceMul,Nat.reduceSub,Int.reduceToNat,Int.reduceEq,Int.reduceNe,Int.reduceLT,Int.reduceLE,Int.reduceBEq,Int.reduceAdd,Int.reduceSub,Int.reduceMul,hP,hW]
                refine hret _ _ S.length 5 ?_
                simp only [r_ref01_size, ev,evA,true_and,and_true,and_self,if_true,if_false,reduceIte,ne_eq,forall_const,false_implies,beq_self_eq_true,decide_true,decide_false,Int.cast_ofNat_Int,Nat.reduceAdd,Nat.reduceLT,Nat.reduceLeDiff,Nat.reduceEqDiff,Nat.reduceBEq,Nat.reduceMul,Nat.reduceSub,Int.reduceToNat,Int.reduceEq,Int.reduceNe,Int.reduceLT,Int.reduceLE,Int.reduceBEq,Int.reduceAdd,Int.reduceSub,Int.reduceMul,hP,hW]
                exact size_good (hd.1 (is_whole hv (by omega) hcont (by omega) (by omega) (by omega)))
  by_cases h4 : 240 ≤ B s 0 ∧ B s 0 < 248
  · have a1 : decide ((192 : Int) ≤ (B s 0 : Int)) = true := decide_eq_true (by omega)
    have a2 : decide ((B s 0 : Int) < 224) = false := decide_eq_false (by omega)
    have a3 : decide ((224 : Int) ≤ (B s 0 : Int)) = true := decide_eq_true (by omega)
    have a4 : decide ((B s 0 : Int) < 240) = false := decide_eq_false (by omega)
    have a5 : decide ((240 : Int) ≤ (B s 0 : Int)) = true := decide_eq_true (by omega)
    have a6 : decide ((B s 0 : Int) < 248) = true := decide_eq_true (by omega)
    have wv : IntKind.i64.wrap ((B s 0 : Int) - 240) = ((B s 0 - 240 : Nat) : Int) := by rw [wrap_id (by omega) (by omega)]; omega
    have hd := dec4 h4.1 h4.2
    try simp only [d1, a1, a2, a3, a4, a5, a6, wv, ev,evA,true_and,and_true,and_self,if_true,if_false,reduceIte,ne_eq,forall_const,false_implies,beq_self_eq_true,decide_true,decide_false,Int.cast_ofNat_Int,Nat.reduceAdd,Nat.reduceLT,Nat.reduceLeDiff,Nat.reduceEqDiff,Nat.reduceBEq,Nat.reduceMul,Nat.reduceSub,Int.reduceToNat,Int.reduceEq,Int.reduceNe,Int.reduceLT,Int.reduceLE,Int.reduceBEq,Int.reduceAdd,Int.reduceSub,Int.reduceMul,hP,hW]
    refine Gc_dec (fun hc => ?_) (fun hc => ?_)
    · try simp only [ev,evA,true_and,and_true,and_self,if_true,if_false,reduceIte,ne_eq,forall_const,false_implies,beq_self_eq_true,decide_true,decide_false,Int.cast_ofNat_Int,Nat.reduceAdd,Nat.reduceLT,Nat.reduceLeDiff,Nat.reduceEqDiff,Nat.reduceBEq,Nat.reduceMul,Nat.reduceSub,Int.reduceToNat,Int.reduceEq,Int.reduceNe,Int.reduceLT,Int.reduceLE,Int.reduceBEq,Int.reduceAdd,Int.reduceSub,Int.reduceMul,hP,hW]
      refine hret _ _ S.length 5 ?_
      simp only [r_ref01_size, ev,evA,true_and,and_true,and_self,if_true,if_false,reduceIte,ne_eq,forall_const,false_implies,beq_self_eq_true,decide_true,decide_false,Int.cast_ofNat_Int,Nat.reduceAdd,Nat.reduceLT,Nat.reduceLeDiff,Nat.reduceEqDiff,Nat.reduceBEq,Nat.reduceMul,Nat.reduceSub,Int.reduceToNat,Int.reduceEq,Int.reduceNe,Int.reduceLT,Int.reduceLE,Int.reduceBEq,Int.reduceAdd,Int.reduceSub,Int.reduceMul,hP,hW]
      exact ⟨_, rfl, by rw [hd.2 (fun hh => by have := hh.1; omega)]; rfl⟩
    · try simp only [ev,evA,true_and,and_true,and_self,if_true,if_false,reduceIte,ne_eq,forall_const,false_implies,beq_self_eq_true,decide_true,decide_false,Int.cast_ofNat_Int,Nat.reduceAdd,Nat.reduceLT,Nat.reduceLeDiff,Nat.reduceEqDiff,Nat.reduceBEq,Nat.reduceMul,Nat.reduceSub,Int.reduceToNat,Int.reduceEq,Int.reduceNe,Int.reduceLT,Int.reduceLE,Int.reduceBEq,Int.reduceAdd,Int.reduceSub,Int.reduceMul,hP,hW]
      refine SX_lp (α := Nat) (fun k => k + 1 ≤ 4 ∧ ∀ j, 1 ≤ j → j < k + 1 → 128 ≤ B s j ∧ B s j < 192) (fun k => (.mk [.mk (.raw (.string s)) .junk .junk .junk .junk (.raw (.int .i64 4)) (.raw (.int .i64 65536)) (.raw (.int .i64 ((val s (B s 0 - 240) k : Nat) : Int))), .mk (.raw (.int .i64 (k + 1 : Nat))) .junk .junk .junk .junk .junk .junk .junk, .mk .junk .junk .junk .junk .junk .junk .junk .junk, .mk .junk .junk .junk .junk .junk .junk .junk .junk, .mk .junk .junk .junk .junk .junk .junk .junk .junk, .mk .junk .junk .junk .junk .junk .junk .junk .junk, .mk .junk .junk .junk .junk .junk .junk .junk .junk, .mk .junk .junk .junk .junk .junk .junk .junk .junk, .mk .junk .junk .junk .junk .junk .junk .junk .junk, .mk .junk .junk .junk .junk .junk .junk .junk .junk] [.junk, .junk, .junk, .junk, .junk, .junk, .junk])) (fun k => S) (fun k => 4 - k) 200 ?_ ?_
      · refine Cv.ex S.length _ _ ?_ (take_all (Nat.le_refl _)) (Cv.done ⟨0, ⟨by omega, fun j _ _ => by omega⟩, rfl, rfl⟩)
        simp [rlE, rlRs, rlR, rlL, DV.le, val]
      · rintro k ⟨hk, hcont⟩
        have hvk := val_le (s := s) (v := B s 0 - 240) (k := k) (by omega) (by omega)
        by_cases hlt : k + 1 < 4
        · have bk := B_lt s (k + 1)
          have hsz : k + 1 < s.size := by omega
          have e1 : decide (((k + 1 : Nat) : Int) < 4) = true := decide_eq_true (by omega)
          have e2 : (0 ≤ ((k + 1 : Nat) : Int) ∧ ((k + 1 : Nat) : Int) < (s.size : Int)) = True := by simp; omega
          have e3 : IntKind.i64.wrap (bytD s (k + 1)) = (B s (k + 1) : Int) := by rw [bytD_B hsz, wrap_id (by omega) (by omega)]
          try simp only [e1, e2, e3, ev,evA,true_and,and_true,and_self,if_true,if_false,reduceIte,ne_eq,forall_const,false_implies,beq_self_eq_true,decide_true,decide_false,Int.cast_ofNat_Int,Nat.reduceAdd,Nat.reduceLT,Nat.reduceLeDiff,Nat.reduceEqDiff,Nat.reduceBEq,Nat.reduceMul,Nat.reduceSub,Int.reduceToNat,Int.reduceEq,Int.reduceNe,Int.reduceLT,Int.reduceLE,Int.reduceBEq,Int.reduceAdd,Int.reduceSub,Int.reduceMul,hP,hW]
          by_cases q1 : B s (k + 1) < 128
          · try simp only [decide_eq_true (show (B s (k + 1) : Int) < 128 by omega), ev,evA,true_and,and_true,and_self,if_true,if_false,reduceIte,ne_eq,forall_const,false_implies,beq_self_eq_true,decide_true,decide_false,Int.cast_ofNat_Int,Nat.reduceAdd,Nat.reduceLT,Nat.reduceLeDiff,Nat.reduceEqDiff,Nat.reduceBEq,Nat.reduceMul,Nat.reduceSub,Int.reduceToNat,Int.reduceEq,Int.reduceNe,Int.reduceLT,Int.reduceLE,Int.reduceBEq,Int.reduceAdd,Int.reduceSub,Int.reduceMul,hP,hW]
            refine hret _ _ S.length 5 ?_
            simp only [r_ref01_size, ev,evA,true_and,and_true,and_self,if_true,if_false,reduceIte,ne_eq,forall_const,false_implies,beq_self_eq_true,decide_true,decide_false,Int.cast_ofNat_Int,Nat.reduceAdd,Nat.reduceLT,Nat.reduceLeDiff,Nat.reduceEqDiff,Nat.reduceBEq,Nat.reduceMul,Nat.reduceSub,Int.reduceToNat,Int.reduceEq,Int.reduceNe,Int.reduceLT,Int.reduceLE,Int.reduceBEq,Int.reduceAdd,Int.reduceSub,Int.reduceMul,hP,hW]
            exact ⟨_, rfl, by rw [hd.2 (fun hh => by have := hh.2.1 (k + 1) (by omega) (by omega); omega)]; rfl⟩
          have f1 : decide ((B s (k + 1) : Int) < 128) = false := decide_eq_false (by omega)
          by_cases q2 : 192 ≤ B s (k + 1)
          · try simp only [f1, decide_eq_true (show (192 : Int) ≤ (B s (k + 1) : Int) by omega), ev,evA,true_and,and_true,and_self,if_true,if_false,reduceIte,ne_eq,forall_const,false_implies,beq_self_eq_true,decide_true,decide_false,Int.cast_ofNat_Int,Nat.reduceAdd,Nat.reduceLT,Nat.reduceLeDiff,Nat.reduceEqDiff,Nat.reduceBEq,Nat.reduceMul,Nat.reduceSub,Int.reduceToNat,Int.reduceEq,Int.reduceNe,Int.reduceLT,Int.reduceLE,Int.reduceBEq,Int.reduceAdd,Int.reduceSub,Int.reduceMul,hP,hW]
            refine hret _ _ S.length 5 ?_
            simp only [r_ref01_size, ev,evA,true_and,and_true,and_self,if_true,if_false,reduceIte,ne_eq,forall_const,false_implies,beq_self_eq_true,decide_true,decide_false,Int.cast_ofNat_Int,Nat.reduceAdd,Nat.reduceLT,Nat.reduceLeDiff,Nat.reduceEqDiff,Nat.reduceBEq,Nat.reduceMul,Nat.reduceSub,Int.reduceToNat,Int.reduceEq,Int.reduceNe,Int.reduceLT,Int.reduceLE,Int.reduceBEq,Int.reduceAdd,Int.reduceSub,Int.reduceMul,hP,hW]
            exact ⟨_, rfl, by rw [hd.2 (fun hh => by have := hh.2.1 (k + 1) (by omega) (by omega); omega)]; rfl⟩
          have u1 : IntKind.i64.wrap ((val s (B s 0 - 240) k : Int) * 64) = (val s (B s 0 - 240) k : Int) * 64 := wrap_id (by omega) (by omega)
          have u2 : IntKind.i64.wrap ((val s (B s 0 - 240) k : Int) * 64 + (B s (k + 1) : Int)) = (val s (B s 0 - 240) k : Int) * 64 + (B s (k + 1) : Int) := wrap_id (by omega) (by omega)
          have u3 : IntKind.i64.wrap ((val s (B s 0 - 240) k : Int) * 64 + (B s (k + 1) : Int) - 128) = (val s (B s 0 - 240) (k + 1) : Int) := by rw [wrap_id (by omega) (by omega)]; simp only [val]; omega
          have u4 : IntKind.i64.wrap (((k + 1 : Nat) : Int) + 1) = ((k + 1 + 1 : Nat) : Int) := by rw [wrap_id (by omega) (by omega)]; omega
          try simp only [f1, decide_eq_false (show ¬ (192 : Int) ≤ (B s (k + 1) : Int) by omega), u1, u2, u3, u4, ev,evA,true_and,and_true,and_self,if_true,if_false,reduceIte,ne_eq,forall_const,false_implies,beq_self_eq_true,decide_true,decide_false,Int.cast_ofNat_Int,Nat.reduceAdd,Nat.reduceLT,Nat.reduceLeDiff,Nat.reduceEqDiff,Nat.reduceBEq,Nat.reduceMul,Nat.reduceSub,Int.reduceToNat,Int.reduceEq,Int.reduceNe,Int.reduceLT,Int.reduceLE,Int.reduceBEq,Int.reduceAdd,Int.reduceSub,Int.reduceMul,hP,hW]
          refine Cv.ex S.length _ _ ?_ (take_all (Nat.le_refl _)) (Cv.done ⟨k + 1, ⟨by omega, fun j j1 j2 => ?_⟩, by omega, rfl, rfl⟩)
          · simp [rlE, rlRs, rlR, rlL, DV.le] <;> omega
          · rcases Nat.lt_or_ge j (k + 1) with h | h
            · exact hcont j j1 h
            · obtain rfl : j = k + 1 := by omega
              omega
        · have e1 : decide (((k + 1 : Nat) : Int) < 4) = false := decide_eq_false (by omega)
          obtain rfl : k = 4 - 1 := by omega
          simp only [Nat.add_one_sub_one, show 4 - 1 + 1 = 4 from rfl] at *
          generalize hv : val s (B s 0 - 240) (4 - 1) = v at *
          try simp only [e1, ev,evA,true_and,and_true,and_self,if_true,if_false,reduceIte,ne_eq,forall_const,false_implies,beq_self_eq_true,decide_true,decide_false,Int.cast_ofNat_Int,Nat.reduceAdd,Nat.reduceLT,Nat.reduceLeDiff,Nat.reduceEqDiff,Nat.reduceBEq,Nat.reduceMul,Nat.reduceSub,Int.reduceToNat,Int.reduceEq,Int.reduceNe,Int.reduceLT,Int.reduceLE,Int.reduceBEq,Int.reduceAdd,Int.reduceSub,Int.reduceMul,hP,hW]
          have em1 := Classical.em ((v : Int) < 65536)
          have em2 := Classical.em ((1114111 : Int) < (v : Int))
          have em3 := Classical.em ((55296 : Int) ≤ (v : Int))
          have em4 := Classical.em ((v : Int) < 57344)
          cases em1 with
          | inl g1 =>
            try simp only [decide_eq_true g1, ev,evA,true_and,and_true,and_self,if_true,if_false,reduceIte,ne_eq,forall_const,false_implies,beq_self_eq_true,decide_true,decide_false,Int.cast_ofNat_Int,Nat.reduceAdd,Nat.reduceLT,Nat.reduceLeDiff,Nat.reduceEqDiff,Nat.reduceBEq,Nat.reduceMul,Nat.reduceSub,Int.reduceToNat,Int.reduceEq,Int.reduceNe,Int.reduceLT,Int.reduceLE,Int.reduceBEq,Int.reduceAdd,Int.reduceSub,Int.reduceMul,hP,hW]
            refine hret _ _ S.length 5 ?_
            simp only [r_ref01_size, ev,evA,true_and,and_true,and_self,if_true,if_false,reduceIte,ne_eq,forall_const,false_implies,beq_self_eq_true,decide_true,decide_false,Int.cast_ofNat_Int,Nat.reduceAdd,Nat.reduceLT,Nat.reduceLeDiff,Nat.reduceEqDiff,Nat.reduceBEq,Nat.reduceMul,Nat.reduceSub,Int.reduceToNat,Int.reduceEq,Int.reduceNe,Int.reduceLT,Int.reduceLE,Int.reduceBEq,Int.reduceAdd,Int.reduceSub,Int.reduceMul,hP,hW]
            exact size_bad (hd.2 (not_whole hv (by omega)))
          | inr g1 =>
            have f1 := decide_eq_false g1
            cases em2 with
            | inl g2 =>
              try simp only [f1, decide_eq_true g2, ev,evA,true_and,and_true,and_self,if_true,if_false,reduceIte,ne_eq,forall_const,false_implies,beq_self_eq_true,decide_true,decide_false,Int.cast_ofNat_Int,Nat.reduceAdd,Nat.reduceLT,Nat.reduceLeDiff,Nat.reduceEqDiff,Nat.reduceBEq,Nat.reduceMul,Nat.reduceSub,Int.reduceToNat,Int.reduceEq,Int.reduceNe,Int.reduceLT,Int.reduceLE,Int.reduceBEq,Int.reduceAdd,Int.reduceSub,Int.reduceMul,hP,hW]
              refine hret _ _ S.length 5 ?_
              simp only [r_ref01_size, ev,evA,true_and,and_true,and_self,if_true,if_false,reduceIte,ne_eq,forall_const,false_implies,beq_self_eq_true,decide_true,decide_false,Int.cast_ofNat_Int,Nat.reduceAdd,Nat.reduceLT,Nat.reduceLeDiff,Nat.reduceEqDiff,Nat.reduceBEq,Nat.reduceMul,Nat.reduceSub,Int.reduceToNat,Int.reduceEq,Int.reduceNe,Int.reduceLT,Int.reduceLE,Int.reduceBEq,Int.reduceAdd,Int.reduceSub,Int.reduceMul,hP,hW]
              exact size_bad (hd.2 (not_whole hv (by omega)))
            | inr g2 =>
              have f2 := decide_eq_false g2
              have wr : IntKind.i32.wrap (v : Int) = (v : Int) := by rw [IntKind.wrap_i32]; omega
              cases em3 with
              | inl g3 =>
                cases em4 with
                | inl g4 =>
                  try simp only [f1, f2, decide_eq_true g3, decide_eq_true g4, ev,evA,true_and,and_true,and_self,if_true,if_false,reduceIte,ne_eq,forall_const,false_implies,beq_self_eq_true,decide_true,decide_false,Int.cast_ofNat_Int,Nat.reduceAdd,Nat.reduceLT,Nat.reduceLeDiff,Nat.reduceEqDiff,Nat.reduceBEq,Nat.reduceMul,Nat.reduceSub,Int.reduceToNat,Int.reduceEq,Int.reduceNe,Int.reduceLT,Int.reduceLE,Int.reduceBEq,Int.reduceAdd,Int.reduceSub,Int.reduceMul,hP,hW]
                  refine hret _ _ S.length 5 ?_
                  simp only [r_ref01_size, ev,evA,true_and,and_true,and_self,if_true,if_false,reduceIte,ne_eq,forall_const,false_implies,beq_self_eq_true,decide_true,decide_false,Int.cast_ofNat_Int,Nat.reduceAdd,Nat.reduceLT,Nat.reduceLeDiff,Nat.reduceEqDiff,Nat.reduceBEq,Nat.reduceMul,Nat.reduceSub,Int.reduceToNat,Int.reduceEq,Int.reduceNe,Int.reduceLT,Int.reduceLE,Int.reduceBEq,Int.reduceAdd,Int.reduceSub,Int.reduceMul,hP,hW]
                  exact size_bad (hd.2 (not_whole hv (by omega)))
                | inr g4 =>
                  try simp only [f1, f2, decide_eq_true g3, decide_eq_false g4, wr, ev,evA,true_and,and_true,and_self,if_true,if_false,reduceIte,ne_eq,forall_const,false_implies,beq_self_eq_true,decide_true,decide_false,Int.cast_ofNat_Int,Nat.reduceAdd,Nat.reduceLT,Nat.reduceLeDiff,Nat.reduceEqDiff,Nat.reduceBEq,Nat.reduceMul,Nat.reduceSub,Int.reduceToNat,Int.reduceEq,Int.reduceNe,Int.reduceLT,Int.reduceLE,Int.reduceBEq,Int.reduceAdd,Int.reduceSub,Int.reduceMul,hP,hW]
                  refine hret _ _ S.length 5 ?_
                  simp only [r_ref01_size, ev,evA,true_and,and_true,and_self,if_true,if_false,reduceIte,ne_eq,forall_const,false_implies,beq_self_eq_true,decide_true,decide_false,Int.cast_ofNat_Int,Nat.reduceAdd,Nat.reduceLT,Nat.reduceLeDiff,Nat.reduceEqDiff,Nat.reduceBEq,Nat.reduceMul,Nat.reduceSub,Int.reduceToNat,Int.reduceEq,Int.reduceNe,Int.reduceLT,Int.reduceLE,Int.reduceBEq,Int.reduceAdd,Int.reduceSub,Int.reduceMul,hP,hW]
                  exact size_good (hd.1 (is_whole hv (by omega) hcont (by omega) (by omega) (by omega)))
              | inr g3 =>
                try simp only [f1, f2, decide_eq_false g3, wr, ev,evA,true_and,and_true,and_self,if_true,if_false,reduceIte,ne_eq,forall_const,false_implies,beq_self_eq_true,decide_true,decide_false,Int.cast_ofNat_Int,Nat.reduceAdd,Nat.reduceLT,Nat.reduceLeDiff,Nat.reduceEqDiff,Nat.reduceBEq,Nat.reduceMul,Nat.reduceSub,Int.reduceToNat,Int.reduceEq,Int.reduceNe,Int.reduceLT,Int.reduceLE,Int.reduceBEq,Int.reduceAdd,Int.reduceSub,Int.reduceMul,hP,hW]
                refine hret _ _ S.length 5 ?_
                simp only [r_ref01_size, ev,evA,true_and,and_true,and_self,if_true,if_false,reduceIte,ne_eq,forall_const,false_implies,beq_self_eq_true,decide_true,decide_false,Int.cast_ofNat_Int,Nat.reduceAdd,Nat.reduceLT,Nat.reduceLeDiff,Nat.reduceEqDiff,Nat.reduceBEq,Nat.reduceMul,Nat.reduceSub,Int.reduceToNat,Int.reduceEq,Int.reduceNe,Int.reduceLT,Int.reduceLE,Int.reduceBEq,Int.reduceAdd,Int.reduceSub,Int.reduceMul,hP,hW]
                exact size_good (hd.1 (is_whole hv (by omega) hcont (by omega) (by omega) (by omega)))
  have hd := dec0 (s := s) (by omega)
  by_cases h5 : B s 0 < 192
  · try simp only [d1, decide_eq_false (show ¬ (192 : Int) ≤ (B s 0 : Int) by omega), decide_eq_false (show ¬ (224 : Int) ≤ (B s 0 : Int) by omega), decide_eq_false (show ¬ (240 : Int) ≤ (B s 0 : Int) by omega), ev,evA,true_and,and_true,and_self,if_true,if_false,reduceIte,ne_eq,forall_const,false_implies,beq_self_eq_true,decide_true,decide_false,Int.cast_ofNat_Int,Nat.reduceAdd,Nat.reduceLT,Nat.reduceLeDiff,Nat.reduceEqDiff,Nat.reduceBEq,Nat.reduceMul,Nat.reduceSub,Int.reduceToNat,Int.reduceEq,Int.reduceNe,Int.reduceLT,Int.reduceLE,Int.reduceBEq,Int.reduceAdd,Int.reduceSub,Int.reduceMul,hP,hW]
    refine hret _ _ S.length 5 ?_
    simp only [r_ref01_size, ev,evA,true_and,and_true,and_self,if_true,if_false,reduceIte,ne_eq,forall_const,false_implies,beq_self_eq_true,decide_true,decide_false,Int.cast_ofNat_Int,Nat.reduceAdd,Nat.reduceLT,Nat.reduceLeDiff,Nat.reduceEqDiff,Nat.reduceBEq,Nat.reduceMul,Nat.reduceSub,Int.reduceToNat,Int.reduceEq,Int.reduceNe,Int.reduceLT,Int.reduceLE,Int.reduceBEq,Int.reduceAdd,Int.reduceSub,Int.reduceMul,hP,hW]
    exact ⟨_, rfl, by rw [hd]; rfl⟩
  · try simp only [d1, decide_eq_true (show (192 : Int) ≤ (B s 0 : Int) by omega), decide_eq_true (show (224 : Int) ≤ (B s 0 : Int) by omega), decide_eq_true (show (240 : Int) ≤ (B s 0 : Int) by omega), decide_eq_false (show ¬ (B s 0 : Int) < 224 by omega), decide_eq_false (show ¬ (B s 0 : Int) < 240 by omega), decide_eq_false (show ¬ (B s 0 : Int) < 248 by omega), ev,evA,true_and,and_true,and_self,if_true,if_false,reduceIte,ne_eq,forall_const,false_implies,beq_self_eq_true,decide_true,decide_false,Int.cast_ofNat_Int,Nat.reduceAdd,Nat.reduceLT,Nat.reduceLeDiff,Nat.reduceEqDiff,Nat.reduceBEq,Nat.reduceMul,Nat.reduceSub,Int.reduceToNat,Int.reduceEq,Int.reduceNe,Int.reduceLT,Int.reduceLE,Int.reduceBEq,Int.reduceAdd,Int.reduceSub,Int.reduceMul,hP,hW]
    refine hret _ _ S.length 5 ?_
    simp only [r_ref01_size, ev,evA,true_and,and_true,and_self,if_true,if_false,reduceIte,ne_eq,forall_const,false_implies,beq_self_eq_true,decide_true,decide_false,Int.cast_ofNat_Int,Nat.reduceAdd,Nat.reduceLT,Nat.reduceLeDiff,Nat.reduceEqDiff,Nat.reduceBEq,Nat.reduceMul,Nat.reduceSub,Int.reduceToNat,Int.reduceEq,Int.reduceNe,Int.reduceLT,Int.reduceLE,Int.reduceBEq,Int.reduceAdd,Int.reduceSub,Int.reduceMul,hP,hW]
    exact ⟨_, rfl, by rw [hd]; rfl⟩
end Go.Dv
/-
  The document's letters.
-/
namespace Go.Dv
open Go Go.RowKit Go.Proofs
set_option linter.unusedSimpArgs false
set_option linter.unusedVariables false
set_option maxRecDepth 8000

theorem t_refRight (hm : Tryd.prog.follows .mixedOrders = true) (W0 : World) (S : List SO) (s : ByteArray) (hs : Big s.size) : CtP Tryd.prog W0 n_ref01_Right [.raw (.string s)] S (fun d => d = .raw (.bool (vld s 0))) := by
  refine Ct_R k_ref01_Right 400 (.mk [.mk (.raw (.string s)) .junk .junk .junk .junk .junk .junk .junk, .mk .junk .junk .junk .junk .junk .junk .junk .junk] [.junk, .junk, .junk, .junk, .junk]) rfl rfl fun r hP hW hpan hret => ?_
  simp only [c_ref01_Right, ev,evA,true_and,and_true,and_self,if_true,if_false,reduceIte,ne_eq,forall_const,false_implies,beq_self_eq_true,decide_true,decide_false,Int.cast_ofNat_Int,Nat.reduceAdd,Nat.reduceLT,Nat.reduceLeDiff,Nat.reduceEqDiff,Nat.reduceBEq,Nat.reduceMul,Nat.reduceSub,Int.reduceToNat,Int.reduceEq,Int.reduceNe,Int.reduceLT,Int.reduceLE,Int.reduceBEq,Int.reduceAdd,Int.reduceSub,Int.reduceMul,hP,hW]
  refine SX_lp (α := Nat) (fun p => p ≤ s.size ∧ vld s p = vld s 0) (fun p => (.mk [.mk (.raw (.string (s.extract p s.size))) .junk (.raw (.bool false)) .junk .junk .junk .junk .junk, .mk .junk .junk .junk .junk .junk .junk .junk .junk] [.junk, .junk, .junk, .junk, .junk])) (fun p => S) (fun p => s.size - p) 200 ?_ ?_
  · refine Cv.ex S.length _ _ ?_ (take_all (Nat.le_refl _)) (Cv.done ⟨0, ⟨Nat.zero_le _, rfl⟩, rfl, rfl⟩)
    simp [rlE, rlRs, rlR, rlL, DV.le]
  · rintro p ⟨hp, hv⟩
    have hsz : (s.extract p s.size).size = s.size - p := by rw [ByteArray.size_extract]; omega
    by_cases hlt : p < s.size
    · have hne : (s.extract p s.size = "".toUTF8) = False := by simp only [eq_iff_iff, iff_false]; intro e; have := congrArg ByteArray.size e; rw [hsz] at this; simp at this; omega
      have hw := width_pos s p
      have hin := decode_in hlt
      unfold Big at hs
      try simp only [hne, ev,evA,true_and,and_true,and_self,if_true,if_false,reduceIte,ne_eq,forall_const,false_implies,beq_self_eq_true,decide_true,decide_false,Int.cast_ofNat_Int,Nat.reduceAdd,Nat.reduceLT,Nat.reduceLeDiff,Nat.reduceEqDiff,Nat.reduceBEq,Nat.reduceMul,Nat.reduceSub,Int.reduceToNat,Int.reduceEq,Int.reduceNe,Int.reduceLT,Int.reduceLE,Int.reduceBEq,Int.reduceAdd,Int.reduceSub,Int.reduceMul,hP,hW]
      refine callE _ (fun S2 => t_size hm W0 S2 (s.extract p s.size) (by omega) (by unfold Big; omega)) (by try simp only [ev,evA,true_and,and_true,and_self,if_true,if_false,reduceIte,ne_eq,forall_const,false_implies,beq_self_eq_true,decide_true,decide_false,Int.cast_ofNat_Int,Nat.reduceAdd,Nat.reduceLT,Nat.reduceLeDiff,Nat.reduceEqDiff,Nat.reduceBEq,Nat.reduceMul,Nat.reduceSub,Int.reduceToNat,Int.reduceEq,Int.reduceNe,Int.reduceLT,Int.reduceLE,Int.reduceBEq,Int.reduceAdd,Int.reduceSub,Int.reduceMul,hP,hW]) ?_
      have hst := vld_step hlt
      try simp only [decode_ext hlt, ev,evA,true_and,and_true,and_self,if_true,if_false,reduceIte,ne_eq,forall_const,false_implies,beq_self_eq_true,decide_true,decide_false,Int.cast_ofNat_Int,Nat.reduceAdd,Nat.reduceLT,Nat.reduceLeDiff,Nat.reduceEqDiff,Nat.reduceBEq,Nat.reduceMul,Nat.reduceSub,Int.reduceToNat,Int.reduceEq,Int.reduceNe,Int.reduceLT,Int.reduceLE,Int.reduceBEq,Int.reduceAdd,Int.reduceSub,Int.reduceMul,hP,hW]
      have hgo : okAt s p = true → vld s (p + (Utf8.decode s p).2) = vld s 0 := fun h => by rw [← hv, hst, h, Bool.true_and]
      have hbad : okAt s p = false → vld s 0 = false := fun h => by rw [← hv, hst, h, Bool.false_and]
      have s1 : ((0 : Int) ≤ ((Utf8.decode s p).2 : Int)) = True := by simp
      have s2 : (((Utf8.decode s p).2 : Int) ≤ ((s.extract p s.size).size : Int)) = True := by simp only [eq_iff_iff, iff_true, hsz]; omega
      cases hq : ((((Utf8.decode s p).2 : Nat) : Int) == 1) with
      | false =>
        have hok : okAt s p = true := by
          unfold okAt
          have : ((Utf8.decode s p).2 == 1) = false := by
            cases h5 : ((Utf8.decode s p).2 == 1) with
            | false => rfl
            | true => rw [beq_iff_eq] at h5; rw [h5] at hq; exact absurd hq (by decide)
          rw [this]; simp
        try simp only [s1, s2, ext_ext hin, ev,evA,true_and,and_true,and_self,if_true,if_false,reduceIte,ne_eq,forall_const,false_implies,beq_self_eq_true,decide_true,decide_false,Int.cast_ofNat_Int,Nat.reduceAdd,Nat.reduceLT,Nat.reduceLeDiff,Nat.reduceEqDiff,Nat.reduceBEq,Nat.reduceMul,Nat.reduceSub,Int.reduceToNat,Int.reduceEq,Int.reduceNe,Int.reduceLT,Int.reduceLE,Int.reduceBEq,Int.reduceAdd,Int.reduceSub,Int.reduceMul,hP,hW]
        refine Cv.ex S.length _ _ ?_ (take_all (Nat.le_refl _)) (Cv.done ⟨p + (Utf8.decode s p).2, ⟨hin, hgo hok⟩, by omega, rfl, rfl⟩)
        simp [rlE, rlRs, rlR, rlL, DV.le]
      | true =>
        have hw1 : (Utf8.decode s p).2 = 1 := by rw [beq_iff_eq] at hq; omega
        try simp only [ev,evA,true_and,and_true,and_self,if_true,if_false,reduceIte,ne_eq,forall_const,false_implies,beq_self_eq_true,decide_true,decide_false,Int.cast_ofNat_Int,Nat.reduceAdd,Nat.reduceLT,Nat.reduceLeDiff,Nat.reduceEqDiff,Nat.reduceBEq,Nat.reduceMul,Nat.reduceSub,Int.reduceToNat,Int.reduceEq,Int.reduceNe,Int.reduceLT,Int.reduceLE,Int.reduceBEq,Int.reduceAdd,Int.reduceSub,Int.reduceMul,hP,hW]
        cases hr : ((((Utf8.decode s p).1 : Nat) : Int) == 65533) with
        | false =>
          have hok : okAt s p = true := by
            unfold okAt
            have : ((Utf8.decode s p).1 == 65533) = false := by
              cases h5 : ((Utf8.decode s p).1 == 65533) with
              | false => rfl
              | true => rw [beq_iff_eq] at h5; rw [h5] at hr; exact absurd hr (by decide)
            rw [this]; simp
          try simp only [s1, s2, ext_ext hin, ev,evA,true_and,and_true,and_self,if_true,if_false,reduceIte,ne_eq,forall_const,false_implies,beq_self_eq_true,decide_true,decide_false,Int.cast_ofNat_Int,Nat.reduceAdd,Nat.reduceLT,Nat.reduceLeDiff,Nat.reduceEqDiff,Nat.reduceBEq,Nat.reduceMul,Nat.reduceSub,Int.reduceToNat,Int.reduceEq,Int.reduceNe,Int.reduceLT,Int.reduceLE,Int.reduceBEq,Int.reduceAdd,Int.reduceSub,Int.reduceMul,hP,hW]
          refine Cv.ex S.length _ _ ?_ (take_all (Nat.le_refl _)) (Cv.done ⟨p + (Utf8.decode s p).2, ⟨hin, hgo hok⟩, by omega, rfl, rfl⟩)
          simp [rlE, rlRs, rlR, rlL, DV.le]
        | true =>
          have hok : okAt s p = false := by
            unfold okAt
            have : (Utf8.decode s p).1 = 65533 := by rw [beq_iff_eq] at hr; exact Int.ofNat.inj hr
            rw [this, hw1]; decide
          try simp only [ev,evA,true_and,and_true,and_self,if_true,if_false,reduceIte,ne_eq,forall_const,false_implies,beq_self_eq_true,decide_true,decide_false,Int.cast_ofNat_Int,Nat.reduceAdd,Nat.reduceLT,Nat.reduceLeDiff,Nat.reduceEqDiff,Nat.reduceBEq,Nat.reduceMul,Nat.reduceSub,Int.reduceToNat,Int.reduceEq,Int.reduceNe,Int.reduceLT,Int.reduceLE,Int.reduceBEq,Int.reduceAdd,Int.reduceSub,Int.reduceMul,hP,hW]
          refine hret _ _ S.length 5 ?_
          simp only [r_ref01_Right, ev,evA,true_and,and_true,and_self,if_true,if_false,reduceIte,ne_eq,forall_const,false_implies,beq_self_eq_true,decide_true,decide_false,Int.cast_ofNat_Int,Nat.reduceAdd,Nat.reduceLT,Nat.reduceLeDiff,Nat.reduceEqDiff,Nat.reduceBEq,Nat.reduceMul,Nat.reduceSub,Int.reduceToNat,Int.reduceEq,Int.reduceNe,Int.reduceLT,Int.reduceLE,Int.reduceBEq,Int.reduceAdd,Int.reduceSub,Int.reduceMul,hP,hW]
          exact ⟨_, rfl, by rw [hbad hok]⟩
    · have hp' : p = s.size := by omega
      have hne : (s.extract p s.size = "".toUTF8) = True := by rw [hp']; simp
      try simp only [hne, ev,evA,true_and,and_true,and_self,if_true,if_false,reduceIte,ne_eq,forall_const,false_implies,beq_self_eq_true,decide_true,decide_false,Int.cast_ofNat_Int,Nat.reduceAdd,Nat.reduceLT,Nat.reduceLeDiff,Nat.reduceEqDiff,Nat.reduceBEq,Nat.reduceMul,Nat.reduceSub,Int.reduceToNat,Int.reduceEq,Int.reduceNe,Int.reduceLT,Int.reduceLE,Int.reduceBEq,Int.reduceAdd,Int.reduceSub,Int.reduceMul,hP,hW]
      refine hret _ _ S.length 5 ?_
      simp only [r_ref01_Right, ev,evA,true_and,and_true,and_self,if_true,if_false,reduceIte,ne_eq,forall_const,false_implies,beq_self_eq_true,decide_true,decide_false,Int.cast_ofNat_Int,Nat.reduceAdd,Nat.reduceLT,Nat.reduceLeDiff,Nat.reduceEqDiff,Nat.reduceBEq,Nat.reduceMul,Nat.reduceSub,Int.reduceToNat,Int.reduceEq,Int.reduceNe,Int.reduceLT,Int.reduceLE,Int.reduceBEq,Int.reduceAdd,Int.reduceSub,Int.reduceMul,hP,hW]
      exact ⟨_, rfl, by rw [← hv, vld_end hlt]⟩

theorem t_Letters (hm : Tryd.prog.follows .mixedOrders = true) (W0 : World) (S : List SO) {ls : List ByteArray} (h : Ls ls) (hb : Big (bytes ls)) : CtP Tryd.prog W0 n_ref01_Letters [.raw (.string (cat ls))] S (fun d => ∃ es, d = .lst 1 false es ∧ es.length = ls.length) := by
  refine Ct_R k_ref01_Letters 400 (.mk [.mk (.raw (.string (cat ls))) .junk .junk .junk .junk .junk .junk .junk, .mk .junk .junk .junk .junk .junk .junk .junk .junk] [.junk, .junk, .junk, .junk, .junk]) rfl rfl fun r hP hW hpan hret => ?_
  simp only [c_ref01_Letters, ev,evA,true_and,and_true,and_self,if_true,if_false,reduceIte,ne_eq,forall_const,false_implies,beq_self_eq_true,decide_true,decide_false,Int.cast_ofNat_Int,Nat.reduceAdd,Nat.reduceLT,Nat.reduceLeDiff,Nat.reduceEqDiff,Nat.reduceBEq,Nat.reduceMul,Nat.reduceSub,Int.reduceToNat,Int.reduceEq,Int.reduceNe,Int.reduceLT,Int.reduceLE,Int.reduceBEq,Int.reduceAdd,Int.reduceSub,Int.reduceMul,hP,hW]
  try simp only [ev,evA,true_and,and_true,and_self,if_true,if_false,reduceIte,ne_eq,forall_const,false_implies,beq_self_eq_true,decide_true,decide_false,Int.cast_ofNat_Int,Nat.reduceAdd,Nat.reduceLT,Nat.reduceLeDiff,Nat.reduceEqDiff,Nat.reduceBEq,Nat.reduceMul,Nat.reduceSub,Int.reduceToNat,Int.reduceEq,Int.reduceNe,Int.reduceLT,Int.reduceLE,Int.reduceBEq,Int.reduceAdd,Int.reduceSub,Int.reduceMul,hP,hW]
  have hl := h.len_le
  unfold Big bytes at hb
  refine SX_lp (α := Nat × Nat × List (List DV)) (fun (k, _, es) => k ≤ ls.length ∧ es.length = k) (fun (k, g, es) => (.mk [.mk (.raw (.string (cat (ls.drop k)))) .junk (.raw (.slice none 0 0)) (.row S.length g 1 0 k) .junk .junk .junk .junk, .mk .junk .junk .junk .junk .junk .junk .junk .junk] [.junk, .junk, .junk, .junk, .junk])) (fun (k, g, es) => S ++ [.row g 1 es]) (fun (k, _) => ls.length - k) 200 ?_ ?_
  · refine Cv.ex S.length (.mk [.mk (.raw (.string (cat ls))) .junk (.raw (.slice none 0 0)) (.raw (.slice none 0 0)) .junk .junk .junk .junk, .mk .junk .junk .junk .junk .junk .junk .junk .junk] [.junk, .junk, .junk, .junk, .junk]) _ ?_ (take_all (Nat.le_refl _)) ?_
    · simp [rlE, rlRs, rlR, rlL, DV.le]
    refine Cv.nil 1 (fun g => (.mk [.mk (.raw (.string (cat ls))) .junk (.raw (.slice none 0 0)) (.row S.length g 1 0 0) .junk .junk .junk .junk, .mk .junk .junk .junk .junk .junk .junk .junk .junk] [.junk, .junk, .junk, .junk, .junk])) (fun g => _) ?_ (fun g => rlS_refl _) (fun g => Cv.done ⟨(0, g, []), ⟨Nat.zero_le _, rfl⟩, rfl, rfl⟩)
    intro g; simp [rlE, rlRs, rlR, rlL, nlD]
  · rintro ⟨k, g, es⟩ ⟨hk, hes⟩
    subst hes
    have hsz := cat_size ls es.length
    by_cases hlt : es.length < ls.length
    · have hd := h.drop es.length
      have hpos := hd.size_pos (by intro e; have := congrArg List.length e; simp at this; omega)
      have hne : (cat (ls.drop es.length) = "".toUTF8) = False := by simp only [eq_iff_iff, iff_false]; intro e; rw [e] at hpos; exact absurd hpos (by decide)
      try simp only [hne, ev,evA,true_and,and_true,and_self,if_true,if_false,reduceIte,ne_eq,forall_const,false_implies,beq_self_eq_true,decide_true,decide_false,Int.cast_ofNat_Int,Nat.reduceAdd,Nat.reduceLT,Nat.reduceLeDiff,Nat.reduceEqDiff,Nat.reduceBEq,Nat.reduceMul,Nat.reduceSub,Int.reduceToNat,Int.reduceEq,Int.reduceNe,Int.reduceLT,Int.reduceLE,Int.reduceBEq,Int.reduceAdd,Int.reduceSub,Int.reduceMul,hP,hW]
      refine callE _ (fun S2 => t_size hm W0 S2 (cat (ls.drop es.length)) hpos (by unfold Big; omega)) (by try simp only [ev,evA,true_and,and_true,and_self,if_true,if_false,reduceIte,ne_eq,forall_const,false_implies,beq_self_eq_true,decide_true,decide_false,Int.cast_ofNat_Int,Nat.reduceAdd,Nat.reduceLT,Nat.reduceLeDiff,Nat.reduceEqDiff,Nat.reduceBEq,Nat.reduceMul,Nat.reduceSub,Int.reduceToNat,Int.reduceEq,Int.reduceNe,Int.reduceLT,Int.reduceLE,Int.reduceBEq,Int.reduceAdd,Int.reduceSub,Int.reduceMul,hP,hW]) ?_
      have hw : (Utf8.decode (cat (ls.drop es.length)) 0).2 = off (ls.drop es.length) 1 := by
        have := width_at hd (k := 0) (by simp; omega)
        simpa [off_zero] using this
      have hx := extract_from (ls.drop es.length) 1
      have ho := off_le (ls.drop es.length) 1
      rw [List.drop_drop, ← hw] at hx
      have s1 : ((0 : Int) ≤ ((Utf8.decode (cat (ls.drop es.length)) 0).2 : Int)) = True := by simp
      have s2 : (((Utf8.decode (cat (ls.drop es.length)) 0).2 : Int) ≤ ((cat (ls.drop es.length)).size : Int)) = True := by simp only [eq_iff_iff, iff_true]; omega
      try simp only [s1, s2, hx, ev,evA,true_and,and_true,and_self,if_true,if_false,reduceIte,ne_eq,forall_const,false_implies,beq_self_eq_true,decide_true,decide_false,Int.cast_ofNat_Int,Nat.reduceAdd,Nat.reduceLT,Nat.reduceLeDiff,Nat.reduceEqDiff,Nat.reduceBEq,Nat.reduceMul,Nat.reduceSub,Int.reduceToNat,Int.reduceEq,Int.reduceNe,Int.reduceLT,Int.reduceLE,Int.reduceBEq,Int.reduceAdd,Int.reduceSub,Int.reduceMul,hP,hW]
      intro g1
      refine ⟨⟨by omega, by omega⟩, fun g2 => ?_⟩
      refine Cv.ex (S.length + 1) _ _ ?_ (take_append1 _ _ _) (Cv.done ⟨(es.length + 1, g2, es ++ [[.raw (.int .i32 ((Utf8.decode (cat (ls.drop es.length)) 0).1 : Nat))]]), ⟨hlt, by simp⟩, by simp only; omega, rfl, rfl⟩)
      simp [rlE, rlRs, rlR, rlL, DV.le]
    · have hk' : es.length = ls.length := by omega
      have hne : (cat (ls.drop es.length) = "".toUTF8) = True := by rw [hk']; simp [cat]
      try simp only [hne, ev,evA,true_and,and_true,and_self,if_true,if_false,reduceIte,ne_eq,forall_const,false_implies,beq_self_eq_true,decide_true,decide_false,Int.cast_ofNat_Int,Nat.reduceAdd,Nat.reduceLT,Nat.reduceLeDiff,Nat.reduceEqDiff,Nat.reduceBEq,Nat.reduceMul,Nat.reduceSub,Int.reduceToNat,Int.reduceEq,Int.reduceNe,Int.reduceLT,Int.reduceLE,Int.reduceBEq,Int.reduceAdd,Int.reduceSub,Int.reduceMul,hP,hW]
      refine hret _ _ S.length 5 ?_
      simp only [r_ref01_Letters, ev,evA,true_and,and_true,and_self,if_true,if_false,reduceIte,ne_eq,forall_const,false_implies,beq_self_eq_true,decide_true,decide_false,Int.cast_ofNat_Int,Nat.reduceAdd,Nat.reduceLT,Nat.reduceLeDiff,Nat.reduceEqDiff,Nat.reduceBEq,Nat.reduceMul,Nat.reduceSub,Int.reduceToNat,Int.reduceEq,Int.reduceNe,Int.reduceLT,Int.reduceLE,Int.reduceBEq,Int.reduceAdd,Int.reduceSub,Int.reduceMul,hP,hW]
      exact ⟨_, rfl, ⟨_, rfl, by simpa using hk'⟩⟩

theorem t_refCount (hm : Tryd.prog.follows .mixedOrders = true) (W0 : World) (S : List SO) {ls : List ByteArray} (h : Ls ls) (hb : Big (bytes ls)) : CtP Tryd.prog W0 n_ref01_Count [.raw (.string (cat ls))] S (fun d => d = .raw (.int .i64 ls.length)) := by
  refine Ct_R k_ref01_Count 400 (.mk [] [(.raw (.string (cat ls))), .junk, .junk, .junk, .junk, .junk]) rfl rfl fun r hP hW hpan hret => ?_
  simp only [c_ref01_Count, ev,evA,true_and,and_true,and_self,if_true,if_false,reduceIte,ne_eq,forall_const,false_implies,beq_self_eq_true,decide_true,decide_false,Int.cast_ofNat_Int,Nat.reduceAdd,Nat.reduceLT,Nat.reduceLeDiff,Nat.reduceEqDiff,Nat.reduceBEq,Nat.reduceMul,Nat.reduceSub,Int.reduceToNat,Int.reduceEq,Int.reduceNe,Int.reduceLT,Int.reduceLE,Int.reduceBEq,Int.reduceAdd,Int.reduceSub,Int.reduceMul,hP,hW]
  refine callQ _ (fun S2 => t_Letters hm W0 S2 h hb) ⟨.lst 1 false (ls.map fun _ => []), _, rfl, by simp⟩ (by try simp only [ev,evA,true_and,and_true,and_self,if_true,if_false,reduceIte,ne_eq,forall_const,false_implies,beq_self_eq_true,decide_true,decide_false,Int.cast_ofNat_Int,Nat.reduceAdd,Nat.reduceLT,Nat.reduceLeDiff,Nat.reduceEqDiff,Nat.reduceBEq,Nat.reduceMul,Nat.reduceSub,Int.reduceToNat,Int.reduceEq,Int.reduceNe,Int.reduceLT,Int.reduceLE,Int.reduceBEq,Int.reduceAdd,Int.reduceSub,Int.reduceMul,hP,hW]) ?_
  rintro d ⟨es, rfl, he⟩
  try simp only [ev,evA,true_and,and_true,and_self,if_true,if_false,reduceIte,ne_eq,forall_const,false_implies,beq_self_eq_true,decide_true,decide_false,Int.cast_ofNat_Int,Nat.reduceAdd,Nat.reduceLT,Nat.reduceLeDiff,Nat.reduceEqDiff,Nat.reduceBEq,Nat.reduceMul,Nat.reduceSub,Int.reduceToNat,Int.reduceEq,Int.reduceNe,Int.reduceLT,Int.reduceLE,Int.reduceBEq,Int.reduceAdd,Int.reduceSub,Int.reduceMul,hP,hW]
  refine hret _ _ S.length 5 ?_
  simp only [r_ref01_Count, ev,evA,true_and,and_true,and_self,if_true,if_false,reduceIte,ne_eq,forall_const,false_implies,beq_self_eq_true,decide_true,decide_false,Int.cast_ofNat_Int,Nat.reduceAdd,Nat.reduceLT,Nat.reduceLeDiff,Nat.reduceEqDiff,Nat.reduceBEq,Nat.reduceMul,Nat.reduceSub,Int.reduceToNat,Int.reduceEq,Int.reduceNe,Int.reduceLT,Int.reduceLE,Int.reduceBEq,Int.reduceAdd,Int.reduceSub,Int.reduceMul,hP,hW]
  exact ⟨_, rfl, by rw [he]⟩

theorem t_refByte (hm : Tryd.prog.follows .mixedOrders = true) (W0 : World) (S : List SO) {ls : List ByteArray} (h : Ls ls) (hb : Big (bytes ls)) (at_ : Int) : CtP Tryd.prog W0 n_ref01_Byte [.raw (.string (cat ls)), .raw (.int .i64 at_)] S (fun d => d = .raw (.int .i64 (off ls at_.toNat))) := by
  refine Ct_R k_ref01_Byte 400 (.mk [.mk (.raw (.string (cat ls))) (.raw (.int .i64 at_)) .junk .junk .junk .junk .junk .junk, .mk .junk .junk .junk .junk .junk .junk .junk .junk, .mk .junk .junk .junk .junk .junk .junk .junk .junk] [.junk, .junk, .junk, .junk, .junk, .junk, .junk]) rfl rfl fun r hP hW hpan hret => ?_
  simp only [c_ref01_Byte, ev,evA,true_and,and_true,and_self,if_true,if_false,reduceIte,ne_eq,forall_const,false_implies,beq_self_eq_true,decide_true,decide_false,Int.cast_ofNat_Int,Nat.reduceAdd,Nat.reduceLT,Nat.reduceLeDiff,Nat.reduceEqDiff,Nat.reduceBEq,Nat.reduceMul,Nat.reduceSub,Int.reduceToNat,Int.reduceEq,Int.reduceNe,Int.reduceLT,Int.reduceLE,Int.reduceBEq,Int.reduceAdd,Int.reduceSub,Int.reduceMul,hP,hW]
  have hl := h.len_le
  unfold Big bytes at hb
  refine SX_lp (α := Nat) (fun k => k ≤ ls.length ∧ k ≤ at_.toNat) (fun k => (.mk [.mk (.raw (.string (cat ls))) (.raw (.int .i64 at_)) .junk .junk .junk (.raw (.int .i64 (off ls k))) (.raw (.int .i64 k)) .junk, .mk .junk .junk .junk .junk .junk .junk .junk .junk, .mk .junk .junk .junk .junk .junk .junk .junk .junk] [.junk, .junk, .junk, .junk, .junk, .junk, .junk])) (fun k => S) (fun k => ls.length - k) 200 ?_ ?_
  · refine Cv.ex S.length _ _ ?_ (take_all (Nat.le_refl _)) (Cv.done ⟨0, ⟨Nat.zero_le _, Nat.zero_le _⟩, rfl, rfl⟩)
    simp [rlE, rlRs, rlR, rlL, DV.le, off_zero]
  · rintro k ⟨hk, hka⟩
    have hsz := cat_size ls k
    have stop : k = at_.toNat ∨ k = ls.length → off ls k = off ls at_.toNat := by
      rintro (h1 | h1)
      · rw [h1]
      · rw [off_all (by omega), off_all (by omega)]
    by_cases h1 : (k : Int) < at_
    · try simp only [decide_eq_true h1, ev,evA,true_and,and_true,and_self,if_true,if_false,reduceIte,ne_eq,forall_const,false_implies,beq_self_eq_true,decide_true,decide_false,Int.cast_ofNat_Int,Nat.reduceAdd,Nat.reduceLT,Nat.reduceLeDiff,Nat.reduceEqDiff,Nat.reduceBEq,Nat.reduceMul,Nat.reduceSub,Int.reduceToNat,Int.reduceEq,Int.reduceNe,Int.reduceLT,Int.reduceLE,Int.reduceBEq,Int.reduceAdd,Int.reduceSub,Int.reduceMul,hP,hW]
      by_cases h2 : k < ls.length
      · have ho := off_lt h h2
        have hd := h.drop k
        have hpos := hd.size_pos (by intro e; have := congrArg List.length e; simp at this; omega)
        have hx := extract_from ls k
        have d2 : decide ((off ls k : Int) < ((cat ls).size : Int)) = true := decide_eq_true (by omega)
        have s1 : ((0 : Int) ≤ (off ls k : Int)) = True := by simp
        have s2 : ((off ls k : Int) ≤ ((cat ls).size : Int)) = True := by simp only [eq_iff_iff, iff_true]; omega
        try simp only [d2, s1, s2, hx, ev,evA,true_and,and_true,and_self,if_true,if_false,reduceIte,ne_eq,forall_const,false_implies,beq_self_eq_true,decide_true,decide_false,Int.cast_ofNat_Int,Nat.reduceAdd,Nat.reduceLT,Nat.reduceLeDiff,Nat.reduceEqDiff,Nat.reduceBEq,Nat.reduceMul,Nat.reduceSub,Int.reduceToNat,Int.reduceEq,Int.reduceNe,Int.reduceLT,Int.reduceLE,Int.reduceBEq,Int.reduceAdd,Int.reduceSub,Int.reduceMul,hP,hW]
        refine callE _ (fun S2 => t_size hm W0 S2 (cat (ls.drop k)) hpos (by unfold Big; omega)) (by try simp only [ev,evA,true_and,and_true,and_self,if_true,if_false,reduceIte,ne_eq,forall_const,false_implies,beq_self_eq_true,decide_true,decide_false,Int.cast_ofNat_Int,Nat.reduceAdd,Nat.reduceLT,Nat.reduceLeDiff,Nat.reduceEqDiff,Nat.reduceBEq,Nat.reduceMul,Nat.reduceSub,Int.reduceToNat,Int.reduceEq,Int.reduceNe,Int.reduceLT,Int.reduceLE,Int.reduceBEq,Int.reduceAdd,Int.reduceSub,Int.reduceMul,hP,hW]) ?_
        have hw := width_at h h2
        have hd0 : Utf8.decode (cat (ls.drop k)) 0 = Utf8.decode (cat ls) (off ls k) := by
          have e1 := decode_at hd (k := 0) (by simp; omega)
          rw [off_zero] at e1
          rw [e1, decode_at h h2]; simp
        have hle := off_le ls (k + 1)
        have w1 : IntKind.i64.wrap ((off ls k : Int) + ((Utf8.decode (cat ls) (off ls k)).2 : Int)) = (off ls (k + 1) : Int) := by rw [wrap_id (by omega) (by omega)]; omega
        have w2 : IntKind.i64.wrap ((k : Int) + 1) = ((k + 1 : Nat) : Int) := by rw [wrap_id (by omega) (by omega)]; omega
        try simp only [hd0, w1, w2, ev,evA,true_and,and_true,and_self,if_true,if_false,reduceIte,ne_eq,forall_const,false_implies,beq_self_eq_true,decide_true,decide_false,Int.cast_ofNat_Int,Nat.reduceAdd,Nat.reduceLT,Nat.reduceLeDiff,Nat.reduceEqDiff,Nat.reduceBEq,Nat.reduceMul,Nat.reduceSub,Int.reduceToNat,Int.reduceEq,Int.reduceNe,Int.reduceLT,Int.reduceLE,Int.reduceBEq,Int.reduceAdd,Int.reduceSub,Int.reduceMul,hP,hW]
        refine Cv.ex S.length _ _ ?_ (take_all (Nat.le_refl _)) (Cv.done ⟨k + 1, ⟨h2, by omega⟩, by omega, rfl, rfl⟩)
        simp [rlE, rlRs, rlR, rlL, DV.le]
      · have ho := off_all (ls := ls) (k := k) (by omega)
        have d2 : decide ((off ls k : Int) < ((cat ls).size : Int)) = false := decide_eq_false (by omega)
        try simp only [d2, ev,evA,true_and,and_true,and_self,if_true,if_false,reduceIte,ne_eq,forall_const,false_implies,beq_self_eq_true,decide_true,decide_false,Int.cast_ofNat_Int,Nat.reduceAdd,Nat.reduceLT,Nat.reduceLeDiff,Nat.reduceEqDiff,Nat.reduceBEq,Nat.reduceMul,Nat.reduceSub,Int.reduceToNat,Int.reduceEq,Int.reduceNe,Int.reduceLT,Int.reduceLE,Int.reduceBEq,Int.reduceAdd,Int.reduceSub,Int.reduceMul,hP,hW]
        refine hret _ _ S.length 5 ?_
        simp only [r_ref01_Byte, ev,evA,true_and,and_true,and_self,if_true,if_false,reduceIte,ne_eq,forall_const,false_implies,beq_self_eq_true,decide_true,decide_false,Int.cast_ofNat_Int,Nat.reduceAdd,Nat.reduceLT,Nat.reduceLeDiff,Nat.reduceEqDiff,Nat.reduceBEq,Nat.reduceMul,Nat.reduceSub,Int.reduceToNat,Int.reduceEq,Int.reduceNe,Int.reduceLT,Int.reduceLE,Int.reduceBEq,Int.reduceAdd,Int.reduceSub,Int.reduceMul,hP,hW]
        exact ⟨_, rfl, by rw [stop (.inr (by omega))]⟩
    · try simp only [decide_eq_false h1, ev,evA,true_and,and_true,and_self,if_true,if_false,reduceIte,ne_eq,forall_const,false_implies,beq_self_eq_true,decide_true,decide_false,Int.cast_ofNat_Int,Nat.reduceAdd,Nat.reduceLT,Nat.reduceLeDiff,Nat.reduceEqDiff,Nat.reduceBEq,Nat.reduceMul,Nat.reduceSub,Int.reduceToNat,Int.reduceEq,Int.reduceNe,Int.reduceLT,Int.reduceLE,Int.reduceBEq,Int.reduceAdd,Int.reduceSub,Int.reduceMul,hP,hW]
      refine hret _ _ S.length 5 ?_
      simp only [r_ref01_Byte, ev,evA,true_and,and_true,and_self,if_true,if_false,reduceIte,ne_eq,forall_const,false_implies,beq_self_eq_true,decide_true,decide_false,Int.cast_ofNat_Int,Nat.reduceAdd,Nat.reduceLT,Nat.reduceLeDiff,Nat.reduceEqDiff,Nat.reduceBEq,Nat.reduceMul,Nat.reduceSub,Int.reduceToNat,Int.reduceEq,Int.reduceNe,Int.reduceLT,Int.reduceLE,Int.reduceBEq,Int.reduceAdd,Int.reduceSub,Int.reduceMul,hP,hW]
      exact ⟨_, rfl, by rw [stop (.inl (by omega))]⟩

theorem t_refCut (hm : Tryd.prog.follows .mixedOrders = true) (W0 : World) (S : List SO) {ls : List ByteArray} (h : Ls ls) (hb : Big (bytes ls)) (fr to : Int) : CtP Tryd.prog W0 n_ref01_Cut [.raw (.string (cat ls)), .raw (.int .i64 fr), .raw (.int .i64 to)] S (fun d => d = .raw (.string (cat ((ls.take to.toNat).drop fr.toNat)))) := by
  refine Ct_R k_ref01_Cut 400 (.mk [.mk (.raw (.string (cat ls))) (.raw (.int .i64 fr)) (.raw (.int .i64 to)) .junk .junk .junk .junk .junk, .mk .junk .junk .junk .junk .junk .junk .junk .junk] [.junk, .junk, .junk, .junk, .junk, .junk]) rfl rfl fun r hP hW hpan hret => ?_
  simp only [c_ref01_Cut, ev,evA,true_and,and_true,and_self,if_true,if_false,reduceIte,ne_eq,forall_const,false_implies,beq_self_eq_true,decide_true,decide_false,Int.cast_ofNat_Int,Nat.reduceAdd,Nat.reduceLT,Nat.reduceLeDiff,Nat.reduceEqDiff,Nat.reduceBEq,Nat.reduceMul,Nat.reduceSub,Int.reduceToNat,Int.reduceEq,Int.reduceNe,Int.reduceLT,Int.reduceLE,Int.reduceBEq,Int.reduceAdd,Int.reduceSub,Int.reduceMul,hP,hW]
  try simp only [hm, ev,evA,true_and,and_true,and_self,if_true,if_false,reduceIte,ne_eq,forall_const,false_implies,beq_self_eq_true,decide_true,decide_false,Int.cast_ofNat_Int,Nat.reduceAdd,Nat.reduceLT,Nat.reduceLeDiff,Nat.reduceEqDiff,Nat.reduceBEq,Nat.reduceMul,Nat.reduceSub,Int.reduceToNat,Int.reduceEq,Int.reduceNe,Int.reduceLT,Int.reduceLE,Int.reduceBEq,Int.reduceAdd,Int.reduceSub,Int.reduceMul,hP,hW]
  refine callE _ (fun S2 => t_refByte hm W0 S2 h hb fr) (by try simp only [ev,evA,true_and,and_true,and_self,if_true,if_false,reduceIte,ne_eq,forall_const,false_implies,beq_self_eq_true,decide_true,decide_false,Int.cast_ofNat_Int,Nat.reduceAdd,Nat.reduceLT,Nat.reduceLeDiff,Nat.reduceEqDiff,Nat.reduceBEq,Nat.reduceMul,Nat.reduceSub,Int.reduceToNat,Int.reduceEq,Int.reduceNe,Int.reduceLT,Int.reduceLE,Int.reduceBEq,Int.reduceAdd,Int.reduceSub,Int.reduceMul,hP,hW]) ?_
  try simp only [hm, ev,evA,true_and,and_true,and_self,if_true,if_false,reduceIte,ne_eq,forall_const,false_implies,beq_self_eq_true,decide_true,decide_false,Int.cast_ofNat_Int,Nat.reduceAdd,Nat.reduceLT,Nat.reduceLeDiff,Nat.reduceEqDiff,Nat.reduceBEq,Nat.reduceMul,Nat.reduceSub,Int.reduceToNat,Int.reduceEq,Int.reduceNe,Int.reduceLT,Int.reduceLE,Int.reduceBEq,Int.reduceAdd,Int.reduceSub,Int.reduceMul,hP,hW]
  refine callE _ (fun S2 => t_refByte hm W0 S2 h hb to) (by try simp only [ev,evA,true_and,and_true,and_self,if_true,if_false,reduceIte,ne_eq,forall_const,false_implies,beq_self_eq_true,decide_true,decide_false,Int.cast_ofNat_Int,Nat.reduceAdd,Nat.reduceLT,Nat.reduceLeDiff,Nat.reduceEqDiff,Nat.reduceBEq,Nat.reduceMul,Nat.reduceSub,Int.reduceToNat,Int.reduceEq,Int.reduceNe,Int.reduceLT,Int.reduceLE,Int.reduceBEq,Int.reduceAdd,Int.reduceSub,Int.reduceMul,hP,hW]) ?_
  try simp only [hm, ev,evA,true_and,and_true,and_self,if_true,if_false,reduceIte,ne_eq,forall_const,false_implies,beq_self_eq_true,decide_true,decide_false,Int.cast_ofNat_Int,Nat.reduceAdd,Nat.reduceLT,Nat.reduceLeDiff,Nat.reduceEqDiff,Nat.reduceBEq,Nat.reduceMul,Nat.reduceSub,Int.reduceToNat,Int.reduceEq,Int.reduceNe,Int.reduceLT,Int.reduceLE,Int.reduceBEq,Int.reduceAdd,Int.reduceSub,Int.reduceMul,hP,hW]
  refine Gc_dec (fun hc => ?_) (fun hc => ?_)
  · try simp only [ev,evA,true_and,and_true,and_self,if_true,if_false,reduceIte,ne_eq,forall_const,false_implies,beq_self_eq_true,decide_true,decide_false,Int.cast_ofNat_Int,Nat.reduceAdd,Nat.reduceLT,Nat.reduceLeDiff,Nat.reduceEqDiff,Nat.reduceBEq,Nat.reduceMul,Nat.reduceSub,Int.reduceToNat,Int.reduceEq,Int.reduceNe,Int.reduceLT,Int.reduceLE,Int.reduceBEq,Int.reduceAdd,Int.reduceSub,Int.reduceMul,hP,hW]
    refine hret _ _ S.length 5 ?_
    simp only [r_ref01_Cut, ev,evA,true_and,and_true,and_self,if_true,if_false,reduceIte,ne_eq,forall_const,false_implies,beq_self_eq_true,decide_true,decide_false,Int.cast_ofNat_Int,Nat.reduceAdd,Nat.reduceLT,Nat.reduceLeDiff,Nat.reduceEqDiff,Nat.reduceBEq,Nat.reduceMul,Nat.reduceSub,Int.reduceToNat,Int.reduceEq,Int.reduceNe,Int.reduceLT,Int.reduceLE,Int.reduceBEq,Int.reduceAdd,Int.reduceSub,Int.reduceMul,hP,hW]
    refine ⟨_, rfl, ?_⟩
    rcases Nat.lt_or_ge fr.toNat to.toNat with h1 | h1
    · have h2 := off_mono ls (Nat.le_of_lt h1)
      have h3 : off ls fr.toNat = off ls to.toNat := by omega
      have h4 := extract_off ls (Nat.le_of_lt h1)
      rw [← h4, h3]; simp
    · rw [List.drop_eq_nil_of_le (by simp; omega)]; rfl
  · try simp only [ev,evA,true_and,and_true,and_self,if_true,if_false,reduceIte,ne_eq,forall_const,false_implies,beq_self_eq_true,decide_true,decide_false,Int.cast_ofNat_Int,Nat.reduceAdd,Nat.reduceLT,Nat.reduceLeDiff,Nat.reduceEqDiff,Nat.reduceBEq,Nat.reduceMul,Nat.reduceSub,Int.reduceToNat,Int.reduceEq,Int.reduceNe,Int.reduceLT,Int.reduceLE,Int.reduceBEq,Int.reduceAdd,Int.reduceSub,Int.reduceMul,hP,hW]
    have h1 : fr.toNat ≤ to.toNat := by
      rcases Nat.le_total fr.toNat to.toNat with h1 | h1
      · exact h1
      · have := off_mono ls h1; omega
    have hle := off_le ls to.toNat
    have e1 : ((0 : Int) ≤ (off ls fr.toNat : Int)) = True := by simp
    try simp only [e1, extract_off ls h1, ev,evA,true_and,and_true,and_self,if_true,if_false,reduceIte,ne_eq,forall_const,false_implies,beq_self_eq_true,decide_true,decide_false,Int.cast_ofNat_Int,Nat.reduceAdd,Nat.reduceLT,Nat.reduceLeDiff,Nat.reduceEqDiff,Nat.reduceBEq,Nat.reduceMul,Nat.reduceSub,Int.reduceToNat,Int.reduceEq,Int.reduceNe,Int.reduceLT,Int.reduceLE,Int.reduceBEq,Int.reduceAdd,Int.reduceSub,Int.reduceMul,hP,hW]
    refine ⟨by omega, ?_⟩
    refine hret _ _ S.length 5 ?_
    simp only [r_ref01_Cut, ev,evA,true_and,and_true,and_self,if_true,if_false,reduceIte,ne_eq,forall_const,false_implies,beq_self_eq_true,decide_true,decide_false,Int.cast_ofNat_Int,Nat.reduceAdd,Nat.reduceLT,Nat.reduceLeDiff,Nat.reduceEqDiff,Nat.reduceBEq,Nat.reduceMul,Nat.reduceSub,Int.reduceToNat,Int.reduceEq,Int.reduceNe,Int.reduceLT,Int.reduceLE,Int.reduceBEq,Int.reduceAdd,Int.reduceSub,Int.reduceMul,hP,hW]
    exact ⟨_, rfl, rfl⟩
end Go.Dv
/-
  The document's marks: right?
-/
namespace Go.Dv
open Go Go.RowKit Go.Proofs
set_option linter.unusedSimpArgs false
set_option linter.unusedVariables false
set_option maxRecDepth 8000

theorem t_ref4Right (hm : Tryd.prog.follows .mixedOrders = true) (W0 : World) (S : List SO) (f1 f2 : Bool) (l : List Sp) (q : List Si) (n : Int) (hl : l.length ≤ 1099511627776) (hq : q.length ≤ 1099511627776) : CtP Tryd.prog W0 n_ref04_Right [.agg [.lst 3 f1 (encSp l), .lst 2 f2 (encSi q)], .raw (.int .i64 n)] S
    (fun d => ∃ b : Bool, d = .raw (.bool b) ∧ (b = true ↔ RS n 0 0 l ∧ QS n q)) := by
  refine Ct_R k_ref04_Right 400 (.mk [.mk (.agg [.lst 3 f1 (encSp l), .lst 2 f2 (encSi q)]) (.raw (.int .i64 n)) .junk .junk .junk .junk .junk .junk, .mk .junk .junk .junk .junk .junk .junk .junk .junk, .mk .junk .junk .junk .junk .junk .junk .junk .junk, .mk .junk .junk .junk .junk .junk .junk .junk .junk, .mk .junk .junk .junk .junk .junk .junk .junk .junk, .mk .junk .junk .junk .junk .junk .junk .junk .junk, .mk .junk .junk .junk .junk .junk .junk .junk .junk, .mk .junk .junk .junk .junk .junk .junk .junk .junk, .mk .junk .junk .junk .junk .junk .junk .junk .junk, .mk .junk .junk .junk .junk .junk .junk .junk .junk, .mk .junk .junk .junk .junk .junk .junk .junk .junk, .mk .junk .junk .junk .junk .junk .junk .junk .junk, .mk .junk .junk .junk .junk .junk .junk .junk .junk, .mk .junk .junk .junk .junk .junk .junk .junk .junk, .mk .junk .junk .junk .junk .junk .junk .junk .junk, .mk .junk .junk .junk .junk .junk .junk .junk .junk, .mk .junk .junk .junk .junk .junk .junk .junk .junk, .mk .junk .junk .junk .junk .junk .junk .junk .junk] []) rfl rfl fun r hP hW hpan hret => ?_
  simp only [c_ref04_Right, ev,evA,true_and,and_true,and_self,if_true,if_false,reduceIte,ne_eq,forall_const,false_implies,beq_self_eq_true,decide_true,decide_false,Int.cast_ofNat_Int,Nat.reduceAdd,Nat.reduceLT,Nat.reduceLeDiff,Nat.reduceEqDiff,Nat.reduceBEq,Nat.reduceMul,Nat.reduceSub,Int.reduceToNat,Int.reduceEq,Int.reduceNe,Int.reduceLT,Int.reduceLE,Int.reduceBEq,Int.reduceAdd,Int.reduceSub,Int.reduceMul,hP,hW]
  intro g
  try simp only [hm, encSp_len, ev,evA,true_and,and_true,and_self,if_true,if_false,reduceIte,ne_eq,forall_const,false_implies,beq_self_eq_true,decide_true,decide_false,Int.cast_ofNat_Int,Nat.reduceAdd,Nat.reduceLT,Nat.reduceLeDiff,Nat.reduceEqDiff,Nat.reduceBEq,Nat.reduceMul,Nat.reduceSub,Int.reduceToNat,Int.reduceEq,Int.reduceNe,Int.reduceLT,Int.reduceLE,Int.reduceBEq,Int.reduceAdd,Int.reduceSub,Int.reduceMul,hP,hW]
  refine SX_lp (α := Nat) (fun k => k ≤ l.length ∧ RS n 0 0 (l.take k)) (fun k => (.mk [.mk (.agg [.lst 3 f1 (encSp l), .lst 2 f2 (encSi q)]) (.raw (.int .i64 n)) (.loc S.length (g 0) 0) .junk (.raw (.bool false)) (.raw (.int .i64 k)) .junk .junk, .mk .junk .junk .junk .junk .junk .junk .junk .junk, .mk .junk .junk .junk .junk .junk .junk .junk .junk, .mk .junk .junk .junk .junk .junk .junk .junk .junk, .mk .junk .junk .junk .junk .junk .junk .junk .junk, .mk .junk .junk .junk .junk .junk .junk .junk .junk, .mk .junk .junk .junk .junk .junk .junk .junk .junk, .mk .junk .junk .junk .junk .junk .junk .junk .junk, .mk .junk .junk .junk .junk .junk .junk .junk .junk, .mk .junk .junk .junk .junk .junk .junk .junk .junk, .mk .junk .junk .junk .junk .junk .junk .junk .junk, .mk .junk .junk .junk .junk .junk .junk .junk .junk, .mk .junk .junk .junk .junk .junk .junk .junk .junk, .mk .junk .junk .junk .junk .junk .junk .junk .junk, .mk .junk .junk .junk .junk .junk .junk .junk .junk, .mk .junk .junk .junk .junk .junk .junk .junk .junk, .mk .junk .junk .junk .junk .junk .junk .junk .junk, .mk .junk .junk .junk .junk .junk .junk .junk .junk] [])) (fun k => S ++ [.cells (g 0) [.lst 3 f1 (encSp l), .lst 2 f2 (encSi q)]]) (fun k => l.length - k) 200 ?_ ?_
  · refine Cv.ex (S.length + 1) _ _ ?_ (take_all (by simp)) (Cv.done ⟨0, ⟨Nat.zero_le _, trivial⟩, rfl, rfl⟩)
    simp [rlE, rlRs, rlR, rlL, DV.le]
  · rintro k ⟨hk, hrs⟩
    by_cases hlt : k < l.length
    · have d1 : decide ((k : Int) < (l.length : Int)) = true := decide_eq_true (by omega)
      have c1 : (0 ≤ (k : Int) ∧ (k : Int) < (l.length : Int)) = True := by simp; omega
      have e1 := getD_sp hlt
      have w3 : IntKind.i64.wrap ((k : Int) + 1) = ((k + 1 : Nat) : Int) := by rw [wrap_id (by omega) (by omega)]; omega
      try simp only [d1, c1, encSp_len, ev,evA,true_and,and_true,and_self,if_true,if_false,reduceIte,ne_eq,forall_const,false_implies,beq_self_eq_true,decide_true,decide_false,Int.cast_ofNat_Int,Nat.reduceAdd,Nat.reduceLT,Nat.reduceLeDiff,Nat.reduceEqDiff,Nat.reduceBEq,Nat.reduceMul,Nat.reduceSub,Int.reduceToNat,Int.reduceEq,Int.reduceNe,Int.reduceLT,Int.reduceLE,Int.reduceBEq,Int.reduceAdd,Int.reduceSub,Int.reduceMul,hP,hW]
      intro s0
      try simp only [e1, ev,evA,true_and,and_true,and_self,if_true,if_false,reduceIte,ne_eq,forall_const,false_implies,beq_self_eq_true,decide_true,decide_false,Int.cast_ofNat_Int,Nat.reduceAdd,Nat.reduceLT,Nat.reduceLeDiff,Nat.reduceEqDiff,Nat.reduceBEq,Nat.reduceMul,Nat.reduceSub,Int.reduceToNat,Int.reduceEq,Int.reduceNe,Int.reduceLT,Int.reduceLE,Int.reduceBEq,Int.reduceAdd,Int.reduceSub,Int.reduceMul,hP,hW]
      by_cases h1 : l[k].m ≤ 0
      · try simp only [decide_eq_true h1, ev,evA,true_and,and_true,and_self,if_true,if_false,reduceIte,ne_eq,forall_const,false_implies,beq_self_eq_true,decide_true,decide_false,Int.cast_ofNat_Int,Nat.reduceAdd,Nat.reduceLT,Nat.reduceLeDiff,Nat.reduceEqDiff,Nat.reduceBEq,Nat.reduceMul,Nat.reduceSub,Int.reduceToNat,Int.reduceEq,Int.reduceNe,Int.reduceLT,Int.reduceLE,Int.reduceBEq,Int.reduceAdd,Int.reduceSub,Int.reduceMul,hP,hW]
        refine hret _ _ S.length 5 ?_
        simp only [r_ref04_Right, ev,evA,true_and,and_true,and_self,if_true,if_false,reduceIte,ne_eq,forall_const,false_implies,beq_self_eq_true,decide_true,decide_false,Int.cast_ofNat_Int,Nat.reduceAdd,Nat.reduceLT,Nat.reduceLeDiff,Nat.reduceEqDiff,Nat.reduceBEq,Nat.reduceMul,Nat.reduceSub,Int.reduceToNat,Int.reduceEq,Int.reduceNe,Int.reduceLT,Int.reduceLE,Int.reduceBEq,Int.reduceAdd,Int.reduceSub,Int.reduceMul,hP,hW]
        exact ⟨_, rfl, false, rfl, by simp only [Bool.false_eq_true, false_iff]; exact fun hh => absurd (RS_step hh.1 hlt) (by unfold SpOk; intro hh; omega)⟩
      by_cases h2 : l[k].f < 0
      · try simp only [decide_eq_false h1, decide_eq_true h2, ev,evA,true_and,and_true,and_self,if_true,if_false,reduceIte,ne_eq,forall_const,false_implies,beq_self_eq_true,decide_true,decide_false,Int.cast_ofNat_Int,Nat.reduceAdd,Nat.reduceLT,Nat.reduceLeDiff,Nat.reduceEqDiff,Nat.reduceBEq,Nat.reduceMul,Nat.reduceSub,Int.reduceToNat,Int.reduceEq,Int.reduceNe,Int.reduceLT,Int.reduceLE,Int.reduceBEq,Int.reduceAdd,Int.reduceSub,Int.reduceMul,hP,hW]
        refine hret _ _ S.length 5 ?_
        simp only [r_ref04_Right, ev,evA,true_and,and_true,and_self,if_true,if_false,reduceIte,ne_eq,forall_const,false_implies,beq_self_eq_true,decide_true,decide_false,Int.cast_ofNat_Int,Nat.reduceAdd,Nat.reduceLT,Nat.reduceLeDiff,Nat.reduceEqDiff,Nat.reduceBEq,Nat.reduceMul,Nat.reduceSub,Int.reduceToNat,Int.reduceEq,Int.reduceNe,Int.reduceLT,Int.reduceLE,Int.reduceBEq,Int.reduceAdd,Int.reduceSub,Int.reduceMul,hP,hW]
        exact ⟨_, rfl, false, rfl, by simp only [Bool.false_eq_true, false_iff]; exact fun hh => absurd (RS_step hh.1 hlt) (by unfold SpOk; intro hh; omega)⟩
      by_cases h3 : l[k].t ≤ l[k].f
      · try simp only [decide_eq_false h1, decide_eq_false h2, decide_eq_true h3, ev,evA,true_and,and_true,and_self,if_true,if_false,reduceIte,ne_eq,forall_const,false_implies,beq_self_eq_true,decide_true,decide_false,Int.cast_ofNat_Int,Nat.reduceAdd,Nat.reduceLT,Nat.reduceLeDiff,Nat.reduceEqDiff,Nat.reduceBEq,Nat.reduceMul,Nat.reduceSub,Int.reduceToNat,Int.reduceEq,Int.reduceNe,Int.reduceLT,Int.reduceLE,Int.reduceBEq,Int.reduceAdd,Int.reduceSub,Int.reduceMul,hP,hW]
        refine hret _ _ S.length 5 ?_
        simp only [r_ref04_Right, ev,evA,true_and,and_true,and_self,if_true,if_false,reduceIte,ne_eq,forall_const,false_implies,beq_self_eq_true,decide_true,decide_false,Int.cast_ofNat_Int,Nat.reduceAdd,Nat.reduceLT,Nat.reduceLeDiff,Nat.reduceEqDiff,Nat.reduceBEq,Nat.reduceMul,Nat.reduceSub,Int.reduceToNat,Int.reduceEq,Int.reduceNe,Int.reduceLT,Int.reduceLE,Int.reduceBEq,Int.reduceAdd,Int.reduceSub,Int.reduceMul,hP,hW]
        exact ⟨_, rfl, false, rfl, by simp only [Bool.false_eq_true, false_iff]; exact fun hh => absurd (RS_step hh.1 hlt) (by unfold SpOk; intro hh; omega)⟩
      by_cases h4 : n < l[k].t
      · try simp only [decide_eq_false h1, decide_eq_false h2, decide_eq_false h3, decide_eq_true h4, ev,evA,true_and,and_true,and_self,if_true,if_false,reduceIte,ne_eq,forall_const,false_implies,beq_self_eq_true,decide_true,decide_false,Int.cast_ofNat_Int,Nat.reduceAdd,Nat.reduceLT,Nat.reduceLeDiff,Nat.reduceEqDiff,Nat.reduceBEq,Nat.reduceMul,Nat.reduceSub,Int.reduceToNat,Int.reduceEq,Int.reduceNe,Int.reduceLT,Int.reduceLE,Int.reduceBEq,Int.reduceAdd,Int.reduceSub,Int.reduceMul,hP,hW]
        refine hret _ _ S.length 5 ?_
        simp only [r_ref04_Right, ev,evA,true_and,and_true,and_self,if_true,if_false,reduceIte,ne_eq,forall_const,false_implies,beq_self_eq_true,decide_true,decide_false,Int.cast_ofNat_Int,Nat.reduceAdd,Nat.reduceLT,Nat.reduceLeDiff,Nat.reduceEqDiff,Nat.reduceBEq,Nat.reduceMul,Nat.reduceSub,Int.reduceToNat,Int.reduceEq,Int.reduceNe,Int.reduceLT,Int.reduceLE,Int.reduceBEq,Int.reduceAdd,Int.reduceSub,Int.reduceMul,hP,hW]
        exact ⟨_, rfl, false, rfl, by simp only [Bool.false_eq_true, false_iff]; exact fun hh => absurd (RS_step hh.1 hlt) (by unfold SpOk; intro hh; omega)⟩
      try simp only [decide_eq_false h1, decide_eq_false h2, decide_eq_false h3, decide_eq_false h4, hm, ev,evA,true_and,and_true,and_self,if_true,if_false,reduceIte,ne_eq,forall_const,false_implies,beq_self_eq_true,decide_true,decide_false,Int.cast_ofNat_Int,Nat.reduceAdd,Nat.reduceLT,Nat.reduceLeDiff,Nat.reduceEqDiff,Nat.reduceBEq,Nat.reduceMul,Nat.reduceSub,Int.reduceToNat,Int.reduceEq,Int.reduceNe,Int.reduceLT,Int.reduceLE,Int.reduceBEq,Int.reduceAdd,Int.reduceSub,Int.reduceMul,hP,hW]
      by_cases h5 : k = 0
      · subst h5
        try simp only [ev,evA,true_and,and_true,and_self,if_true,if_false,reduceIte,ne_eq,forall_const,false_implies,beq_self_eq_true,decide_true,decide_false,Int.cast_ofNat_Int,Nat.reduceAdd,Nat.reduceLT,Nat.reduceLeDiff,Nat.reduceEqDiff,Nat.reduceBEq,Nat.reduceMul,Nat.reduceSub,Int.reduceToNat,Int.reduceEq,Int.reduceNe,Int.reduceLT,Int.reduceLE,Int.reduceBEq,Int.reduceAdd,Int.reduceSub,Int.reduceMul,hP,hW]
        refine Cv.ex (S.length + 1) _ _ ?_ (take_append1 ..) (Cv.done ⟨1, ⟨hlt, (RS_take hlt).2 ⟨hrs, by unfold SpOk; refine ⟨by omega, by omega, by omega, by omega, fun p hp => absurd hp (by omega)⟩⟩⟩, by omega, rfl, rfl⟩)
        simp [rlE, rlRs, rlR, rlL, DV.le, wrap_id]
      · have h5' : decide ((0 : Int) < (k : Int)) = true := decide_eq_true (by omega)
        have hk1 : k - 1 < l.length := by omega
        have w4 : IntKind.i64.wrap ((k : Int) - 1) = ((k - 1 : Nat) : Int) := by rw [wrap_id (by omega) (by omega)]; omega
        have c2 : (0 ≤ ((k - 1 : Nat) : Int) ∧ ((k - 1 : Nat) : Int) < (l.length : Int)) = True := by simp; omega
        have e2 := getD_sp hk1
        try simp only [h5', w4, c2, e2, encSp_len, hm, ev,evA,true_and,and_true,and_self,if_true,if_false,reduceIte,ne_eq,forall_const,false_implies,beq_self_eq_true,decide_true,decide_false,Int.cast_ofNat_Int,Nat.reduceAdd,Nat.reduceLT,Nat.reduceLeDiff,Nat.reduceEqDiff,Nat.reduceBEq,Nat.reduceMul,Nat.reduceSub,Int.reduceToNat,Int.reduceEq,Int.reduceNe,Int.reduceLT,Int.reduceLE,Int.reduceBEq,Int.reduceAdd,Int.reduceSub,Int.reduceMul,hP,hW]
        have hg : l[k - 1]? = some l[k - 1] := List.getElem?_eq_getElem hk1
        by_cases h6 : l[k].f < l[k - 1].t
        · try simp only [decide_eq_true h6, ev,evA,true_and,and_true,and_self,if_true,if_false,reduceIte,ne_eq,forall_const,false_implies,beq_self_eq_true,decide_true,decide_false,Int.cast_ofNat_Int,Nat.reduceAdd,Nat.reduceLT,Nat.reduceLeDiff,Nat.reduceEqDiff,Nat.reduceBEq,Nat.reduceMul,Nat.reduceSub,Int.reduceToNat,Int.reduceEq,Int.reduceNe,Int.reduceLT,Int.reduceLE,Int.reduceBEq,Int.reduceAdd,Int.reduceSub,Int.reduceMul,hP,hW]
          refine hret _ _ S.length 5 ?_
          simp only [r_ref04_Right, ev,evA,true_and,and_true,and_self,if_true,if_false,reduceIte,ne_eq,forall_const,false_implies,beq_self_eq_true,decide_true,decide_false,Int.cast_ofNat_Int,Nat.reduceAdd,Nat.reduceLT,Nat.reduceLeDiff,Nat.reduceEqDiff,Nat.reduceBEq,Nat.reduceMul,Nat.reduceSub,Int.reduceToNat,Int.reduceEq,Int.reduceNe,Int.reduceLT,Int.reduceLE,Int.reduceBEq,Int.reduceAdd,Int.reduceSub,Int.reduceMul,hP,hW]
          exact ⟨_, rfl, false, rfl, by simp only [Bool.false_eq_true, false_iff]; exact fun hh => absurd (RS_step hh.1 hlt) (by unfold SpOk; intro hh; (have := hh.2.2.2.2 _ (by omega) hg; omega))⟩
        cases h7 : (l[k].f == l[k - 1].t)
        · try simp only [decide_eq_false h6, h7, w3, w4, c2, e2, encSp_len, hm, ev,evA,true_and,and_true,and_self,if_true,if_false,reduceIte,ne_eq,forall_const,false_implies,beq_self_eq_true,decide_true,decide_false,Int.cast_ofNat_Int,Nat.reduceAdd,Nat.reduceLT,Nat.reduceLeDiff,Nat.reduceEqDiff,Nat.reduceBEq,Nat.reduceMul,Nat.reduceSub,Int.reduceToNat,Int.reduceEq,Int.reduceNe,Int.reduceLT,Int.reduceLE,Int.reduceBEq,Int.reduceAdd,Int.reduceSub,Int.reduceMul,hP,hW]
          refine Cv.ex (S.length + 1) (.mk [.mk (.agg [.lst 3 f1 (encSp l), .lst 2 f2 (encSi q)]) (.raw (.int .i64 n)) (.loc S.length (g 0) 0) .junk (.raw (.bool false)) (.raw (.int .i64 (k + 1 : Nat))) .junk .junk, .mk .junk .junk .junk .junk .junk .junk .junk .junk, .mk .junk .junk .junk .junk .junk .junk .junk .junk, .mk .junk .junk .junk .junk .junk .junk .junk .junk, .mk .junk .junk .junk .junk .junk .junk .junk .junk, .mk .junk .junk .junk .junk .junk .junk .junk .junk, .mk .junk .junk .junk .junk .junk .junk .junk .junk, .mk .junk .junk .junk .junk .junk .junk .junk .junk, .mk .junk .junk .junk .junk .junk .junk .junk .junk, .mk .junk .junk .junk .junk .junk .junk .junk .junk, .mk .junk .junk .junk .junk .junk .junk .junk .junk, .mk .junk .junk .junk .junk .junk .junk .junk .junk, .mk .junk .junk .junk .junk .junk .junk .junk .junk, .mk .junk .junk .junk .junk .junk .junk .junk .junk, .mk .junk .junk .junk .junk .junk .junk .junk .junk, .mk .junk .junk .junk .junk .junk .junk .junk .junk, .mk .junk .junk .junk .junk .junk .junk .junk .junk, .mk .junk .junk .junk .junk .junk .junk .junk .junk] []) _ ?_ (take_append1 ..) (Cv.done ⟨k + 1, ⟨hlt, (RS_take hlt).2 ⟨hrs, by unfold SpOk; refine ⟨by omega, by omega, by omega, by omega, fun p hp hp2 => ?_⟩; rw [hg] at hp2; cases hp2; exact ⟨by omega, fun ⟨a, _⟩ => by rw [a] at h7; simp at h7⟩⟩⟩, by omega, rfl, rfl⟩)
          simp [rlE, rlRs, rlR, rlL, DV.le]
        · cases h8 : (l[k].m == l[k - 1].m)
          · try simp only [decide_eq_false h6, h7, h8, w3, w4, c2, e2, encSp_len, hm, ev,evA,true_and,and_true,and_self,if_true,if_false,reduceIte,ne_eq,forall_const,false_implies,beq_self_eq_true,decide_true,decide_false,Int.cast_ofNat_Int,Nat.reduceAdd,Nat.reduceLT,Nat.reduceLeDiff,Nat.reduceEqDiff,Nat.reduceBEq,Nat.reduceMul,Nat.reduceSub,Int.reduceToNat,Int.reduceEq,Int.reduceNe,Int.reduceLT,Int.reduceLE,Int.reduceBEq,Int.reduceAdd,Int.reduceSub,Int.reduceMul,hP,hW]
            refine Cv.ex (S.length + 1) (.mk [.mk (.agg [.lst 3 f1 (encSp l), .lst 2 f2 (encSi q)]) (.raw (.int .i64 n)) (.loc S.length (g 0) 0) .junk (.raw (.bool false)) (.raw (.int .i64 (k + 1 : Nat))) .junk .junk, .mk .junk .junk .junk .junk .junk .junk .junk .junk, .mk .junk .junk .junk .junk .junk .junk .junk .junk, .mk .junk .junk .junk .junk .junk .junk .junk .junk, .mk .junk .junk .junk .junk .junk .junk .junk .junk, .mk .junk .junk .junk .junk .junk .junk .junk .junk, .mk .junk .junk .junk .junk .junk .junk .junk .junk, .mk .junk .junk .junk .junk .junk .junk .junk .junk, .mk .junk .junk .junk .junk .junk .junk .junk .junk, .mk .junk .junk .junk .junk .junk .junk .junk .junk, .mk .junk .junk .junk .junk .junk .junk .junk .junk, .mk .junk .junk .junk .junk .junk .junk .junk .junk, .mk .junk .junk .junk .junk .junk .junk .junk .junk, .mk .junk .junk .junk .junk .junk .junk .junk .junk, .mk .junk .junk .junk .junk .junk .junk .junk .junk, .mk .junk .junk .junk .junk .junk .junk .junk .junk, .mk .junk .junk .junk .junk .junk .junk .junk .junk, .mk .junk .junk .junk .junk .junk .junk .junk .junk] []) _ ?_ (take_append1 ..) (Cv.done ⟨k + 1, ⟨hlt, (RS_take hlt).2 ⟨hrs, by unfold SpOk; refine ⟨by omega, by omega, by omega, by omega, fun p hp hp2 => ?_⟩; rw [hg] at hp2; cases hp2; exact ⟨by omega, fun ⟨_, a⟩ => by rw [a] at h8; simp at h8⟩⟩⟩, by omega, rfl, rfl⟩)
            simp [rlE, rlRs, rlR, rlL, DV.le]
          · try simp only [decide_eq_false h6, h7, h8, w4, c2, e2, encSp_len, hm, ev,evA,true_and,and_true,and_self,if_true,if_false,reduceIte,ne_eq,forall_const,false_implies,beq_self_eq_true,decide_true,decide_false,Int.cast_ofNat_Int,Nat.reduceAdd,Nat.reduceLT,Nat.reduceLeDiff,Nat.reduceEqDiff,Nat.reduceBEq,Nat.reduceMul,Nat.reduceSub,Int.reduceToNat,Int.reduceEq,Int.reduceNe,Int.reduceLT,Int.reduceLE,Int.reduceBEq,Int.reduceAdd,Int.reduceSub,Int.reduceMul,hP,hW]
            refine hret _ _ S.length 5 ?_
            simp only [r_ref04_Right, ev,evA,true_and,and_true,and_self,if_true,if_false,reduceIte,ne_eq,forall_const,false_implies,beq_self_eq_true,decide_true,decide_false,Int.cast_ofNat_Int,Nat.reduceAdd,Nat.reduceLT,Nat.reduceLeDiff,Nat.reduceEqDiff,Nat.reduceBEq,Nat.reduceMul,Nat.reduceSub,Int.reduceToNat,Int.reduceEq,Int.reduceNe,Int.reduceLT,Int.reduceLE,Int.reduceBEq,Int.reduceAdd,Int.reduceSub,Int.reduceMul,hP,hW]
            exact ⟨_, rfl, false, rfl, by simp only [Bool.false_eq_true, false_iff]; exact fun hh => absurd (RS_step hh.1 hlt) (by unfold SpOk; intro hh; (have := hh.2.2.2.2 _ (by omega) hg; exact this.2 ⟨(by simpa using h7 : _ = _).symm, (by simpa using h8 : _ = _).symm⟩))⟩
    · have d1 : decide ((k : Int) < (l.length : Int)) = false := decide_eq_false (by omega)
      have hk' : k = l.length := by omega
      subst hk'
      rw [List.take_length] at hrs
      try simp only [d1, encSi_len, encSp_len, ev,evA,true_and,and_true,and_self,if_true,if_false,reduceIte,ne_eq,forall_const,false_implies,beq_self_eq_true,decide_true,decide_false,Int.cast_ofNat_Int,Nat.reduceAdd,Nat.reduceLT,Nat.reduceLeDiff,Nat.reduceEqDiff,Nat.reduceBEq,Nat.reduceMul,Nat.reduceSub,Int.reduceToNat,Int.reduceEq,Int.reduceNe,Int.reduceLT,Int.reduceLE,Int.reduceBEq,Int.reduceAdd,Int.reduceSub,Int.reduceMul,hP,hW]
      refine SX_lp (α := Nat) (fun k => k ≤ q.length ∧ QS n (q.take k)) (fun k => (.mk [.mk (.agg [.lst 3 f1 (encSp l), .lst 2 f2 (encSi q)]) (.raw (.int .i64 n)) (.loc S.length (g 0) 0) .junk (.raw (.bool false)) .junk .junk (.raw (.int .i64 k)), .mk .junk .junk .junk .junk .junk .junk .junk .junk, .mk .junk .junk .junk .junk .junk .junk .junk .junk, .mk .junk .junk .junk .junk .junk .junk .junk .junk, .mk .junk .junk .junk .junk .junk .junk .junk .junk, .mk .junk .junk .junk .junk .junk .junk .junk .junk, .mk .junk .junk .junk .junk .junk .junk .junk .junk, .mk .junk .junk .junk .junk .junk .junk .junk .junk, .mk .junk .junk .junk .junk .junk .junk .junk .junk, .mk .junk .junk .junk .junk .junk .junk .junk .junk, .mk .junk .junk .junk .junk .junk .junk .junk .junk, .mk .junk .junk .junk .junk .junk .junk .junk .junk, .mk .junk .junk .junk .junk .junk .junk .junk .junk, .mk .junk .junk .junk .junk .junk .junk .junk .junk, .mk .junk .junk .junk .junk .junk .junk .junk .junk, .mk .junk .junk .junk .junk .junk .junk .junk .junk, .mk .junk .junk .junk .junk .junk .junk .junk .junk, .mk .junk .junk .junk .junk .junk .junk .junk .junk] [])) (fun k => S ++ [.cells (g 0) [.lst 3 f1 (encSp l), .lst 2 f2 (encSi q)]]) (fun k => q.length - k) 200 ?_ ?_
      · refine Cv.ex (S.length + 1) _ _ ?_ (take_all (by simp)) (Cv.done ⟨0, ⟨Nat.zero_le _, QS_nil n⟩, rfl, rfl⟩)
        simp [rlE, rlRs, rlR, rlL, DV.le]
      · rintro k ⟨hk, hqs⟩
        by_cases hlt : k < q.length
        · have d1 : decide ((k : Int) < (q.length : Int)) = true := decide_eq_true (by omega)
          have c1 : (0 ≤ (k : Int) ∧ (k : Int) < (q.length : Int)) = True := by simp; omega
          have e1 := getD_si hlt
          have w3 : IntKind.i64.wrap ((k : Int) + 1) = ((k + 1 : Nat) : Int) := by rw [wrap_id (by omega) (by omega)]; omega
          try simp only [d1, c1, encSi_len, ev,evA,true_and,and_true,and_self,if_true,if_false,reduceIte,ne_eq,forall_const,false_implies,beq_self_eq_true,decide_true,decide_false,Int.cast_ofNat_Int,Nat.reduceAdd,Nat.reduceLT,Nat.reduceLeDiff,Nat.reduceEqDiff,Nat.reduceBEq,Nat.reduceMul,Nat.reduceSub,Int.reduceToNat,Int.reduceEq,Int.reduceNe,Int.reduceLT,Int.reduceLE,Int.reduceBEq,Int.reduceAdd,Int.reduceSub,Int.reduceMul,hP,hW]
          intro s0
          try simp only [e1, hm, ev,evA,true_and,and_true,and_self,if_true,if_false,reduceIte,ne_eq,forall_const,false_implies,beq_self_eq_true,decide_true,decide_false,Int.cast_ofNat_Int,Nat.reduceAdd,Nat.reduceLT,Nat.reduceLeDiff,Nat.reduceEqDiff,Nat.reduceBEq,Nat.reduceMul,Nat.reduceSub,Int.reduceToNat,Int.reduceEq,Int.reduceNe,Int.reduceLT,Int.reduceLE,Int.reduceBEq,Int.reduceAdd,Int.reduceSub,Int.reduceMul,hP,hW]
          by_cases h1 : q[k].m ≤ 0
          · try simp only [decide_eq_true h1, ev,evA,true_and,and_true,and_self,if_true,if_false,reduceIte,ne_eq,forall_const,false_implies,beq_self_eq_true,decide_true,decide_false,Int.cast_ofNat_Int,Nat.reduceAdd,Nat.reduceLT,Nat.reduceLeDiff,Nat.reduceEqDiff,Nat.reduceBEq,Nat.reduceMul,Nat.reduceSub,Int.reduceToNat,Int.reduceEq,Int.reduceNe,Int.reduceLT,Int.reduceLE,Int.reduceBEq,Int.reduceAdd,Int.reduceSub,Int.reduceMul,hP,hW]
            refine hret _ _ S.length 5 ?_
            simp only [r_ref04_Right, ev,evA,true_and,and_true,and_self,if_true,if_false,reduceIte,ne_eq,forall_const,false_implies,beq_self_eq_true,decide_true,decide_false,Int.cast_ofNat_Int,Nat.reduceAdd,Nat.reduceLT,Nat.reduceLeDiff,Nat.reduceEqDiff,Nat.reduceBEq,Nat.reduceMul,Nat.reduceSub,Int.reduceToNat,Int.reduceEq,Int.reduceNe,Int.reduceLT,Int.reduceLE,Int.reduceBEq,Int.reduceAdd,Int.reduceSub,Int.reduceMul,hP,hW]
            exact ⟨_, rfl, false, rfl, by simp only [Bool.false_eq_true, false_iff]; exact fun hh => absurd (QS_step hh.2 hlt) (by unfold SiOk; intro hh; omega)⟩
          by_cases h2 : q[k].a < 0
          · try simp only [decide_eq_false h1, decide_eq_true h2, ev,evA,true_and,and_true,and_self,if_true,if_false,reduceIte,ne_eq,forall_const,false_implies,beq_self_eq_true,decide_true,decide_false,Int.cast_ofNat_Int,Nat.reduceAdd,Nat.reduceLT,Nat.reduceLeDiff,Nat.reduceEqDiff,Nat.reduceBEq,Nat.reduceMul,Nat.reduceSub,Int.reduceToNat,Int.reduceEq,Int.reduceNe,Int.reduceLT,Int.reduceLE,Int.reduceBEq,Int.reduceAdd,Int.reduceSub,Int.reduceMul,hP,hW]
            refine hret _ _ S.length 5 ?_
            simp only [r_ref04_Right, ev,evA,true_and,and_true,and_self,if_true,if_false,reduceIte,ne_eq,forall_const,false_implies,beq_self_eq_true,decide_true,decide_false,Int.cast_ofNat_Int,Nat.reduceAdd,Nat.reduceLT,Nat.reduceLeDiff,Nat.reduceEqDiff,Nat.reduceBEq,Nat.reduceMul,Nat.reduceSub,Int.reduceToNat,Int.reduceEq,Int.reduceNe,Int.reduceLT,Int.reduceLE,Int.reduceBEq,Int.reduceAdd,Int.reduceSub,Int.reduceMul,hP,hW]
            exact ⟨_, rfl, false, rfl, by simp only [Bool.false_eq_true, false_iff]; exact fun hh => absurd (QS_step hh.2 hlt) (by unfold SiOk; intro hh; omega)⟩
          by_cases h3 : n < q[k].a
          · try simp only [decide_eq_false h1, decide_eq_false h2, decide_eq_true h3, ev,evA,true_and,and_true,and_self,if_true,if_false,reduceIte,ne_eq,forall_const,false_implies,beq_self_eq_true,decide_true,decide_false,Int.cast_ofNat_Int,Nat.reduceAdd,Nat.reduceLT,Nat.reduceLeDiff,Nat.reduceEqDiff,Nat.reduceBEq,Nat.reduceMul,Nat.reduceSub,Int.reduceToNat,Int.reduceEq,Int.reduceNe,Int.reduceLT,Int.reduceLE,Int.reduceBEq,Int.reduceAdd,Int.reduceSub,Int.reduceMul,hP,hW]
            refine hret _ _ S.length 5 ?_
            simp only [r_ref04_Right, ev,evA,true_and,and_true,and_self,if_true,if_false,reduceIte,ne_eq,forall_const,false_implies,beq_self_eq_true,decide_true,decide_false,Int.cast_ofNat_Int,Nat.reduceAdd,Nat.reduceLT,Nat.reduceLeDiff,Nat.reduceEqDiff,Nat.reduceBEq,Nat.reduceMul,Nat.reduceSub,Int.reduceToNat,Int.reduceEq,Int.reduceNe,Int.reduceLT,Int.reduceLE,Int.reduceBEq,Int.reduceAdd,Int.reduceSub,Int.reduceMul,hP,hW]
            exact ⟨_, rfl, false, rfl, by simp only [Bool.false_eq_true, false_iff]; exact fun hh => absurd (QS_step hh.2 hlt) (by unfold SiOk; intro hh; omega)⟩
          try simp only [decide_eq_false h1, decide_eq_false h2, decide_eq_false h3, ev,evA,true_and,and_true,and_self,if_true,if_false,reduceIte,ne_eq,forall_const,false_implies,beq_self_eq_true,decide_true,decide_false,Int.cast_ofNat_Int,Nat.reduceAdd,Nat.reduceLT,Nat.reduceLeDiff,Nat.reduceEqDiff,Nat.reduceBEq,Nat.reduceMul,Nat.reduceSub,Int.reduceToNat,Int.reduceEq,Int.reduceNe,Int.reduceLT,Int.reduceLE,Int.reduceBEq,Int.reduceAdd,Int.reduceSub,Int.reduceMul,hP,hW]
          by_cases h5 : k = 0
          · subst h5
            try simp only [hm, show decide ((0 : Int) < ((0 : Nat) : Int)) = false from rfl, ev,evA,true_and,and_true,and_self,if_true,if_false,reduceIte,ne_eq,forall_const,false_implies,beq_self_eq_true,decide_true,decide_false,Int.cast_ofNat_Int,Nat.reduceAdd,Nat.reduceLT,Nat.reduceLeDiff,Nat.reduceEqDiff,Nat.reduceBEq,Nat.reduceMul,Nat.reduceSub,Int.reduceToNat,Int.reduceEq,Int.reduceNe,Int.reduceLT,Int.reduceLE,Int.reduceBEq,Int.reduceAdd,Int.reduceSub,Int.reduceMul,hP,hW]
            refine Cv.ex (S.length + 1) _ _ ?_ (take_append1 ..) (Cv.done ⟨1, ⟨hlt, (QS_take hlt).2 ⟨hqs, by unfold SiOk; refine ⟨by omega, by omega, by omega, fun p hp => absurd hp (by omega)⟩⟩⟩, by omega, rfl, rfl⟩)
            simp [rlE, rlRs, rlR, rlL, DV.le, wrap_id]
          · have h5' : decide ((0 : Int) < (k : Int)) = true := decide_eq_true (by omega)
            have hk1 : k - 1 < q.length := by omega
            have w4 : IntKind.i64.wrap ((k : Int) - 1) = ((k - 1 : Nat) : Int) := by rw [wrap_id (by omega) (by omega)]; omega
            have c2 : (0 ≤ ((k - 1 : Nat) : Int) ∧ ((k - 1 : Nat) : Int) < (q.length : Int)) = True := by simp; omega
            have e2 := getD_si hk1
            try simp only [h5', w4, c2, e2, encSi_len, hm, ev,evA,true_and,and_true,and_self,if_true,if_false,reduceIte,ne_eq,forall_const,false_implies,beq_self_eq_true,decide_true,decide_false,Int.cast_ofNat_Int,Nat.reduceAdd,Nat.reduceLT,Nat.reduceLeDiff,Nat.reduceEqDiff,Nat.reduceBEq,Nat.reduceMul,Nat.reduceSub,Int.reduceToNat,Int.reduceEq,Int.reduceNe,Int.reduceLT,Int.reduceLE,Int.reduceBEq,Int.reduceAdd,Int.reduceSub,Int.reduceMul,hP,hW]
            have hg : q[k - 1]? = some q[k - 1] := List.getElem?_eq_getElem hk1
            by_cases h6 : q[k].a < q[k - 1].a
            · try simp only [decide_eq_true h6, hm, w4, c2, e2, encSi_len, ev,evA,true_and,and_true,and_self,if_true,if_false,reduceIte,ne_eq,forall_const,false_implies,beq_self_eq_true,decide_true,decide_false,Int.cast_ofNat_Int,Nat.reduceAdd,Nat.reduceLT,Nat.reduceLeDiff,Nat.reduceEqDiff,Nat.reduceBEq,Nat.reduceMul,Nat.reduceSub,Int.reduceToNat,Int.reduceEq,Int.reduceNe,Int.reduceLT,Int.reduceLE,Int.reduceBEq,Int.reduceAdd,Int.reduceSub,Int.reduceMul,hP,hW]
              refine hret _ _ S.length 5 ?_
              simp only [r_ref04_Right, ev,evA,true_and,and_true,and_self,if_true,if_false,reduceIte,ne_eq,forall_const,false_implies,beq_self_eq_true,decide_true,decide_false,Int.cast_ofNat_Int,Nat.reduceAdd,Nat.reduceLT,Nat.reduceLeDiff,Nat.reduceEqDiff,Nat.reduceBEq,Nat.reduceMul,Nat.reduceSub,Int.reduceToNat,Int.reduceEq,Int.reduceNe,Int.reduceLT,Int.reduceLE,Int.reduceBEq,Int.reduceAdd,Int.reduceSub,Int.reduceMul,hP,hW]
              exact ⟨_, rfl, false, rfl, by simp only [Bool.false_eq_true, false_iff]; exact fun hh => absurd (QS_step hh.2 hlt) (by unfold SiOk; intro hh; (have := hh.2.2.2 _ (by omega) hg; unfold Si.lt at this; omega))⟩
            cases h7 : (q[k].a == q[k - 1].a)
            · try simp only [decide_eq_false h6, h7, w3, w4, c2, e2, encSi_len, hm, ev,evA,true_and,and_true,and_self,if_true,if_false,reduceIte,ne_eq,forall_const,false_implies,beq_self_eq_true,decide_true,decide_false,Int.cast_ofNat_Int,Nat.reduceAdd,Nat.reduceLT,Nat.reduceLeDiff,Nat.reduceEqDiff,Nat.reduceBEq,Nat.reduceMul,Nat.reduceSub,Int.reduceToNat,Int.reduceEq,Int.reduceNe,Int.reduceLT,Int.reduceLE,Int.reduceBEq,Int.reduceAdd,Int.reduceSub,Int.reduceMul,hP,hW]
              refine Cv.ex (S.length + 1) (.mk [.mk (.agg [.lst 3 f1 (encSp l), .lst 2 f2 (encSi q)]) (.raw (.int .i64 n)) (.loc S.length (g 0) 0) .junk (.raw (.bool false)) .junk .junk (.raw (.int .i64 (k + 1 : Nat))), .mk .junk .junk .junk .junk .junk .junk .junk .junk, .mk .junk .junk .junk .junk .junk .junk .junk .junk, .mk .junk .junk .junk .junk .junk .junk .junk .junk, .mk .junk .junk .junk .junk .junk .junk .junk .junk, .mk .junk .junk .junk .junk .junk .junk .junk .junk, .mk .junk .junk .junk .junk .junk .junk .junk .junk, .mk .junk .junk .junk .junk .junk .junk .junk .junk, .mk .junk .junk .junk .junk .junk .junk .junk .junk, .mk .junk .junk .junk .junk .junk .junk .junk .junk, .mk .junk .junk .junk .junk .junk .junk .junk .junk, .mk .junk .junk .junk .junk .junk .junk .junk .junk, .mk .junk .junk .junk .junk .junk .junk .junk .junk, .mk .junk .junk .junk .junk .junk .junk .junk .junk, .mk .junk .junk .junk .junk .junk .junk .junk .junk, .mk .junk .junk .junk .junk .junk .junk .junk .junk, .mk .junk .junk .junk .junk .junk .junk .junk .junk, .mk .junk .junk .junk .junk .junk .junk .junk .junk] []) _ ?_ (take_append1 ..) (Cv.done ⟨k + 1, ⟨hlt, (QS_take hlt).2 ⟨hqs, by unfold SiOk; refine ⟨by omega, by omega, by omega, fun p hp hp2 => ?_⟩; rw [hg] at hp2; cases hp2; unfold Si.lt; have h7' : ¬ q[k].a = q[k - 1].a := (by simpa using h7); omega⟩⟩, by omega, rfl, rfl⟩)
              simp [rlE, rlRs, rlR, rlL, DV.le]
            · have h7' : q[k].a = q[k - 1].a := by simpa using h7
              by_cases h8 : q[k].m ≤ q[k - 1].m
              · try simp only [decide_eq_false h6, h7, decide_eq_true h8, w4, c2, e2, encSi_len, hm, ev,evA,true_and,and_true,and_self,if_true,if_false,reduceIte,ne_eq,forall_const,false_implies,beq_self_eq_true,decide_true,decide_false,Int.cast_ofNat_Int,Nat.reduceAdd,Nat.reduceLT,Nat.reduceLeDiff,Nat.reduceEqDiff,Nat.reduceBEq,Nat.reduceMul,Nat.reduceSub,Int.reduceToNat,Int.reduceEq,Int.reduceNe,Int.reduceLT,Int.reduceLE,Int.reduceBEq,Int.reduceAdd,Int.reduceSub,Int.reduceMul,hP,hW]
                refine hret _ _ S.length 5 ?_
                simp only [r_ref04_Right, ev,evA,true_and,and_true,and_self,if_true,if_false,reduceIte,ne_eq,forall_const,false_implies,beq_self_eq_true,decide_true,decide_false,Int.cast_ofNat_Int,Nat.reduceAdd,Nat.reduceLT,Nat.reduceLeDiff,Nat.reduceEqDiff,Nat.reduceBEq,Nat.reduceMul,Nat.reduceSub,Int.reduceToNat,Int.reduceEq,Int.reduceNe,Int.reduceLT,Int.reduceLE,Int.reduceBEq,Int.reduceAdd,Int.reduceSub,Int.reduceMul,hP,hW]
                exact ⟨_, rfl, false, rfl, by simp only [Bool.false_eq_true, false_iff]; exact fun hh => absurd (QS_step hh.2 hlt) (by unfold SiOk; intro hh; (have := hh.2.2.2 _ (by omega) hg; unfold Si.lt at this; omega))⟩
              · try simp only [decide_eq_false h6, h7, decide_eq_false h8, w3, w4, c2, e2, encSi_len, hm, ev,evA,true_and,and_true,and_self,if_true,if_false,reduceIte,ne_eq,forall_const,false_implies,beq_self_eq_true,decide_true,decide_false,Int.cast_ofNat_Int,Nat.reduceAdd,Nat.reduceLT,Nat.reduceLeDiff,Nat.reduceEqDiff,Nat.reduceBEq,Nat.reduceMul,Nat.reduceSub,Int.reduceToNat,Int.reduceEq,Int.reduceNe,Int.reduceLT,Int.reduceLE,Int.reduceBEq,Int.reduceAdd,Int.reduceSub,Int.reduceMul,hP,hW]
                refine Cv.ex (S.length + 1) (.mk [.mk (.agg [.lst 3 f1 (encSp l), .lst 2 f2 (encSi q)]) (.raw (.int .i64 n)) (.loc S.length (g 0) 0) .junk (.raw (.bool false)) .junk .junk (.raw (.int .i64 (k + 1 : Nat))), .mk .junk .junk .junk .junk .junk .junk .junk .junk, .mk .junk .junk .junk .junk .junk .junk .junk .junk, .mk .junk .junk .junk .junk .junk .junk .junk .junk, .mk .junk .junk .junk .junk .junk .junk .junk .junk, .mk .junk .junk .junk .junk .junk .junk .junk .junk, .mk .junk .junk .junk .junk .junk .junk .junk .junk, .mk .junk .junk .junk .junk .junk .junk .junk .junk, .mk .junk .junk .junk .junk .junk .junk .junk .junk, .mk .junk .junk .junk .junk .junk .junk .junk .junk, .mk .junk .junk .junk .junk .junk .junk .junk .junk, .mk .junk .junk .junk .junk .junk .junk .junk .junk, .mk .junk .junk .junk .junk .junk .junk .junk .junk, .mk .junk .junk .junk .junk .junk .junk .junk .junk, .mk .junk .junk .junk .junk .junk .junk .junk .junk, .mk .junk .junk .junk .junk .junk .junk .junk .junk, .mk .junk .junk .junk .junk .junk .junk .junk .junk, .mk .junk .junk .junk .junk .junk .junk .junk .junk] []) _ ?_ (take_append1 ..) (Cv.done ⟨k + 1, ⟨hlt, (QS_take hlt).2 ⟨hqs, by unfold SiOk; refine ⟨by omega, by omega, by omega, fun p hp hp2 => ?_⟩; rw [hg] at hp2; cases hp2; unfold Si.lt; omega⟩⟩, by omega, rfl, rfl⟩)
                simp [rlE, rlRs, rlR, rlL, DV.le]
        · have d1 : decide ((k : Int) < (q.length : Int)) = false := decide_eq_false (by omega)
          have hk' : k = q.length := by omega
          subst hk'
          rw [List.take_length] at hqs
          try simp only [d1, encSi_len, ev,evA,true_and,and_true,and_self,if_true,if_false,reduceIte,ne_eq,forall_const,false_implies,beq_self_eq_true,decide_true,decide_false,Int.cast_ofNat_Int,Nat.reduceAdd,Nat.reduceLT,Nat.reduceLeDiff,Nat.reduceEqDiff,Nat.reduceBEq,Nat.reduceMul,Nat.reduceSub,Int.reduceToNat,Int.reduceEq,Int.reduceNe,Int.reduceLT,Int.reduceLE,Int.reduceBEq,Int.reduceAdd,Int.reduceSub,Int.reduceMul,hP,hW]
          refine hret _ _ S.length 5 ?_
          simp only [r_ref04_Right, ev,evA,true_and,and_true,and_self,if_true,if_false,reduceIte,ne_eq,forall_const,false_implies,beq_self_eq_true,decide_true,decide_false,Int.cast_ofNat_Int,Nat.reduceAdd,Nat.reduceLT,Nat.reduceLeDiff,Nat.reduceEqDiff,Nat.reduceBEq,Nat.reduceMul,Nat.reduceSub,Int.reduceToNat,Int.reduceEq,Int.reduceNe,Int.reduceLT,Int.reduceLE,Int.reduceBEq,Int.reduceAdd,Int.reduceSub,Int.reduceMul,hP,hW]
          exact ⟨_, rfl, true, rfl, by simp [hrs, hqs]⟩
end Go.Dv
/-
  The document's marks: each letter's.
-/
namespace Go.Dv
open Go Go.RowKit Go.Proofs
set_option linter.unusedSimpArgs false
set_option linter.unusedVariables false
set_option maxRecDepth 8000

/-- Numbers, in a list. -/
def encI (l : List Int) : List (List DV) := l.map fun x => [.raw (.int .i64 x)]
theorem encI_len (l : List Int) : (encI l).length = l.length := by simp [encI]
theorem getD_i {l : List Int} {k : Nat} (h : k < l.length) : (encI l).getD k [] = [.raw (.int .i64 l[k])] := by
  unfold encI
  rw [List.getD_eq_getElem?_getD, List.getElem?_map, List.getElem?_eq_getElem h]; rfl
theorem atE_i {l : List Int} {k : Nat} (h : k < l.length) : atE (encI l) k = [.raw (.int .i64 l[k])] := getD_i h
theorem encI_map (S : List SO) (n k : Nat) (l : List Int) : (encI l).map (fun e => e.map (fz S n (k + 1))) = encI l := by
  unfold encI; rw [List.map_map]; rfl
/-- A number for each of n. -/
def fn (n : Nat) (f : Nat → Int) : List Int := (List.range n).map f
theorem fn_len (n : Nat) (f : Nat → Int) : (fn n f).length = n := by simp [fn]
theorem fn_get {n : Nat} {f : Nat → Int} {k : Nat} (h : k < (fn n f).length) : (fn n f)[k] = f k := by simp [fn]
theorem fn_set (n : Nat) (f g : Nat → Int) (k : Nat) (h : ∀ j, g j = if j = k then g k else f j) : (encI (fn n f)).set k [.raw (.int .i64 (g k))] = encI (fn n g) := by
  refine List.ext_getElem (by simp [encI, fn]) fun i h1 h2 => ?_
  simp only [encI, fn, List.getElem_set, List.getElem_map, List.getElem_range]
  by_cases e : k = i
  · rw [if_pos e, e]
  · rw [if_neg e, h i, if_neg (by omega)]
theorem fn_rep (n : Nat) : List.replicate n [DV.raw (.int .i64 0)] = encI (fn n fun _ => 0) := by
  refine List.ext_getElem (by simp [encI, fn]) fun i h1 h2 => ?_
  simp [encI, fn]
theorem fn_congr {n : Nat} {f g : Nat → Int} (h : ∀ k, k < n → f k = g k) : fn n f = fn n g :=
  List.map_congr_left fun k hk => h k (List.mem_range.1 hk)

theorem mk_take {n : Int} {l : List Sp} (h : RS n 0 0 l) {k : Nat} (hk : k < l.length) (j : Int) : mk (l.take (k + 1)) j = if l[k].f ≤ j ∧ j < l[k].t then l[k].m else mk (l.take k) j := by
  have h1 := RS_sub h (k + 1)
  rw [List.take_succ_eq_append_getElem hk] at h1 ⊢
  exact mk_snoc h1 j

theorem t_each (hm : Tryd.prog.follows .mixedOrders = true) (W0 : World) (S : List SO) (f1 f2 : Bool) (l : List Sp) (q : List Si) (n : Nat) (hn : n ≤ 1099511627776) (hl : l.length ≤ 1099511627776) (hr : RS n 0 0 l) : CtP Tryd.prog W0 n_ref04_each [.agg [.lst 3 f1 (encSp l), .lst 2 f2 (encSi q)], .raw (.int .i64 n)] S
    (fun d => d = .lst 1 false (encI (fn n fun k => mk l k))) := by
  refine Ct_R k_ref04_each 400 (.mk [.mk (.agg [.lst 3 f1 (encSp l), .lst 2 f2 (encSi q)]) (.raw (.int .i64 n)) .junk .junk .junk .junk .junk .junk, .mk .junk .junk .junk .junk .junk .junk .junk .junk, .mk .junk .junk .junk .junk .junk .junk .junk .junk, .mk .junk .junk .junk .junk .junk .junk .junk .junk, .mk .junk .junk .junk .junk .junk .junk .junk .junk] [.junk, .junk, .junk]) rfl rfl fun r hP hW hpan hret => ?_
  simp only [c_ref04_each, ev,evA,true_and,and_true,and_self,if_true,if_false,reduceIte,ne_eq,forall_const,false_implies,beq_self_eq_true,decide_true,decide_false,Int.cast_ofNat_Int,Nat.reduceAdd,Nat.reduceLT,Nat.reduceLeDiff,Nat.reduceEqDiff,Nat.reduceBEq,Nat.reduceMul,Nat.reduceSub,Int.reduceToNat,Int.reduceEq,Int.reduceNe,Int.reduceLT,Int.reduceLE,Int.reduceBEq,Int.reduceAdd,Int.reduceSub,Int.reduceMul,hP,hW]
  intro g
  try simp only [hm, encSp_len, ev,evA,true_and,and_true,and_self,if_true,if_false,reduceIte,ne_eq,forall_const,false_implies,beq_self_eq_true,decide_true,decide_false,Int.cast_ofNat_Int,Nat.reduceAdd,Nat.reduceLT,Nat.reduceLeDiff,Nat.reduceEqDiff,Nat.reduceBEq,Nat.reduceMul,Nat.reduceSub,Int.reduceToNat,Int.reduceEq,Int.reduceNe,Int.reduceLT,Int.reduceLE,Int.reduceBEq,Int.reduceAdd,Int.reduceSub,Int.reduceMul,hP,hW]
  intro g1
  refine ⟨⟨by omega, by omega, by omega⟩, ?_⟩
  rw [fn_rep]
  refine SX_lp (α := Nat) (fun i => i ≤ l.length) (fun i => (.mk [.mk (.agg [.lst 3 f1 (encSp l), .lst 2 f2 (encSi q)]) (.raw (.int .i64 n)) (.loc S.length (g 0) 0) .junk (.raw (.slice none 0 0)) (.row (S.length + 1) (g1 0) 1 0 n) (.raw (.int .i64 i)) .junk, .mk .junk .junk .junk .junk .junk .junk .junk .junk, .mk .junk .junk .junk .junk .junk .junk .junk .junk, .mk .junk .junk .junk .junk .junk .junk .junk .junk, .mk .junk .junk .junk .junk .junk .junk .junk .junk] [.junk, .junk, .junk])) (fun i => S ++ [.cells (g 0) [.lst 3 f1 (encSp l), .lst 2 f2 (encSi q)], .row (g1 0) 1 (encI (fn n fun k => mk (l.take i) k))]) (fun i => l.length - i) 200 ?_ ?_
  · refine Cv.ex (S.length + 2) _ _ ?_ (take_all (by simp)) (Cv.done ⟨0, Nat.zero_le _, rfl, rfl⟩)
    simp [rlE, rlRs, rlR, rlL, DV.le]
  · intro i hi
    by_cases hlt : i < l.length
    · have d1 : decide ((i : Int) < (l.length : Int)) = true := decide_eq_true (by omega)
      have c1 : (0 ≤ (i : Int) ∧ (i : Int) < (l.length : Int)) = True := by simp; omega
      have e1 := getD_sp hlt
      have hso := RS_step hr hlt
      unfold SpOk at hso
      obtain ⟨o1, o2, o3, o4, -⟩ := hso
      try simp only [d1, c1, e1, encSp_len, ev,evA,true_and,and_true,and_self,if_true,if_false,reduceIte,ne_eq,forall_const,false_implies,beq_self_eq_true,decide_true,decide_false,Int.cast_ofNat_Int,Nat.reduceAdd,Nat.reduceLT,Nat.reduceLeDiff,Nat.reduceEqDiff,Nat.reduceBEq,Nat.reduceMul,Nat.reduceSub,Int.reduceToNat,Int.reduceEq,Int.reduceNe,Int.reduceLT,Int.reduceLE,Int.reduceBEq,Int.reduceAdd,Int.reduceSub,Int.reduceMul,hP,hW]
      refine SX_cutB 2 (fun e S' => Cv W0 e S' fun e S' => e = (.mk [.mk (.agg [.lst 3 f1 (encSp l), .lst 2 f2 (encSi q)]) (.raw (.int .i64 n)) (.loc S.length (g 0) 0) .junk (.raw (.slice none 0 0)) (.row (S.length + 1) (g1 0) 1 0 n) (.raw (.int .i64 i)) (.raw (.int .i64 l[i].t)), .mk .junk .junk .junk .junk .junk .junk .junk .junk, .mk .junk .junk .junk .junk .junk .junk .junk .junk, .mk .junk .junk .junk .junk .junk .junk .junk .junk, .mk .junk .junk .junk .junk .junk .junk .junk .junk] [.junk, .junk, .junk]) ∧ S' = S ++ [.cells (g 0) [.lst 3 f1 (encSp l), .lst 2 f2 (encSi q)], .row (g1 0) 1 (encI (fn n fun k => mk (l.take (i + 1)) k))]) ?_ ?_
      · refine SX_lp (α := Int) (fun k => l[i].f ≤ k ∧ k ≤ l[i].t) (fun k => (.mk [.mk (.agg [.lst 3 f1 (encSp l), .lst 2 f2 (encSi q)]) (.raw (.int .i64 n)) (.loc S.length (g 0) 0) .junk (.raw (.slice none 0 0)) (.row (S.length + 1) (g1 0) 1 0 n) (.raw (.int .i64 i)) (.raw (.int .i64 k)), .mk .junk .junk .junk .junk .junk .junk .junk .junk, .mk .junk .junk .junk .junk .junk .junk .junk .junk, .mk .junk .junk .junk .junk .junk .junk .junk .junk, .mk .junk .junk .junk .junk .junk .junk .junk .junk] [.junk, .junk, .junk])) (fun k => S ++ [.cells (g 0) [.lst 3 f1 (encSp l), .lst 2 f2 (encSi q)], .row (g1 0) 1 (encI (fn n fun j => if l[i].f ≤ (j : Int) ∧ (j : Int) < k then l[i].m else mk (l.take i) j))]) (fun k => (l[i].t - k).toNat) 200 ?_ ?_
        · refine Cv.ex (S.length + 2) _ _ ?_ (take_all (by simp)) (Cv.done ⟨l[i].f, ⟨Int.le_refl _, by omega⟩, rfl, ?_⟩)
          · simp [rlE, rlRs, rlR, rlL, DV.le]
          · rw [fn_congr (fun j _ => if_neg (by omega))]
        · rintro k ⟨hk1, hk2⟩
          by_cases hkt : k < l[i].t
          · have c2 : (0 ≤ k ∧ k < (n : Int)) = True := by simp; omega
            try simp only [d1, c1, e1, encSp_len, decide_eq_true hkt, c2, encI_len, fn_len, ev,evA,true_and,and_true,and_self,if_true,if_false,reduceIte,ne_eq,forall_const,false_implies,beq_self_eq_true,decide_true,decide_false,Int.cast_ofNat_Int,Nat.reduceAdd,Nat.reduceLT,Nat.reduceLeDiff,Nat.reduceEqDiff,Nat.reduceBEq,Nat.reduceMul,Nat.reduceSub,Int.reduceToNat,Int.reduceEq,Int.reduceNe,Int.reduceLT,Int.reduceLE,Int.reduceBEq,Int.reduceAdd,Int.reduceSub,Int.reduceMul,hP,hW]
            refine ⟨by omega, ?_⟩
            have w4 : IntKind.i64.wrap (k + 1) = k + 1 := wrap_id (by omega) (by omega)
            refine Cv.ex (S.length + 2) (.mk [.mk (.agg [.lst 3 f1 (encSp l), .lst 2 f2 (encSi q)]) (.raw (.int .i64 n)) (.loc S.length (g 0) 0) .junk (.raw (.slice none 0 0)) (.row (S.length + 1) (g1 0) 1 0 n) (.raw (.int .i64 i)) (.raw (.int .i64 (k + 1 : Int))), .mk .junk .junk .junk .junk .junk .junk .junk .junk, .mk .junk .junk .junk .junk .junk .junk .junk .junk, .mk .junk .junk .junk .junk .junk .junk .junk .junk, .mk .junk .junk .junk .junk .junk .junk .junk .junk] [.junk, .junk, .junk]) _ ?_ (take_all (by simp)) (Cv.done ⟨k + 1, ⟨by omega, by omega⟩, by omega, rfl, ?_⟩)
            · simp [rlE, rlRs, rlR, rlL, DV.le, w4]
            · rw [getD_i (by rw [fn_len]; omega), List.set_cons_zero]
              have := fn_set n (fun j => if l[i].f ≤ (j : Int) ∧ (j : Int) < k then l[i].m else mk (l.take i) j) (fun j => if l[i].f ≤ (j : Int) ∧ (j : Int) < k + 1 then l[i].m else mk (l.take i) j) k.toNat (fun j => by
                by_cases e : j = k.toNat
                · rw [if_pos e, e]
                · rw [if_neg e]
                  by_cases h5 : l[i].f ≤ (j : Int) ∧ (j : Int) < k
                  · rw [if_pos h5, if_pos (by omega)]
                  · rw [if_neg h5, if_neg (by omega)])
              rw [if_pos (by omega)] at this
              rw [this]
          · have : k = l[i].t := by omega
            subst this
            try simp only [d1, c1, e1, encSp_len, decide_eq_false hkt, ev,evA,true_and,and_true,and_self,if_true,if_false,reduceIte,ne_eq,forall_const,false_implies,beq_self_eq_true,decide_true,decide_false,Int.cast_ofNat_Int,Nat.reduceAdd,Nat.reduceLT,Nat.reduceLeDiff,Nat.reduceEqDiff,Nat.reduceBEq,Nat.reduceMul,Nat.reduceSub,Int.reduceToNat,Int.reduceEq,Int.reduceNe,Int.reduceLT,Int.reduceLE,Int.reduceBEq,Int.reduceAdd,Int.reduceSub,Int.reduceMul,hP,hW]
            refine Cv.ex (S.length + 2) _ _ ?_ (take_all (by simp)) (Cv.done ⟨rfl, ?_⟩)
            · simp [rlE, rlRs, rlR, rlL, DV.le]
            · rw [fn_congr (fun j _ => (mk_take hr hlt j).symm)]
      · intro e S' hcv
        refine SX_cv (by rw [hW]; exact hcv) ?_
        rintro e S' ⟨rfl, rfl⟩
        have w3 : IntKind.i64.wrap ((i : Int) + 1) = ((i + 1 : Nat) : Int) := by rw [wrap_id (by omega) (by omega)]; omega
        refine SX_of_G 100 ?_
        try simp only [w3, ev,evA,true_and,and_true,and_self,if_true,if_false,reduceIte,ne_eq,forall_const,false_implies,beq_self_eq_true,decide_true,decide_false,Int.cast_ofNat_Int,Nat.reduceAdd,Nat.reduceLT,Nat.reduceLeDiff,Nat.reduceEqDiff,Nat.reduceBEq,Nat.reduceMul,Nat.reduceSub,Int.reduceToNat,Int.reduceEq,Int.reduceNe,Int.reduceLT,Int.reduceLE,Int.reduceBEq,Int.reduceAdd,Int.reduceSub,Int.reduceMul,hP,hW]
        refine Cv.ex (S.length + 2) _ _ ?_ (take_all (by simp)) (Cv.done ⟨i + 1, hlt, by omega, rfl, rfl⟩)
        simp [rlE, rlRs, rlR, rlL, DV.le]
    · have d1 : decide ((i : Int) < (l.length : Int)) = false := decide_eq_false (by omega)
      have hk' : i = l.length := by omega
      subst hk'
      try simp only [d1, encSp_len, ev,evA,true_and,and_true,and_self,if_true,if_false,reduceIte,ne_eq,forall_const,false_implies,beq_self_eq_true,decide_true,decide_false,Int.cast_ofNat_Int,Nat.reduceAdd,Nat.reduceLT,Nat.reduceLeDiff,Nat.reduceEqDiff,Nat.reduceBEq,Nat.reduceMul,Nat.reduceSub,Int.reduceToNat,Int.reduceEq,Int.reduceNe,Int.reduceLT,Int.reduceLE,Int.reduceBEq,Int.reduceAdd,Int.reduceSub,Int.reduceMul,hP,hW]
      refine hret _ _ S.length 5 ?_
      simp only [r_ref04_each, encI_len, fn_len, Nat.le_refl, if_true, ev,evA,true_and,and_true,and_self,if_true,if_false,reduceIte,ne_eq,forall_const,false_implies,beq_self_eq_true,decide_true,decide_false,Int.cast_ofNat_Int,Nat.reduceAdd,Nat.reduceLT,Nat.reduceLeDiff,Nat.reduceEqDiff,Nat.reduceBEq,Nat.reduceMul,Nat.reduceSub,Int.reduceToNat,Int.reduceEq,Int.reduceNe,Int.reduceLT,Int.reduceLE,Int.reduceBEq,Int.reduceAdd,Int.reduceSub,Int.reduceMul,hP,hW]
      exact ⟨_, rfl, by rw [List.take_of_length_le (by rw [encI_len, fn_len]; exact Nat.le_refl _), encI_map]⟩

theorem t_spans (hm : Tryd.prog.follows .mixedOrders = true) (W0 : World) (S : List SO) (es : List Int) (hn : es.length ≤ 1099511627776) (hp : ∀ x ∈ es, 0 ≤ x) : CtP Tryd.prog W0 n_ref04_spans [.lst 1 false (encI es)] S
    (fun d => ∃ l, d = .lst 3 false (encSp l) ∧ RS es.length 0 0 l ∧ ∀ k, (h : k < es.length) → mk l k = es[k]) := by
  refine Ct_R k_ref04_spans 400 (.mk [.mk (.lst 1 false (encI es)) .junk .junk .junk .junk .junk .junk .junk, .mk .junk .junk .junk .junk .junk .junk .junk .junk, .mk .junk .junk .junk .junk .junk .junk .junk .junk, .mk .junk .junk .junk .junk .junk .junk .junk .junk, .mk .junk .junk .junk .junk .junk .junk .junk .junk, .mk .junk .junk .junk .junk .junk .junk .junk .junk, .mk .junk .junk .junk .junk .junk .junk .junk .junk, .mk .junk .junk .junk .junk .junk .junk .junk .junk] [.junk, .junk]) rfl rfl fun r hP hW hpan hret => ?_
  simp only [c_ref04_spans, ev,evA,true_and,and_true,and_self,if_true,if_false,reduceIte,ne_eq,forall_const,false_implies,beq_self_eq_true,decide_true,decide_false,Int.cast_ofNat_Int,Nat.reduceAdd,Nat.reduceLT,Nat.reduceLeDiff,Nat.reduceEqDiff,Nat.reduceBEq,Nat.reduceMul,Nat.reduceSub,Int.reduceToNat,Int.reduceEq,Int.reduceNe,Int.reduceLT,Int.reduceLE,Int.reduceBEq,Int.reduceAdd,Int.reduceSub,Int.reduceMul,hP,hW]
  try simp only [hm, encI_len, ev,evA,true_and,and_true,and_self,if_true,if_false,reduceIte,ne_eq,forall_const,false_implies,beq_self_eq_true,decide_true,decide_false,Int.cast_ofNat_Int,Nat.reduceAdd,Nat.reduceLT,Nat.reduceLeDiff,Nat.reduceEqDiff,Nat.reduceBEq,Nat.reduceMul,Nat.reduceSub,Int.reduceToNat,Int.reduceEq,Int.reduceNe,Int.reduceLT,Int.reduceLE,Int.reduceBEq,Int.reduceAdd,Int.reduceSub,Int.reduceMul,hP,hW]
  refine SX_lp (α := Nat × Nat × List Sp) (fun (i, g, l) => i ≤ es.length ∧ l.length ≤ i ∧ RS i 0 0 l ∧ ∀ k, (h : k < es.length) → k < i → mk l k = es[k]) (fun (i, g, l) => (.mk [.mk (.lst 1 false (encI es)) .junk (.raw (.slice none 0 0)) (.row S.length g 3 0 l.length) (.raw (.int .i64 i)) .junk .junk .junk, .mk .junk .junk .junk .junk .junk .junk .junk .junk, .mk .junk .junk .junk .junk .junk .junk .junk .junk, .mk .junk .junk .junk .junk .junk .junk .junk .junk, .mk .junk .junk .junk .junk .junk .junk .junk .junk, .mk .junk .junk .junk .junk .junk .junk .junk .junk, .mk .junk .junk .junk .junk .junk .junk .junk .junk, .mk .junk .junk .junk .junk .junk .junk .junk .junk] [.junk, .junk])) (fun (i, g, l) => S ++ [.row g 3 (encSp l)]) (fun (i, _) => es.length - i) 300 ?_ ?_
  · refine Cv.ex S.length (.mk [.mk (.lst 1 false (encI es)) .junk (.raw (.slice none 0 0)) (.raw (.slice none 0 0)) (.raw (.int .i64 0)) .junk .junk .junk, .mk .junk .junk .junk .junk .junk .junk .junk .junk, .mk .junk .junk .junk .junk .junk .junk .junk .junk, .mk .junk .junk .junk .junk .junk .junk .junk .junk, .mk .junk .junk .junk .junk .junk .junk .junk .junk, .mk .junk .junk .junk .junk .junk .junk .junk .junk, .mk .junk .junk .junk .junk .junk .junk .junk .junk, .mk .junk .junk .junk .junk .junk .junk .junk .junk] [.junk, .junk]) _ ?_ (take_all (Nat.le_refl _)) ?_
    · simp [rlE, rlRs, rlR, rlL, DV.le]
    refine Cv.nil 3 (fun g => (.mk [.mk (.lst 1 false (encI es)) .junk (.raw (.slice none 0 0)) (.row S.length g 3 0 0) (.raw (.int .i64 0)) .junk .junk .junk, .mk .junk .junk .junk .junk .junk .junk .junk .junk, .mk .junk .junk .junk .junk .junk .junk .junk .junk, .mk .junk .junk .junk .junk .junk .junk .junk .junk, .mk .junk .junk .junk .junk .junk .junk .junk .junk, .mk .junk .junk .junk .junk .junk .junk .junk .junk, .mk .junk .junk .junk .junk .junk .junk .junk .junk, .mk .junk .junk .junk .junk .junk .junk .junk .junk] [.junk, .junk])) (fun g => _) ?_ (fun g => rlS_refl _) (fun g => Cv.done ⟨(0, g, []), ⟨Nat.zero_le _, Nat.le_refl _, trivial, fun k _ h => absurd h (by omega)⟩, rfl, rfl⟩)
    intro g; simp [rlE, rlRs, rlR, rlL, nlD]
  · rintro ⟨i, g, l⟩ ⟨hi, hll, hr, hk⟩
    by_cases hlt : i < es.length
    · have d1 : decide ((i : Int) < (es.length : Int)) = true := decide_eq_true (by omega)
      have c1 : (0 ≤ (i : Int) ∧ (i : Int) < (es.length : Int)) = True := by simp; omega
      have e1 := getD_i hlt
      have hpi := hp _ (List.getElem_mem hlt)
      have w3 : IntKind.i64.wrap ((i : Int) + 1) = ((i + 1 : Nat) : Int) := by rw [wrap_id (by omega) (by omega)]; omega
      try simp only [d1, c1, e1, encI_len, hm, ev,evA,true_and,and_true,and_self,if_true,if_false,reduceIte,ne_eq,forall_const,false_implies,beq_self_eq_true,decide_true,decide_false,Int.cast_ofNat_Int,Nat.reduceAdd,Nat.reduceLT,Nat.reduceLeDiff,Nat.reduceEqDiff,Nat.reduceBEq,Nat.reduceMul,Nat.reduceSub,Int.reduceToNat,Int.reduceEq,Int.reduceNe,Int.reduceLT,Int.reduceLE,Int.reduceBEq,Int.reduceAdd,Int.reduceSub,Int.reduceMul,hP,hW]
      have hrl := RS.mono (n' := ((i + 1 : Nat) : Int)) (by omega) hr
      cases h0 : (es[i] == 0)
      · have hne : ¬ es[i] = 0 := by simpa using h0
        obtain ⟨a1, a2⟩ := addS_ok (s := ⟨es[i], i, (i + 1 : Nat)⟩) hr (by omega) (by simp only; omega) (by simp only; omega) (by simp only; omega)
        have hfin : ∀ k, (h : k < es.length) → k < i + 1 → mk (addS l ⟨es[i], i, (i + 1 : Nat)⟩) k = es[k] := by
          intro k h hki
          rw [a2]
          by_cases e : k = i
          · subst e; rw [if_pos (by simp only; omega)]
          · rw [if_neg (by simp only; omega)]; exact hk k h (by omega)
        have hlen := addS_len l ⟨es[i], i, (i + 1 : Nat)⟩
        simp only at a1
        have fin : ∀ (g' : Nat) (e' : En), e' = (.mk [.mk (.lst 1 false (encI es)) .junk (.raw (.slice none 0 0)) (.row S.length g' 3 0 (addS l ⟨es[i], i, (i + 1 : Nat)⟩).length) (.raw (.int .i64 (i + 1 : Nat))) .junk .junk .junk, .mk .junk .junk .junk .junk .junk .junk .junk .junk, .mk .junk .junk .junk .junk .junk .junk .junk .junk, .mk .junk .junk .junk .junk .junk .junk .junk .junk, .mk .junk .junk .junk .junk .junk .junk .junk .junk, .mk .junk .junk .junk .junk .junk .junk .junk .junk, .mk .junk .junk .junk .junk .junk .junk .junk .junk, .mk .junk .junk .junk .junk .junk .junk .junk .junk] [.junk, .junk]) →
            Cv W0 e' (S ++ [.row g' 3 (encSp (addS l ⟨es[i], i, (i + 1 : Nat)⟩))]) fun e2 S2 => ∃ x' : Nat × Nat × List Sp, (x'.1 ≤ es.length ∧ x'.2.2.length ≤ x'.1 ∧ RS x'.1 0 0 x'.2.2 ∧ ∀ k, (h : k < es.length) → k < x'.1 → mk x'.2.2 k = es[k]) ∧ es.length - x'.1 < es.length - i ∧ e2 = (.mk [.mk (.lst 1 false (encI es)) .junk (.raw (.slice none 0 0)) (.row S.length x'.2.1 3 0 x'.2.2.length) (.raw (.int .i64 x'.1)) .junk .junk .junk, .mk .junk .junk .junk .junk .junk .junk .junk .junk, .mk .junk .junk .junk .junk .junk .junk .junk .junk, .mk .junk .junk .junk .junk .junk .junk .junk .junk, .mk .junk .junk .junk .junk .junk .junk .junk .junk, .mk .junk .junk .junk .junk .junk .junk .junk .junk, .mk .junk .junk .junk .junk .junk .junk .junk .junk, .mk .junk .junk .junk .junk .junk .junk .junk .junk] [.junk, .junk]) ∧ S2 = S ++ [.row x'.2.1 3 (encSp x'.2.2)] := by
          rintro g' e' rfl
          exact Cv.done ⟨(i + 1, g', addS l ⟨es[i], i, (i + 1 : Nat)⟩), ⟨hlt, by simp only; omega, a1, hfin⟩, by simp only; omega, rfl, rfl⟩
        rcases List.eq_nil_or_concat l with rfl | ⟨l0, q, hlq⟩
        · have ea : addS [] ⟨es[i], i, (i + 1 : Nat)⟩ = [⟨es[i], i, (i + 1 : Nat)⟩] := by unfold addS; rw [if_neg (by simp only; omega)]; rfl
          try simp only [hm, w3, List.length_nil, show decide ((0 : Int) < ((0 : Nat) : Int)) = false from rfl, c1, e1, encI_len, ev,evA,true_and,and_true,and_self,if_true,if_false,reduceIte,ne_eq,forall_const,false_implies,beq_self_eq_true,decide_true,decide_false,Int.cast_ofNat_Int,Nat.reduceAdd,Nat.reduceLT,Nat.reduceLeDiff,Nat.reduceEqDiff,Nat.reduceBEq,Nat.reduceMul,Nat.reduceSub,Int.reduceToNat,Int.reduceEq,Int.reduceNe,Int.reduceLT,Int.reduceLE,Int.reduceBEq,Int.reduceAdd,Int.reduceSub,Int.reduceMul,hP,hW]
          intro g1
          try simp only [hm, w3, List.length_nil, c1, e1, encI_len, encSp_nil, ev,evA,true_and,and_true,and_self,if_true,if_false,reduceIte,ne_eq,forall_const,false_implies,beq_self_eq_true,decide_true,decide_false,Int.cast_ofNat_Int,Nat.reduceAdd,Nat.reduceLT,Nat.reduceLeDiff,Nat.reduceEqDiff,Nat.reduceBEq,Nat.reduceMul,Nat.reduceSub,Int.reduceToNat,Int.reduceEq,Int.reduceNe,Int.reduceLT,Int.reduceLE,Int.reduceBEq,Int.reduceAdd,Int.reduceSub,Int.reduceMul,hP,hW]
          intro g2
          refine Cv.ex (S.length + 1) _ _ ?_ (take_append1 ..) (by have := fin g2 _ rfl; rw [ea] at this; exact this)
          simp [rlE, rlRs, rlR, rlL, DV.le]
        · rw [List.concat_eq_append] at hlq
          subst hlq
          have e1' : decide ((0 : Int) < ((l0.length + 1 : Nat) : Int)) = true := decide_eq_true (by omega)
          have e2 : IntKind.i64.wrap (((l0.length + 1 : Nat) : Int) - 1) = (l0.length : Int) := by
            have : l0.length + 1 ≤ i := by simpa using hll
            rw [wrap_id (by omega) (by omega)]; omega
          have e3 : (encSp (l0 ++ [q])).getD l0.length [] = [.raw (.int .i64 q.m), .raw (.int .i64 q.f), .raw (.int .i64 q.t)] := by rw [getD_sp (by simp)]; simp
          have e4 : (0 ≤ (l0.length : Int) ∧ (l0.length : Int) < ((l0.length + 1 : Nat) : Int)) = True := by simp; omega
          have e3' : atE (encSp (l0 ++ [q])) l0.length = [.raw (.int .i64 q.m), .raw (.int .i64 q.f), .raw (.int .i64 q.t)] := e3
          have e5 : (l0.length < (encSp (l0 ++ [q])).length) = True := by simp [encSp_len]
          have eg : (l0 ++ [q]).getLast? = some q := by simp
          have e6 : (encSp (l0 ++ [q])).take (l0.length + 1) = encSp (l0 ++ [q]) := List.take_of_length_le (by rw [encSp_len]; simp)
          have e8 : (l0.length + 1 ≤ (encSp (l0 ++ [q])).length) = True := by simp [encSp_len]
          have hl2 : l0.length + 1 ≤ i := by simpa using hll
          have app : ¬ (q.t = i ∧ q.m = es[i]) → addS (l0 ++ [q]) ⟨es[i], i, (i + 1 : Nat)⟩ = l0 ++ [q] ++ [⟨es[i], i, (i + 1 : Nat)⟩] := by
            intro h
            unfold addS
            rw [if_neg (by simp only; omega), eg]; simp only; rw [if_neg h]
          try simp only [hm, w3, c1, e1, List.length_append, List.length_cons, e1', e2, e3, e3', e4, e5, e6, e8, encI_len, ev,evA,true_and,and_true,and_self,if_true,if_false,reduceIte,ne_eq,forall_const,false_implies,beq_self_eq_true,decide_true,decide_false,Int.cast_ofNat_Int,Nat.reduceAdd,Nat.reduceLT,Nat.reduceLeDiff,Nat.reduceEqDiff,Nat.reduceBEq,Nat.reduceMul,Nat.reduceSub,Int.reduceToNat,Int.reduceEq,Int.reduceNe,Int.reduceLT,Int.reduceLE,Int.reduceBEq,Int.reduceAdd,Int.reduceSub,Int.reduceMul,hP,hW]
          cases h1 : (q.t == (i : Int))
          · try simp only [hm, w3, c1, e1, List.length_append, List.length_cons, e1', e2, e3, e3', e4, e5, e6, e8, encI_len, ev,evA,true_and,and_true,and_self,if_true,if_false,reduceIte,ne_eq,forall_const,false_implies,beq_self_eq_true,decide_true,decide_false,Int.cast_ofNat_Int,Nat.reduceAdd,Nat.reduceLT,Nat.reduceLeDiff,Nat.reduceEqDiff,Nat.reduceBEq,Nat.reduceMul,Nat.reduceSub,Int.reduceToNat,Int.reduceEq,Int.reduceNe,Int.reduceLT,Int.reduceLE,Int.reduceBEq,Int.reduceAdd,Int.reduceSub,Int.reduceMul,hP,hW]
            intro g1
            try simp only [hm, w3, c1, e1, List.length_append, List.length_cons, e1', e2, e3, e3', e4, e5, e6, e8, encI_len, ev,evA,true_and,and_true,and_self,if_true,if_false,reduceIte,ne_eq,forall_const,false_implies,beq_self_eq_true,decide_true,decide_false,Int.cast_ofNat_Int,Nat.reduceAdd,Nat.reduceLT,Nat.reduceLeDiff,Nat.reduceEqDiff,Nat.reduceBEq,Nat.reduceMul,Nat.reduceSub,Int.reduceToNat,Int.reduceEq,Int.reduceNe,Int.reduceLT,Int.reduceLE,Int.reduceBEq,Int.reduceAdd,Int.reduceSub,Int.reduceMul,hP,hW]
            refine ⟨⟨by omega, by omega⟩, fun g2 => ?_⟩
            have h2 := app (by rintro ⟨h, _⟩; rw [h] at h1; simp at h1)
            refine Cv.ex (S.length + 1) _ (S ++ [.row g2 3 (encSp (l0 ++ [q] ++ [⟨es[i], i, (i + 1 : Nat)⟩]))]) ?_ ?_ (by have := fin g2 _ rfl; rw [h2] at this; exact this)
            · simp [rlE, rlRs, rlR, rlL, DV.le]
            · rw [take_append1, encSp_app (l0 ++ [q])]; rfl
          · try simp only [hm, w3, c1, e1, List.length_append, List.length_cons, e1', e2, e3, e3', e4, e5, e6, e8, encI_len, ev,evA,true_and,and_true,and_self,if_true,if_false,reduceIte,ne_eq,forall_const,false_implies,beq_self_eq_true,decide_true,decide_false,Int.cast_ofNat_Int,Nat.reduceAdd,Nat.reduceLT,Nat.reduceLeDiff,Nat.reduceEqDiff,Nat.reduceBEq,Nat.reduceMul,Nat.reduceSub,Int.reduceToNat,Int.reduceEq,Int.reduceNe,Int.reduceLT,Int.reduceLE,Int.reduceBEq,Int.reduceAdd,Int.reduceSub,Int.reduceMul,hP,hW]
            cases h2 : (q.m == es[i])
            · try simp only [hm, w3, c1, e1, List.length_append, List.length_cons, e1', e2, e3, e3', e4, e5, e6, e8, encI_len, ev,evA,true_and,and_true,and_self,if_true,if_false,reduceIte,ne_eq,forall_const,false_implies,beq_self_eq_true,decide_true,decide_false,Int.cast_ofNat_Int,Nat.reduceAdd,Nat.reduceLT,Nat.reduceLeDiff,Nat.reduceEqDiff,Nat.reduceBEq,Nat.reduceMul,Nat.reduceSub,Int.reduceToNat,Int.reduceEq,Int.reduceNe,Int.reduceLT,Int.reduceLE,Int.reduceBEq,Int.reduceAdd,Int.reduceSub,Int.reduceMul,hP,hW]
              intro g1
              try simp only [hm, w3, c1, e1, List.length_append, List.length_cons, e1', e2, e3, e3', e4, e5, e6, e8, encI_len, ev,evA,true_and,and_true,and_self,if_true,if_false,reduceIte,ne_eq,forall_const,false_implies,beq_self_eq_true,decide_true,decide_false,Int.cast_ofNat_Int,Nat.reduceAdd,Nat.reduceLT,Nat.reduceLeDiff,Nat.reduceEqDiff,Nat.reduceBEq,Nat.reduceMul,Nat.reduceSub,Int.reduceToNat,Int.reduceEq,Int.reduceNe,Int.reduceLT,Int.reduceLE,Int.reduceBEq,Int.reduceAdd,Int.reduceSub,Int.reduceMul,hP,hW]
              refine ⟨⟨by omega, by omega⟩, fun g2 => ?_⟩
              have h3 := app (by rintro ⟨_, h⟩; rw [h] at h2; simp at h2)
              refine Cv.ex (S.length + 1) _ (S ++ [.row g2 3 (encSp (l0 ++ [q] ++ [⟨es[i], i, (i + 1 : Nat)⟩]))]) ?_ ?_ (by have := fin g2 _ rfl; rw [h3] at this; exact this)
              · simp [rlE, rlRs, rlR, rlL, DV.le]
              · rw [take_append1, encSp_app (l0 ++ [q])]; rfl
            · try simp only [hm, w3, c1, e1, List.length_append, List.length_cons, e1', e2, e3, e3', e4, e5, e6, e8, encI_len, ev,evA,true_and,and_true,and_self,if_true,if_false,reduceIte,ne_eq,forall_const,false_implies,beq_self_eq_true,decide_true,decide_false,Int.cast_ofNat_Int,Nat.reduceAdd,Nat.reduceLT,Nat.reduceLeDiff,Nat.reduceEqDiff,Nat.reduceBEq,Nat.reduceMul,Nat.reduceSub,Int.reduceToNat,Int.reduceEq,Int.reduceNe,Int.reduceLT,Int.reduceLE,Int.reduceBEq,Int.reduceAdd,Int.reduceSub,Int.reduceMul,hP,hW]
              have h3 : addS (l0 ++ [q]) ⟨es[i], i, (i + 1 : Nat)⟩ = l0 ++ [⟨q.m, q.f, (i + 1 : Nat)⟩] := by
                unfold addS
                rw [if_neg (by simp only; omega), eg]; simp only; rw [if_pos ⟨by simpa using h1, by simpa using h2⟩, List.dropLast_concat]
              have h4 : (encSp (l0 ++ [q])).set l0.length [I q.m, I q.f, I (i + 1 : Nat)] = encSp (l0 ++ [⟨q.m, q.f, (i + 1 : Nat)⟩]) := by
                rw [encSp_app, encSp_app, List.set_append_right _ _ (by rw [encSp_len]; exact Nat.le_refl _), encSp_len, Nat.sub_self]; rfl
              refine Cv.ex (S.length + 1) _ (S ++ [.row g 3 (encSp (l0 ++ [⟨q.m, q.f, (i + 1 : Nat)⟩]))]) ?_ ?_ (by have := fin g _ rfl; rw [h3] at this; exact this)
              · simp [rlE, rlRs, rlR, rlL, DV.le]
              · rw [← h4, take_all (by simp)]
      · have h0' : es[i] = 0 := by simpa using h0
        try simp only [hm, w3, ev,evA,true_and,and_true,and_self,if_true,if_false,reduceIte,ne_eq,forall_const,false_implies,beq_self_eq_true,decide_true,decide_false,Int.cast_ofNat_Int,Nat.reduceAdd,Nat.reduceLT,Nat.reduceLeDiff,Nat.reduceEqDiff,Nat.reduceBEq,Nat.reduceMul,Nat.reduceSub,Int.reduceToNat,Int.reduceEq,Int.reduceNe,Int.reduceLT,Int.reduceLE,Int.reduceBEq,Int.reduceAdd,Int.reduceSub,Int.reduceMul,hP,hW]
        refine Cv.ex (S.length + 1) _ _ ?_ (take_all (by simp)) (Cv.done ⟨(i + 1, g, l), ⟨hlt, by simp only; omega, hrl, fun k h hki => ?_⟩, by simp only; omega, rfl, rfl⟩)
        · simp [rlE, rlRs, rlR, rlL, DV.le]
        · by_cases e : k = i
          · subst e; simp only; rw [hr.above (Int.le_refl _), h0']
          · exact hk k h (by omega)
    · have d1 : decide ((i : Int) < (es.length : Int)) = false := decide_eq_false (by omega)
      have hk' : i = es.length := by omega
      subst hk'
      try simp only [d1, encI_len, ev,evA,true_and,and_true,and_self,if_true,if_false,reduceIte,ne_eq,forall_const,false_implies,beq_self_eq_true,decide_true,decide_false,Int.cast_ofNat_Int,Nat.reduceAdd,Nat.reduceLT,Nat.reduceLeDiff,Nat.reduceEqDiff,Nat.reduceBEq,Nat.reduceMul,Nat.reduceSub,Int.reduceToNat,Int.reduceEq,Int.reduceNe,Int.reduceLT,Int.reduceLE,Int.reduceBEq,Int.reduceAdd,Int.reduceSub,Int.reduceMul,hP,hW]
      refine hret _ _ S.length 5 ?_
      simp only [r_ref04_spans, encSp_take, encSp_map, encSp_len, Nat.le_refl, if_true, ev,evA,true_and,and_true,and_self,if_true,if_false,reduceIte,ne_eq,forall_const,false_implies,beq_self_eq_true,decide_true,decide_false,Int.cast_ofNat_Int,Nat.reduceAdd,Nat.reduceLT,Nat.reduceLeDiff,Nat.reduceEqDiff,Nat.reduceBEq,Nat.reduceMul,Nat.reduceSub,Int.reduceToNat,Int.reduceEq,Int.reduceNe,Int.reduceLT,Int.reduceLE,Int.reduceBEq,Int.reduceAdd,Int.reduceSub,Int.reduceMul,hP,hW]
      exact ⟨_, rfl, l, rfl, hr, fun k h => hk k h h⟩
end Go.Dv
/-
  The document's marks: a site; the same.
-/
namespace Go.Dv
open Go Go.RowKit Go.Proofs
set_option linter.unusedSimpArgs false
set_option linter.unusedVariables false
set_option maxRecDepth 8000

theorem siteL_eq (l : List Si) (s : Si) : siteL (s :: l) s = s :: l := by simp [siteL]
theorem siteL_lt (l : List Si) (x s : Si) (hne : ¬ x = s) (h : s.lt x) : siteL (x :: l) s = s :: x :: l := by simp [siteL, hne, h]
theorem siteL_gt (l : List Si) (x s : Si) (hne : ¬ x = s) (h : ¬ s.lt x) : siteL (x :: l) s = x :: siteL l s := by simp [siteL, hne, h]
/-- How far site is. -/
def SiteI (l : List Si) (s : Si) (i : Nat) (done : Bool) (o : List Si) : Prop :=
  o.length ≤ i + 1 ∧ (done = false → o = l.take i ∧ ∀ r, siteL (l.take i ++ r) s = l.take i ++ siteL r s) ∧
  (done = true → (∃ y ∈ l.take i, s.lt y) ∧ ∀ r, siteL (l.take i ++ r) s = o ++ r)

theorem SiteI.keep {l : List Si} {s : Si} {i : Nat} {o : List Si} (h : SiteI l s i true o) (hlt : i < l.length) : SiteI l s (i + 1) true (o ++ [l[i]]) := by
  obtain ⟨hol, -, hit⟩ := h
  have hh := hit rfl
  have hrr := hh.2
  have htk : l.take (i + 1) = l.take i ++ [l[i]] := take_snoc hlt
  refine ⟨by simp; omega, (fun h => by cases h), fun _ => ⟨?_, fun r => by rw [htk, List.append_assoc, hrr]; simp⟩⟩
  have ⟨y, hy, hys⟩ := hh.1
  exact ⟨y, by rw [htk]; exact List.mem_append_left _ hy, hys⟩
theorem SiteI.go {l : List Si} {s : Si} {i : Nat} {o : List Si} (h : SiteI l s i false o) (hlt : i < l.length) (hne : ¬ l[i] = s) (hn : ¬ s.lt l[i]) : SiteI l s (i + 1) false (o ++ [l[i]]) := by
  obtain ⟨hol, hif, -⟩ := h
  have hh := hif rfl
  have ho := hh.1
  have hrr := hh.2
  have htk : l.take (i + 1) = l.take i ++ [l[i]] := take_snoc hlt
  exact ⟨by simp; omega, fun _ => ⟨by rw [ho, htk], fun r => by rw [htk, List.append_assoc, List.append_assoc, hrr]; simp [siteL_gt _ _ _ hne hn]⟩, fun h => by cases h⟩
theorem SiteI.put {l : List Si} {s : Si} {i : Nat} {o : List Si} (h : SiteI l s i false o) (hlt : i < l.length) (hne : ¬ l[i] = s) (hn : s.lt l[i]) : SiteI l s (i + 1) true (o ++ [s] ++ [l[i]]) := by
  obtain ⟨hol, hif, -⟩ := h
  have hh := hif rfl
  have ho := hh.1
  have hrr := hh.2
  have htk : l.take (i + 1) = l.take i ++ [l[i]] := take_snoc hlt
  exact ⟨by rw [ho]; simp; omega, fun h => (by cases h), fun _ => ⟨⟨l[i], by rw [htk]; exact List.mem_append_right _ List.mem_cons_self, hn⟩, fun r => by rw [htk, List.append_assoc, hrr]; simp [siteL_lt _ _ _ hne hn, ho]⟩⟩
theorem SiteI.at {l : List Si} {s : Si} {i : Nat} {dn : Bool} {o : List Si} (h : SiteI l s i dn o) (hs : SS l) (hlt : i < l.length) (hes : l[i] = s) : siteL l s = l := by
  obtain ⟨hol, hif, hit⟩ := h
  have hsp : l.take i ++ s :: l.drop (i + 1) = l := by rw [← hes, ← List.drop_eq_getElem_cons hlt, List.take_append_drop]
  cases dn with
  | true =>
    have ⟨y, hy, hys⟩ := (hit rfl).1
    have h3 : SS (l.take i ++ s :: l.drop (i + 1)) := by rw [hsp]; exact hs
    have h4 := (List.pairwise_append.1 h3).2.2 y hy s List.mem_cons_self
    exact absurd (Si.lt_trans h4 hys) (by unfold Si.lt; omega)
  | false =>
    have h3 := (hif rfl).2 (s :: l.drop (i + 1))
    rw [siteL_eq, hsp] at h3
    exact h3
theorem SiteI.endT {l : List Si} {s : Si} {o : List Si} (h : SiteI l s l.length true o) : siteL l s = o := by
  have h3 := (h.2.2 rfl).2 []
  rwa [List.take_length, List.append_nil, List.append_nil] at h3
theorem SiteI.endF {l : List Si} {s : Si} {o : List Si} (h : SiteI l s l.length false o) : siteL l s = o ++ [s] := by
  have h3 := (h.2.1 rfl).2 []
  have h4 := (h.2.1 rfl).1
  rw [List.take_length, List.append_nil] at h3
  rw [List.take_length] at h4
  rw [h3, h4]; rfl

set_option maxHeartbeats 1000000 in
theorem t_site (hm : Tryd.prog.follows .mixedOrders = true) (W0 : World) (S : List SO) (l : List Si) (s : Si) (hl : l.length ≤ 1099511627776) (hs : SS l) : CtP Tryd.prog W0 n_ref04_site [.lst 2 false (encSi l), .agg (Si.c s)] S
    (fun d => d = .lst 2 false (encSi (siteL l s))) := by
  refine Ct_R k_ref04_site 400 (.mk [.mk (.lst 2 false (encSi l)) (.agg (Si.c s)) .junk .junk .junk .junk .junk .junk, .mk .junk .junk .junk .junk .junk .junk .junk .junk, .mk .junk .junk .junk .junk .junk .junk .junk .junk, .mk .junk .junk .junk .junk .junk .junk .junk .junk, .mk .junk .junk .junk .junk .junk .junk .junk .junk, .mk .junk .junk .junk .junk .junk .junk .junk .junk, .mk .junk .junk .junk .junk .junk .junk .junk .junk, .mk .junk .junk .junk .junk .junk .junk .junk .junk] [.junk, .junk, .junk, .junk, .junk, .junk, .junk]) rfl rfl fun r hP hW hpan hret => ?_
  simp only [c_ref04_site, ev,evA,true_and,and_true,and_self,if_true,if_false,reduceIte,ne_eq,forall_const,false_implies,beq_self_eq_true,decide_true,decide_false,Int.cast_ofNat_Int,Nat.reduceAdd,Nat.reduceLT,Nat.reduceLeDiff,Nat.reduceEqDiff,Nat.reduceBEq,Nat.reduceMul,Nat.reduceSub,Int.reduceToNat,Int.reduceEq,Int.reduceNe,Int.reduceLT,Int.reduceLE,Int.reduceBEq,Int.reduceAdd,Int.reduceSub,Int.reduceMul,hP,hW]
  try simp only [hm, encSi_len, Si.c, ev,evA,true_and,and_true,and_self,if_true,if_false,reduceIte,ne_eq,forall_const,false_implies,beq_self_eq_true,decide_true,decide_false,Int.cast_ofNat_Int,Nat.reduceAdd,Nat.reduceLT,Nat.reduceLeDiff,Nat.reduceEqDiff,Nat.reduceBEq,Nat.reduceMul,Nat.reduceSub,Int.reduceToNat,Int.reduceEq,Int.reduceNe,Int.reduceLT,Int.reduceLE,Int.reduceBEq,Int.reduceAdd,Int.reduceSub,Int.reduceMul,hP,hW]
  intro g
  refine SX_lp (α := Nat × Bool × List Si × Nat) (fun (i, dn, o, g1) => i ≤ l.length ∧ SiteI l s i dn o) (fun (i, dn, o, g1) => (.mk [.mk (.lst 2 false (encSi l)) (.agg [.raw (.int .i64 s.m), .raw (.int .i64 s.a)]) .junk (.loc S.length (g 0) 0) (.raw (.slice none 0 0)) (.row (S.length + 1) g1 2 0 o.length) (.raw (.bool dn)) (.raw (.int .i64 i)), .mk .junk .junk .junk .junk .junk .junk .junk .junk, .mk .junk .junk .junk .junk .junk .junk .junk .junk, .mk .junk .junk .junk .junk .junk .junk .junk .junk, .mk .junk .junk .junk .junk .junk .junk .junk .junk, .mk .junk .junk .junk .junk .junk .junk .junk .junk, .mk .junk .junk .junk .junk .junk .junk .junk .junk, .mk .junk .junk .junk .junk .junk .junk .junk .junk] [.junk, .junk, .junk, .junk, .junk, .junk, .junk]))
    (fun (i, dn, o, g1) => S ++ [.cells (g 0) [.raw (.int .i64 s.m), .raw (.int .i64 s.a)], .row g1 2 (encSi o)]) (fun (i, _) => l.length - i) 300 ?_ ?_
  · refine Cv.ex (S.length + 1) (.mk [.mk (.lst 2 false (encSi l)) (.agg [.raw (.int .i64 s.m), .raw (.int .i64 s.a)]) .junk (.loc S.length (g 0) 0) (.raw (.slice none 0 0)) (.raw (.slice none 0 0)) (.raw (.bool false)) (.raw (.int .i64 (0 : Nat))), .mk .junk .junk .junk .junk .junk .junk .junk .junk, .mk .junk .junk .junk .junk .junk .junk .junk .junk, .mk .junk .junk .junk .junk .junk .junk .junk .junk, .mk .junk .junk .junk .junk .junk .junk .junk .junk, .mk .junk .junk .junk .junk .junk .junk .junk .junk, .mk .junk .junk .junk .junk .junk .junk .junk .junk, .mk .junk .junk .junk .junk .junk .junk .junk .junk] [.junk, .junk, .junk, .junk, .junk, .junk, .junk]) _ ?_ (take_all (by simp)) ?_
    · simp [rlE, rlRs, rlR, rlL, DV.le]
    refine Cv.nil 2 (fun g1 => (.mk [.mk (.lst 2 false (encSi l)) (.agg [.raw (.int .i64 s.m), .raw (.int .i64 s.a)]) .junk (.loc S.length (g 0) 0) (.raw (.slice none 0 0)) (.row (S.length + 1) g1 2 0 0) (.raw (.bool false)) (.raw (.int .i64 (0 : Nat))), .mk .junk .junk .junk .junk .junk .junk .junk .junk, .mk .junk .junk .junk .junk .junk .junk .junk .junk, .mk .junk .junk .junk .junk .junk .junk .junk .junk, .mk .junk .junk .junk .junk .junk .junk .junk .junk, .mk .junk .junk .junk .junk .junk .junk .junk .junk, .mk .junk .junk .junk .junk .junk .junk .junk .junk, .mk .junk .junk .junk .junk .junk .junk .junk .junk] [.junk, .junk, .junk, .junk, .junk, .junk, .junk])) (fun g1 => S ++ [.cells (g 0) [.raw (.int .i64 s.m), .raw (.int .i64 s.a)], .row g1 2 []]) ?_ ?_ (fun g1 => Cv.done ⟨(0, false, [], g1), ⟨Nat.zero_le _, by simp, fun _ => ⟨rfl, fun r => rfl⟩, fun h => by cases h⟩, rfl, rfl⟩)
    · intro g1; simp [rlE, rlRs, rlR, rlL, nlD]
    · intro g1; rw [List.append_assoc]; exact rlS_refl _
  · rintro ⟨i, dn, o, g1⟩ ⟨hi, hI⟩
    have hI : SiteI l s i dn o := hI
    have hol := hI.1
    by_cases hlt : i < l.length
    · have d1 : decide ((i : Int) < (l.length : Int)) = true := decide_eq_true (by omega)
      have c1 : (0 ≤ (i : Int) ∧ (i : Int) < (l.length : Int)) = True := by simp; omega
      have e1 := getD_si hlt
      have w3 : IntKind.i64.wrap ((i : Int) + 1) = ((i + 1 : Nat) : Int) := by rw [wrap_id (by omega) (by omega)]; omega
      try simp only [d1, c1, e1, encSi_len, hm, w3, ev,evA,true_and,and_true,and_self,if_true,if_false,reduceIte,ne_eq,forall_const,false_implies,beq_self_eq_true,decide_true,decide_false,Int.cast_ofNat_Int,Nat.reduceAdd,Nat.reduceLT,Nat.reduceLeDiff,Nat.reduceEqDiff,Nat.reduceBEq,Nat.reduceMul,Nat.reduceSub,Int.reduceToNat,Int.reduceEq,Int.reduceNe,Int.reduceLT,Int.reduceLE,Int.reduceBEq,Int.reduceAdd,Int.reduceSub,Int.reduceMul,hP,hW]
      have e6 : (encSi o).take o.length = encSi o := List.take_of_length_le (by rw [encSi_len]; exact Nat.le_refl _)
      have e8 : (o.length ≤ (encSi o).length) = True := by simp [encSi_len]
      have e9 : (encSi (o ++ [s])).take (o.length + 1) = encSi (o ++ [s]) := List.take_of_length_le (by rw [encSi_len]; simp)
      have e10 : encSi o ++ [[.raw (.int .i64 s.m), .raw (.int .i64 s.a)]] = encSi (o ++ [s]) := by rw [encSi_app]; rfl
      have e11 : (o.length + 1 ≤ (encSi (o ++ [s])).length) = True := by simp [encSi_len]
      have fin : ∀ (g' : Nat) (dn' : Bool) (o' : List Si) (e' : En), e' = (.mk [.mk (.lst 2 false (encSi l)) (.agg [.raw (.int .i64 s.m), .raw (.int .i64 s.a)]) .junk (.loc S.length (g 0) 0) (.raw (.slice none 0 0)) (.row (S.length + 1) g' 2 0 o'.length) (.raw (.bool dn')) (.raw (.int .i64 ((i + 1 : Nat) : Int))), .mk .junk .junk .junk .junk .junk .junk .junk .junk, .mk .junk .junk .junk .junk .junk .junk .junk .junk, .mk .junk .junk .junk .junk .junk .junk .junk .junk, .mk .junk .junk .junk .junk .junk .junk .junk .junk, .mk .junk .junk .junk .junk .junk .junk .junk .junk, .mk .junk .junk .junk .junk .junk .junk .junk .junk, .mk .junk .junk .junk .junk .junk .junk .junk .junk] [.junk, .junk, .junk, .junk, .junk, .junk, .junk]) → SiteI l s (i + 1) dn' o' →
          Cv W0 e' (S ++ [.cells (g 0) [.raw (.int .i64 s.m), .raw (.int .i64 s.a)], .row g' 2 (encSi o')]) fun e2 S2 => ∃ x' : Nat × Bool × List Si × Nat, (x'.1 ≤ l.length ∧ SiteI l s x'.1 x'.2.1 x'.2.2.1) ∧ l.length - x'.1 < l.length - i ∧ e2 = (.mk [.mk (.lst 2 false (encSi l)) (.agg [.raw (.int .i64 s.m), .raw (.int .i64 s.a)]) .junk (.loc S.length (g 0) 0) (.raw (.slice none 0 0)) (.row (S.length + 1) x'.2.2.2 2 0 x'.2.2.1.length) (.raw (.bool x'.2.1)) (.raw (.int .i64 x'.1)), .mk .junk .junk .junk .junk .junk .junk .junk .junk, .mk .junk .junk .junk .junk .junk .junk .junk .junk, .mk .junk .junk .junk .junk .junk .junk .junk .junk, .mk .junk .junk .junk .junk .junk .junk .junk .junk, .mk .junk .junk .junk .junk .junk .junk .junk .junk, .mk .junk .junk .junk .junk .junk .junk .junk .junk, .mk .junk .junk .junk .junk .junk .junk .junk .junk] [.junk, .junk, .junk, .junk, .junk, .junk, .junk]) ∧ S2 = S ++ [.cells (g 0) [.raw (.int .i64 s.m), .raw (.int .i64 s.a)], .row x'.2.2.2 2 (encSi x'.2.2.1)] := by
        rintro g' dn' o' e' rfl h
        exact Cv.done ⟨(i + 1, dn', o', g'), ⟨hlt, h⟩, by simp only; omega, rfl, rfl⟩
      cases he : (l[i].m == s.m && l[i].a == s.a) with
      | true =>
        try simp only [ev,evA,true_and,and_true,and_self,if_true,if_false,reduceIte,ne_eq,forall_const,false_implies,beq_self_eq_true,decide_true,decide_false,Int.cast_ofNat_Int,Nat.reduceAdd,Nat.reduceLT,Nat.reduceLeDiff,Nat.reduceEqDiff,Nat.reduceBEq,Nat.reduceMul,Nat.reduceSub,Int.reduceToNat,Int.reduceEq,Int.reduceNe,Int.reduceLT,Int.reduceLE,Int.reduceBEq,Int.reduceAdd,Int.reduceSub,Int.reduceMul,hP,hW]
        refine hret _ _ S.length 5 ?_
        simp only [r_ref04_site, ev,evA,true_and,and_true,and_self,if_true,if_false,reduceIte,ne_eq,forall_const,false_implies,beq_self_eq_true,decide_true,decide_false,Int.cast_ofNat_Int,Nat.reduceAdd,Nat.reduceLT,Nat.reduceLeDiff,Nat.reduceEqDiff,Nat.reduceBEq,Nat.reduceMul,Nat.reduceSub,Int.reduceToNat,Int.reduceEq,Int.reduceNe,Int.reduceLT,Int.reduceLE,Int.reduceBEq,Int.reduceAdd,Int.reduceSub,Int.reduceMul,hP,hW]
        have hes : l[i] = s := by
          rw [Bool.and_eq_true, beq_iff_eq, beq_iff_eq] at he
          exact Si.ext he.1 he.2
        exact ⟨_, rfl, by rw [hI.at hs hlt hes]⟩
      | false =>
        have hne : ¬ l[i] = s := by
          intro e; rw [e] at he; simp at he
        try simp only [hm, w3, c1, e1, e6, e8, e9, encSi_len, List.length_append, List.length_cons, List.length_nil, ev,evA,true_and,and_true,and_self,if_true,if_false,reduceIte,ne_eq,forall_const,false_implies,beq_self_eq_true,decide_true,decide_false,Int.cast_ofNat_Int,Nat.reduceAdd,Nat.reduceLT,Nat.reduceLeDiff,Nat.reduceEqDiff,Nat.reduceBEq,Nat.reduceMul,Nat.reduceSub,Int.reduceToNat,Int.reduceEq,Int.reduceNe,Int.reduceLT,Int.reduceLE,Int.reduceBEq,Int.reduceAdd,Int.reduceSub,Int.reduceMul,hP,hW]
        cases dn with
        | true =>
          try simp only [Bool.not_true, hm, w3, c1, e1, e6, e8, e9, encSi_len, List.length_append, List.length_cons, List.length_nil, ev,evA,true_and,and_true,and_self,if_true,if_false,reduceIte,ne_eq,forall_const,false_implies,beq_self_eq_true,decide_true,decide_false,Int.cast_ofNat_Int,Nat.reduceAdd,Nat.reduceLT,Nat.reduceLeDiff,Nat.reduceEqDiff,Nat.reduceBEq,Nat.reduceMul,Nat.reduceSub,Int.reduceToNat,Int.reduceEq,Int.reduceNe,Int.reduceLT,Int.reduceLE,Int.reduceBEq,Int.reduceAdd,Int.reduceSub,Int.reduceMul,hP,hW]
          intro g2
          try simp only [hm, w3, c1, e1, e6, e8, e9, encSi_len, List.length_append, List.length_cons, List.length_nil, ev,evA,true_and,and_true,and_self,if_true,if_false,reduceIte,ne_eq,forall_const,false_implies,beq_self_eq_true,decide_true,decide_false,Int.cast_ofNat_Int,Nat.reduceAdd,Nat.reduceLT,Nat.reduceLeDiff,Nat.reduceEqDiff,Nat.reduceBEq,Nat.reduceMul,Nat.reduceSub,Int.reduceToNat,Int.reduceEq,Int.reduceNe,Int.reduceLT,Int.reduceLE,Int.reduceBEq,Int.reduceAdd,Int.reduceSub,Int.reduceMul,hP,hW]
          refine ⟨⟨by omega, by omega⟩, fun g3 => ?_⟩
          refine Cv.ex (S.length + 2) _ (S ++ [.cells (g 0) [.raw (.int .i64 s.m), .raw (.int .i64 s.a)], .row g3 2 (encSi (o ++ [l[i]]))]) ?_ ?_ (fin g3 true (o ++ [l[i]]) _ rfl (hI.keep hlt))
          · simp [rlE, rlRs, rlR, rlL, DV.le]
          · rw [take_append2, encSi_app]; rfl
        | false =>
          try simp only [Bool.not_false, hm, w3, c1, e1, e6, e8, e9, encSi_len, List.length_append, List.length_cons, List.length_nil, ev,evA,true_and,and_true,and_self,if_true,if_false,reduceIte,ne_eq,forall_const,false_implies,beq_self_eq_true,decide_true,decide_false,Int.cast_ofNat_Int,Nat.reduceAdd,Nat.reduceLT,Nat.reduceLeDiff,Nat.reduceEqDiff,Nat.reduceBEq,Nat.reduceMul,Nat.reduceSub,Int.reduceToNat,Int.reduceEq,Int.reduceNe,Int.reduceLT,Int.reduceLE,Int.reduceBEq,Int.reduceAdd,Int.reduceSub,Int.reduceMul,hP,hW]
          by_cases ha : s.a < l[i].a
          · try simp only [decide_eq_true ha, hm, w3, c1, e1, e6, e8, e9, e10, encSi_len, List.length_append, List.length_cons, List.length_nil, ev,evA,true_and,and_true,and_self,if_true,if_false,reduceIte,ne_eq,forall_const,false_implies,beq_self_eq_true,decide_true,decide_false,Int.cast_ofNat_Int,Nat.reduceAdd,Nat.reduceLT,Nat.reduceLeDiff,Nat.reduceEqDiff,Nat.reduceBEq,Nat.reduceMul,Nat.reduceSub,Int.reduceToNat,Int.reduceEq,Int.reduceNe,Int.reduceLT,Int.reduceLE,Int.reduceBEq,Int.reduceAdd,Int.reduceSub,Int.reduceMul,hP,hW]
            intro g2
            try simp only [hm, w3, c1, e1, e6, e8, e9, e10, encSi_len, List.length_append, List.length_cons, List.length_nil, ev,evA,true_and,and_true,and_self,if_true,if_false,reduceIte,ne_eq,forall_const,false_implies,beq_self_eq_true,decide_true,decide_false,Int.cast_ofNat_Int,Nat.reduceAdd,Nat.reduceLT,Nat.reduceLeDiff,Nat.reduceEqDiff,Nat.reduceBEq,Nat.reduceMul,Nat.reduceSub,Int.reduceToNat,Int.reduceEq,Int.reduceNe,Int.reduceLT,Int.reduceLE,Int.reduceBEq,Int.reduceAdd,Int.reduceSub,Int.reduceMul,hP,hW]
            refine ⟨⟨by omega, by omega⟩, fun g3 => ?_⟩
            try simp only [hm, w3, c1, e1, e6, e8, e9, e10, encSi_len, List.length_append, List.length_cons, List.length_nil, e11, ev,evA,true_and,and_true,and_self,if_true,if_false,reduceIte,ne_eq,forall_const,false_implies,beq_self_eq_true,decide_true,decide_false,Int.cast_ofNat_Int,Nat.reduceAdd,Nat.reduceLT,Nat.reduceLeDiff,Nat.reduceEqDiff,Nat.reduceBEq,Nat.reduceMul,Nat.reduceSub,Int.reduceToNat,Int.reduceEq,Int.reduceNe,Int.reduceLT,Int.reduceLE,Int.reduceBEq,Int.reduceAdd,Int.reduceSub,Int.reduceMul,hP,hW]
            intro g4
            try simp only [hm, w3, c1, e1, e6, e8, e9, e10, encSi_len, List.length_append, List.length_cons, List.length_nil, e11, ev,evA,true_and,and_true,and_self,if_true,if_false,reduceIte,ne_eq,forall_const,false_implies,beq_self_eq_true,decide_true,decide_false,Int.cast_ofNat_Int,Nat.reduceAdd,Nat.reduceLT,Nat.reduceLeDiff,Nat.reduceEqDiff,Nat.reduceBEq,Nat.reduceMul,Nat.reduceSub,Int.reduceToNat,Int.reduceEq,Int.reduceNe,Int.reduceLT,Int.reduceLE,Int.reduceBEq,Int.reduceAdd,Int.reduceSub,Int.reduceMul,hP,hW]
            refine ⟨⟨by omega, by omega⟩, fun g5 => ?_⟩
            refine Cv.ex (S.length + 2) _ (S ++ [.cells (g 0) [.raw (.int .i64 s.m), .raw (.int .i64 s.a)], .row g5 2 (encSi (o ++ [s] ++ [l[i]]))]) ?_ ?_ (fin g5 true (o ++ [s] ++ [l[i]]) _ rfl (hI.put hlt hne (by unfold Si.lt; omega)))
            · simp [rlE, rlRs, rlR, rlL, DV.le]
            · rw [take_append2, encSi_app (o ++ [s])]; rfl
          cases hb : (l[i].a == s.a)
          · have hb' : ¬ l[i].a = s.a := by simpa using hb
            try simp only [decide_eq_false ha, hb, hm, w3, c1, e1, e6, e8, e9, e10, encSi_len, List.length_append, List.length_cons, List.length_nil, ev,evA,true_and,and_true,and_self,if_true,if_false,reduceIte,ne_eq,forall_const,false_implies,beq_self_eq_true,decide_true,decide_false,Int.cast_ofNat_Int,Nat.reduceAdd,Nat.reduceLT,Nat.reduceLeDiff,Nat.reduceEqDiff,Nat.reduceBEq,Nat.reduceMul,Nat.reduceSub,Int.reduceToNat,Int.reduceEq,Int.reduceNe,Int.reduceLT,Int.reduceLE,Int.reduceBEq,Int.reduceAdd,Int.reduceSub,Int.reduceMul,hP,hW]
            intro g2
            try simp only [hm, w3, c1, e1, e6, e8, e9, e10, encSi_len, List.length_append, List.length_cons, List.length_nil, ev,evA,true_and,and_true,and_self,if_true,if_false,reduceIte,ne_eq,forall_const,false_implies,beq_self_eq_true,decide_true,decide_false,Int.cast_ofNat_Int,Nat.reduceAdd,Nat.reduceLT,Nat.reduceLeDiff,Nat.reduceEqDiff,Nat.reduceBEq,Nat.reduceMul,Nat.reduceSub,Int.reduceToNat,Int.reduceEq,Int.reduceNe,Int.reduceLT,Int.reduceLE,Int.reduceBEq,Int.reduceAdd,Int.reduceSub,Int.reduceMul,hP,hW]
            refine ⟨⟨by omega, by omega⟩, fun g3 => ?_⟩
            refine Cv.ex (S.length + 2) _ (S ++ [.cells (g 0) [.raw (.int .i64 s.m), .raw (.int .i64 s.a)], .row g3 2 (encSi (o ++ [l[i]]))]) ?_ ?_ (fin g3 false (o ++ [l[i]]) _ rfl (hI.go hlt hne (by unfold Si.lt; omega)))
            · simp [rlE, rlRs, rlR, rlL, DV.le]
            · rw [take_append2, encSi_app]; rfl
          · have hb' : l[i].a = s.a := by simpa using hb
            by_cases hc : s.m < l[i].m
            · try simp only [decide_eq_false ha, hb, decide_eq_true hc, hm, w3, c1, e1, e6, e8, e9, e10, encSi_len, List.length_append, List.length_cons, List.length_nil, ev,evA,true_and,and_true,and_self,if_true,if_false,reduceIte,ne_eq,forall_const,false_implies,beq_self_eq_true,decide_true,decide_false,Int.cast_ofNat_Int,Nat.reduceAdd,Nat.reduceLT,Nat.reduceLeDiff,Nat.reduceEqDiff,Nat.reduceBEq,Nat.reduceMul,Nat.reduceSub,Int.reduceToNat,Int.reduceEq,Int.reduceNe,Int.reduceLT,Int.reduceLE,Int.reduceBEq,Int.reduceAdd,Int.reduceSub,Int.reduceMul,hP,hW]
              intro g2
              try simp only [hm, w3, c1, e1, e6, e8, e9, e10, encSi_len, List.length_append, List.length_cons, List.length_nil, ev,evA,true_and,and_true,and_self,if_true,if_false,reduceIte,ne_eq,forall_const,false_implies,beq_self_eq_true,decide_true,decide_false,Int.cast_ofNat_Int,Nat.reduceAdd,Nat.reduceLT,Nat.reduceLeDiff,Nat.reduceEqDiff,Nat.reduceBEq,Nat.reduceMul,Nat.reduceSub,Int.reduceToNat,Int.reduceEq,Int.reduceNe,Int.reduceLT,Int.reduceLE,Int.reduceBEq,Int.reduceAdd,Int.reduceSub,Int.reduceMul,hP,hW]
              refine ⟨⟨by omega, by omega⟩, fun g3 => ?_⟩
              try simp only [hm, w3, c1, e1, e6, e8, e9, e10, encSi_len, List.length_append, List.length_cons, List.length_nil, e11, ev,evA,true_and,and_true,and_self,if_true,if_false,reduceIte,ne_eq,forall_const,false_implies,beq_self_eq_true,decide_true,decide_false,Int.cast_ofNat_Int,Nat.reduceAdd,Nat.reduceLT,Nat.reduceLeDiff,Nat.reduceEqDiff,Nat.reduceBEq,Nat.reduceMul,Nat.reduceSub,Int.reduceToNat,Int.reduceEq,Int.reduceNe,Int.reduceLT,Int.reduceLE,Int.reduceBEq,Int.reduceAdd,Int.reduceSub,Int.reduceMul,hP,hW]
              intro g4
              try simp only [hm, w3, c1, e1, e6, e8, e9, e10, encSi_len, List.length_append, List.length_cons, List.length_nil, e11, ev,evA,true_and,and_true,and_self,if_true,if_false,reduceIte,ne_eq,forall_const,false_implies,beq_self_eq_true,decide_true,decide_false,Int.cast_ofNat_Int,Nat.reduceAdd,Nat.reduceLT,Nat.reduceLeDiff,Nat.reduceEqDiff,Nat.reduceBEq,Nat.reduceMul,Nat.reduceSub,Int.reduceToNat,Int.reduceEq,Int.reduceNe,Int.reduceLT,Int.reduceLE,Int.reduceBEq,Int.reduceAdd,Int.reduceSub,Int.reduceMul,hP,hW]
              refine ⟨⟨by omega, by omega⟩, fun g5 => ?_⟩
              refine Cv.ex (S.length + 2) _ (S ++ [.cells (g 0) [.raw (.int .i64 s.m), .raw (.int .i64 s.a)], .row g5 2 (encSi (o ++ [s] ++ [l[i]]))]) ?_ ?_ (fin g5 true (o ++ [s] ++ [l[i]]) _ rfl (hI.put hlt hne (by unfold Si.lt; omega)))
              · simp [rlE, rlRs, rlR, rlL, DV.le]
              · rw [take_append2, encSi_app (o ++ [s])]; rfl
            · try simp only [decide_eq_false ha, hb, decide_eq_false hc, hm, w3, c1, e1, e6, e8, e9, e10, encSi_len, List.length_append, List.length_cons, List.length_nil, ev,evA,true_and,and_true,and_self,if_true,if_false,reduceIte,ne_eq,forall_const,false_implies,beq_self_eq_true,decide_true,decide_false,Int.cast_ofNat_Int,Nat.reduceAdd,Nat.reduceLT,Nat.reduceLeDiff,Nat.reduceEqDiff,Nat.reduceBEq,Nat.reduceMul,Nat.reduceSub,Int.reduceToNat,Int.reduceEq,Int.reduceNe,Int.reduceLT,Int.reduceLE,Int.reduceBEq,Int.reduceAdd,Int.reduceSub,Int.reduceMul,hP,hW]
              intro g2
              try simp only [hm, w3, c1, e1, e6, e8, e9, e10, encSi_len, List.length_append, List.length_cons, List.length_nil, ev,evA,true_and,and_true,and_self,if_true,if_false,reduceIte,ne_eq,forall_const,false_implies,beq_self_eq_true,decide_true,decide_false,Int.cast_ofNat_Int,Nat.reduceAdd,Nat.reduceLT,Nat.reduceLeDiff,Nat.reduceEqDiff,Nat.reduceBEq,Nat.reduceMul,Nat.reduceSub,Int.reduceToNat,Int.reduceEq,Int.reduceNe,Int.reduceLT,Int.reduceLE,Int.reduceBEq,Int.reduceAdd,Int.reduceSub,Int.reduceMul,hP,hW]
              refine ⟨⟨by omega, by omega⟩, fun g3 => ?_⟩
              refine Cv.ex (S.length + 2) _ (S ++ [.cells (g 0) [.raw (.int .i64 s.m), .raw (.int .i64 s.a)], .row g3 2 (encSi (o ++ [l[i]]))]) ?_ ?_ (fin g3 false (o ++ [l[i]]) _ rfl (hI.go hlt hne (by unfold Si.lt; omega)))
              · simp [rlE, rlRs, rlR, rlL, DV.le]
              · rw [take_append2, encSi_app]; rfl
    · have d1 : decide ((i : Int) < (l.length : Int)) = false := decide_eq_false (by omega)
      have hk' : i = l.length := by omega
      subst hk'
      try simp only [d1, encSi_len, ev,evA,true_and,and_true,and_self,if_true,if_false,reduceIte,ne_eq,forall_const,false_implies,beq_self_eq_true,decide_true,decide_false,Int.cast_ofNat_Int,Nat.reduceAdd,Nat.reduceLT,Nat.reduceLeDiff,Nat.reduceEqDiff,Nat.reduceBEq,Nat.reduceMul,Nat.reduceSub,Int.reduceToNat,Int.reduceEq,Int.reduceNe,Int.reduceLT,Int.reduceLE,Int.reduceBEq,Int.reduceAdd,Int.reduceSub,Int.reduceMul,hP,hW]
      have e6 : (encSi o).take o.length = encSi o := List.take_of_length_le (by rw [encSi_len]; exact Nat.le_refl _)
      have e8 : (o.length ≤ (encSi o).length) = True := by simp [encSi_len]
      cases dn with
      | true =>
        have h3 := hI.endT
        try simp only [Bool.not_true, ev,evA,true_and,and_true,and_self,if_true,if_false,reduceIte,ne_eq,forall_const,false_implies,beq_self_eq_true,decide_true,decide_false,Int.cast_ofNat_Int,Nat.reduceAdd,Nat.reduceLT,Nat.reduceLeDiff,Nat.reduceEqDiff,Nat.reduceBEq,Nat.reduceMul,Nat.reduceSub,Int.reduceToNat,Int.reduceEq,Int.reduceNe,Int.reduceLT,Int.reduceLE,Int.reduceBEq,Int.reduceAdd,Int.reduceSub,Int.reduceMul,hP,hW]
        refine hret _ _ S.length 5 ?_
        simp only [r_ref04_site, encSi_map, encSi_len, encSi_take, ev,evA,true_and,and_true,and_self,if_true,if_false,reduceIte,ne_eq,forall_const,false_implies,beq_self_eq_true,decide_true,decide_false,Int.cast_ofNat_Int,Nat.reduceAdd,Nat.reduceLT,Nat.reduceLeDiff,Nat.reduceEqDiff,Nat.reduceBEq,Nat.reduceMul,Nat.reduceSub,Int.reduceToNat,Int.reduceEq,Int.reduceNe,Int.reduceLT,Int.reduceLE,Int.reduceBEq,Int.reduceAdd,Int.reduceSub,Int.reduceMul,hP,hW]
        exact ⟨_, rfl, by rw [h3]⟩
      | false =>
        have h3 := hI.endF
        try simp only [Bool.not_false, hm, e6, e8, encSi_len, ev,evA,true_and,and_true,and_self,if_true,if_false,reduceIte,ne_eq,forall_const,false_implies,beq_self_eq_true,decide_true,decide_false,Int.cast_ofNat_Int,Nat.reduceAdd,Nat.reduceLT,Nat.reduceLeDiff,Nat.reduceEqDiff,Nat.reduceBEq,Nat.reduceMul,Nat.reduceSub,Int.reduceToNat,Int.reduceEq,Int.reduceNe,Int.reduceLT,Int.reduceLE,Int.reduceBEq,Int.reduceAdd,Int.reduceSub,Int.reduceMul,hP,hW]
        intro g2
        try simp only [hm, e6, e8, encSi_len, ev,evA,true_and,and_true,and_self,if_true,if_false,reduceIte,ne_eq,forall_const,false_implies,beq_self_eq_true,decide_true,decide_false,Int.cast_ofNat_Int,Nat.reduceAdd,Nat.reduceLT,Nat.reduceLeDiff,Nat.reduceEqDiff,Nat.reduceBEq,Nat.reduceMul,Nat.reduceSub,Int.reduceToNat,Int.reduceEq,Int.reduceNe,Int.reduceLT,Int.reduceLE,Int.reduceBEq,Int.reduceAdd,Int.reduceSub,Int.reduceMul,hP,hW]
        refine ⟨⟨by omega, by omega⟩, fun g3 => ?_⟩
        have e7 : encSi o ++ [[.raw (.int .i64 s.m), .raw (.int .i64 s.a)]] = encSi (o ++ [s]) := by rw [encSi_app]; rfl
        try simp only [e7, ev,evA,true_and,and_true,and_self,if_true,if_false,reduceIte,ne_eq,forall_const,false_implies,beq_self_eq_true,decide_true,decide_false,Int.cast_ofNat_Int,Nat.reduceAdd,Nat.reduceLT,Nat.reduceLeDiff,Nat.reduceEqDiff,Nat.reduceBEq,Nat.reduceMul,Nat.reduceSub,Int.reduceToNat,Int.reduceEq,Int.reduceNe,Int.reduceLT,Int.reduceLE,Int.reduceBEq,Int.reduceAdd,Int.reduceSub,Int.reduceMul,hP,hW]
        refine hret _ _ S.length 5 ?_
        simp only [r_ref04_site, encSi_map, encSi_len, encSi_take, List.length_append, List.length_cons, List.length_nil, ev,evA,true_and,and_true,and_self,if_true,if_false,reduceIte,ne_eq,forall_const,false_implies,beq_self_eq_true,decide_true,decide_false,Int.cast_ofNat_Int,Nat.reduceAdd,Nat.reduceLT,Nat.reduceLeDiff,Nat.reduceEqDiff,Nat.reduceBEq,Nat.reduceMul,Nat.reduceSub,Int.reduceToNat,Int.reduceEq,Int.reduceNe,Int.reduceLT,Int.reduceLE,Int.reduceBEq,Int.reduceAdd,Int.reduceSub,Int.reduceMul,hP,hW]
        exact ⟨_, rfl, by rw [h3, List.take_of_length_le (by simp)]⟩

theorem t_ref4Same (hm : Tryd.prog.follows .mixedOrders = true) (W0 : World) (S : List SO) (f1 f2 f3 f4 : Bool) (l : List Sp) (q : List Si) (hl : l.length ≤ 1099511627776) (hq : q.length ≤ 1099511627776) : CtP Tryd.prog W0 n_ref04_Same [.lst 3 f1 (encSp l), .lst 3 f2 (encSp l), .lst 2 f3 (encSi q), .lst 2 f4 (encSi q)] S
    (fun d => d = .raw (.bool true)) := by
  refine Ct_R k_ref04_Same 400 (.mk [.mk (.lst 3 f1 (encSp l)) (.lst 3 f2 (encSp l)) (.lst 2 f3 (encSi q)) (.lst 2 f4 (encSi q)) .junk .junk .junk .junk, .mk .junk .junk .junk .junk .junk .junk .junk .junk, .mk .junk .junk .junk .junk .junk .junk .junk .junk, .mk .junk .junk .junk .junk .junk .junk .junk .junk, .mk .junk .junk .junk .junk .junk .junk .junk .junk, .mk .junk .junk .junk .junk .junk .junk .junk .junk] [.junk, .junk, .junk, .junk, .junk]) rfl rfl fun r hP hW hpan hret => ?_
  simp only [c_ref04_Same, ev,evA,true_and,and_true,and_self,if_true,if_false,reduceIte,ne_eq,forall_const,false_implies,beq_self_eq_true,decide_true,decide_false,Int.cast_ofNat_Int,Nat.reduceAdd,Nat.reduceLT,Nat.reduceLeDiff,Nat.reduceEqDiff,Nat.reduceBEq,Nat.reduceMul,Nat.reduceSub,Int.reduceToNat,Int.reduceEq,Int.reduceNe,Int.reduceLT,Int.reduceLE,Int.reduceBEq,Int.reduceAdd,Int.reduceSub,Int.reduceMul,hP,hW]
  try simp only [hm, encSp_len, encSi_len, bne_self_eq_false, ev,evA,true_and,and_true,and_self,if_true,if_false,reduceIte,ne_eq,forall_const,false_implies,beq_self_eq_true,decide_true,decide_false,Int.cast_ofNat_Int,Nat.reduceAdd,Nat.reduceLT,Nat.reduceLeDiff,Nat.reduceEqDiff,Nat.reduceBEq,Nat.reduceMul,Nat.reduceSub,Int.reduceToNat,Int.reduceEq,Int.reduceNe,Int.reduceLT,Int.reduceLE,Int.reduceBEq,Int.reduceAdd,Int.reduceSub,Int.reduceMul,hP,hW]
  refine SX_lp (α := Nat) (fun i => i ≤ l.length) (fun i => (.mk [.mk (.lst 3 f1 (encSp l)) (.lst 3 f2 (encSp l)) (.lst 2 f3 (encSi q)) (.lst 2 f4 (encSi q)) .junk .junk .junk .junk, .mk (.raw (.bool false)) (.raw (.int .i64 i)) .junk .junk .junk .junk .junk .junk, .mk .junk .junk .junk .junk .junk .junk .junk .junk, .mk .junk .junk .junk .junk .junk .junk .junk .junk, .mk .junk .junk .junk .junk .junk .junk .junk .junk, .mk .junk .junk .junk .junk .junk .junk .junk .junk] [.junk, .junk, .junk, .junk, .junk])) (fun i => S) (fun i => l.length - i) 300 ?_ ?_
  · refine Cv.ex S.length _ _ ?_ (take_all (Nat.le_refl _)) (Cv.done ⟨0, Nat.zero_le _, rfl, rfl⟩)
    simp [rlE, rlRs, rlR, rlL, DV.le]
  · intro i hi
    by_cases hlt : i < l.length
    · have d1 : decide ((i : Int) < (l.length : Int)) = true := decide_eq_true (by omega)
      have c1 : (0 ≤ (i : Int) ∧ (i : Int) < (l.length : Int)) = True := by simp; omega
      have e1 := getD_sp hlt
      have w3 : IntKind.i64.wrap ((i : Int) + 1) = ((i + 1 : Nat) : Int) := by rw [wrap_id (by omega) (by omega)]; omega
      try simp only [d1, c1, e1, encSp_len, hm, w3, bne_self_eq_false, beq_self_eq_true, ev,evA,true_and,and_true,and_self,if_true,if_false,reduceIte,ne_eq,forall_const,false_implies,beq_self_eq_true,decide_true,decide_false,Int.cast_ofNat_Int,Nat.reduceAdd,Nat.reduceLT,Nat.reduceLeDiff,Nat.reduceEqDiff,Nat.reduceBEq,Nat.reduceMul,Nat.reduceSub,Int.reduceToNat,Int.reduceEq,Int.reduceNe,Int.reduceLT,Int.reduceLE,Int.reduceBEq,Int.reduceAdd,Int.reduceSub,Int.reduceMul,hP,hW]
      refine Cv.ex S.length _ _ ?_ (take_all (Nat.le_refl _)) (Cv.done ⟨i + 1, hlt, by omega, rfl, rfl⟩)
      simp [rlE, rlRs, rlR, rlL, DV.le]
    · have d1 : decide ((i : Int) < (l.length : Int)) = false := decide_eq_false (by omega)
      try simp only [d1, encSp_len, ev,evA,true_and,and_true,and_self,if_true,if_false,reduceIte,ne_eq,forall_const,false_implies,beq_self_eq_true,decide_true,decide_false,Int.cast_ofNat_Int,Nat.reduceAdd,Nat.reduceLT,Nat.reduceLeDiff,Nat.reduceEqDiff,Nat.reduceBEq,Nat.reduceMul,Nat.reduceSub,Int.reduceToNat,Int.reduceEq,Int.reduceNe,Int.reduceLT,Int.reduceLE,Int.reduceBEq,Int.reduceAdd,Int.reduceSub,Int.reduceMul,hP,hW]
      refine SX_lp (α := Nat) (fun i => i ≤ q.length) (fun i => (.mk [.mk (.lst 3 f1 (encSp l)) (.lst 3 f2 (encSp l)) (.lst 2 f3 (encSi q)) (.lst 2 f4 (encSi q)) .junk .junk .junk .junk, .mk (.raw (.bool false)) .junk (.raw (.int .i64 i)) .junk .junk .junk .junk .junk, .mk .junk .junk .junk .junk .junk .junk .junk .junk, .mk .junk .junk .junk .junk .junk .junk .junk .junk, .mk .junk .junk .junk .junk .junk .junk .junk .junk, .mk .junk .junk .junk .junk .junk .junk .junk .junk] [.junk, .junk, .junk, .junk, .junk])) (fun i => S) (fun i => q.length - i) 300 ?_ ?_
      · refine Cv.ex S.length _ _ ?_ (take_all (Nat.le_refl _)) (Cv.done ⟨0, Nat.zero_le _, rfl, rfl⟩)
        simp [rlE, rlRs, rlR, rlL, DV.le]
      · intro i hi
        by_cases hlt : i < q.length
        · have d1 : decide ((i : Int) < (q.length : Int)) = true := decide_eq_true (by omega)
          have c1 : (0 ≤ (i : Int) ∧ (i : Int) < (q.length : Int)) = True := by simp; omega
          have e1 := getD_si hlt
          have w3 : IntKind.i64.wrap ((i : Int) + 1) = ((i + 1 : Nat) : Int) := by rw [wrap_id (by omega) (by omega)]; omega
          try simp only [d1, c1, e1, encSi_len, hm, w3, bne_self_eq_false, beq_self_eq_true, ev,evA,true_and,and_true,and_self,if_true,if_false,reduceIte,ne_eq,forall_const,false_implies,beq_self_eq_true,decide_true,decide_false,Int.cast_ofNat_Int,Nat.reduceAdd,Nat.reduceLT,Nat.reduceLeDiff,Nat.reduceEqDiff,Nat.reduceBEq,Nat.reduceMul,Nat.reduceSub,Int.reduceToNat,Int.reduceEq,Int.reduceNe,Int.reduceLT,Int.reduceLE,Int.reduceBEq,Int.reduceAdd,Int.reduceSub,Int.reduceMul,hP,hW]
          refine Cv.ex S.length _ _ ?_ (take_all (Nat.le_refl _)) (Cv.done ⟨i + 1, hlt, by omega, rfl, rfl⟩)
          simp [rlE, rlRs, rlR, rlL, DV.le]
        · have d1 : decide ((i : Int) < (q.length : Int)) = false := decide_eq_false (by omega)
          try simp only [d1, encSi_len, ev,evA,true_and,and_true,and_self,if_true,if_false,reduceIte,ne_eq,forall_const,false_implies,beq_self_eq_true,decide_true,decide_false,Int.cast_ofNat_Int,Nat.reduceAdd,Nat.reduceLT,Nat.reduceLeDiff,Nat.reduceEqDiff,Nat.reduceBEq,Nat.reduceMul,Nat.reduceSub,Int.reduceToNat,Int.reduceEq,Int.reduceNe,Int.reduceLT,Int.reduceLE,Int.reduceBEq,Int.reduceAdd,Int.reduceSub,Int.reduceMul,hP,hW]
          refine hret _ _ S.length 5 ?_
          simp only [r_ref04_Same, ev,evA,true_and,and_true,and_self,if_true,if_false,reduceIte,ne_eq,forall_const,false_implies,beq_self_eq_true,decide_true,decide_false,Int.cast_ofNat_Int,Nat.reduceAdd,Nat.reduceLT,Nat.reduceLeDiff,Nat.reduceEqDiff,Nat.reduceBEq,Nat.reduceMul,Nat.reduceSub,Int.reduceToNat,Int.reduceEq,Int.reduceNe,Int.reduceLT,Int.reduceLE,Int.reduceBEq,Int.reduceAdd,Int.reduceSub,Int.reduceMul,hP,hW]
          exact ⟨_, rfl, rfl⟩
end Go.Dv
/-
  The document's marks, parted.
-/
namespace Go.Dv
open Go Go.RowKit Go.Proofs
set_option linter.unusedSimpArgs false
set_option linter.unusedVariables false
set_option maxRecDepth 8000

theorem encI_take (l : List Int) (k : Nat) : (encI l).take k = encI (l.take k) := by simp [encI, List.map_take]
theorem encI_drop (l : List Int) (k : Nat) : (encI l).drop k = encI (l.drop k) := by simp [encI, List.map_drop]
theorem siteL_last : ∀ {l : List Si} {s : Si}, (∀ y ∈ l, y.lt s) → siteL l s = l ++ [s]
  | [], s, _ => rfl
  | x :: l, s, h => by
    have h1 := h x List.mem_cons_self
    rw [siteL_gt _ _ _ (by rintro rfl; unfold Si.lt at h1; omega) (by unfold Si.lt at h1 ⊢; omega), siteL_last (fun y hy => h y (List.mem_cons_of_mem _ hy))]; rfl
theorem QS.pw {n : Int} {q : List Si} (h : QS n q) {k : Nat} (hk : k < q.length) : ∀ y ∈ q.take k, y.lt q[k] := by
  have h1 : SS (q.take k ++ q[k] :: q.drop (k + 1)) := by rw [← List.drop_eq_getElem_cons hk, List.take_append_drop]; exact h.1
  exact fun y hy => (List.pairwise_append.1 h1).2.2 y hy _ List.mem_cons_self
theorem t_spansA (hm : Tryd.prog.follows .mixedOrders = true) (W0 : World) (S : List SO) (l : List Sp) (n at_ : Nat) (hn : n ≤ 1099511627776) (han : at_ ≤ n) (hr : RS n 0 0 l) :
    CtP Tryd.prog W0 n_ref04_spans [.lst 1 false (encI ((fn n fun k => mk l k).take at_))] S (fun d => d = .lst 3 false (encSp (foldA (l.map (clipA at_))))) := by
  have hp : ∀ x ∈ (fn n fun k => mk l k).take at_, 0 ≤ x := fun x hx => by
    have := List.mem_of_mem_take hx
    simp only [fn, List.mem_map] at this
    obtain ⟨k, _, rfl⟩ := this
    exact hr.nonneg _
  have hlen : ((fn n fun k => mk l k).take at_).length = at_ := by rw [List.length_take, fn_len]; omega
  refine (t_spans hm W0 S _ (by rw [hlen]; omega) hp).mono ?_
  rintro d ⟨l', rfl, h1, h2⟩
  have hA := partA hr (a := at_) (by omega)
  rw [hlen] at h1
  rw [RS.canon h1 hA.1 fun k h3 h4 => ?_]
  have h5 := h2 k.toNat (by rw [hlen]; omega)
  rw [List.getElem_take, fn_get] at h5
  rw [hA.2, if_pos (by omega)]
  have e : ((k.toNat : Nat) : Int) = k := by omega
  rwa [e] at h5
theorem t_spansB (hm : Tryd.prog.follows .mixedOrders = true) (W0 : World) (S : List SO) (l : List Sp) (n at_ : Nat) (hn : n ≤ 1099511627776) (han : at_ ≤ n) (hr : RS n 0 0 l) :
    CtP Tryd.prog W0 n_ref04_spans [.lst 1 false (encI ((fn n fun k => mk l k).drop at_))] S (fun d => d = .lst 3 false (encSp (foldA (l.map (clipB at_))))) := by
  have hp : ∀ x ∈ (fn n fun k => mk l k).drop at_, 0 ≤ x := fun x hx => by
    have := List.mem_of_mem_drop hx
    simp only [fn, List.mem_map] at this
    obtain ⟨k, _, rfl⟩ := this
    exact hr.nonneg _
  have hlen : ((fn n fun k => mk l k).drop at_).length = n - at_ := by rw [List.length_drop, fn_len]
  refine (t_spans hm W0 S _ (by rw [hlen]; omega) hp).mono ?_
  rintro d ⟨l', rfl, h1, h2⟩
  have hB := partB hr (a := at_) (by omega) (by omega)
  rw [hlen, show ((n - at_ : Nat) : Int) = (n : Int) - (at_ : Int) by omega] at h1
  rw [RS.canon h1 hB.1 fun k h3 h4 => ?_]
  have h5 := h2 k.toNat (by rw [hlen]; omega)
  rw [List.getElem_drop, fn_get] at h5
  rw [hB.2 _ h3]
  have e : ((at_ + k.toNat : Nat) : Int) = k + at_ := by omega
  rwa [e, show ((k.toNat : Nat) : Int) = k by omega] at h5

theorem t_ref4Part (hm : Tryd.prog.follows .mixedOrders = true) (W0 : World) (S : List SO) (f1 f2 : Bool) (l : List Sp) (q : List Si) (n at_ : Nat) (hn : n ≤ 1099511627776) (han : at_ ≤ n) (hl : l.length ≤ 1099511627776) (hq : q.length ≤ 1099511627776) (hr : RS n 0 0 l) (hqs : QS n q) :
    CtP Tryd.prog W0 n_ref04_Part [.agg [.lst 3 f1 (encSp l), .lst 2 f2 (encSi q)], .raw (.int .i64 n), .raw (.int .i64 at_)] S
      (fun d => d = .tup [.agg [.lst 3 false (encSp (foldA (l.map (clipA at_)))), .lst 2 false (encSi (sitesA at_ q))], .agg [.lst 3 false (encSp (foldA (l.map (clipB at_)))), .lst 2 false (encSi (sitesB at_ q))]]) := by
  refine Ct_R k_ref04_Part 400 (.mk [.mk (.agg [.lst 3 f1 (encSp l), .lst 2 f2 (encSi q)]) (.raw (.int .i64 n)) (.raw (.int .i64 at_)) .junk .junk .junk .junk .junk, .mk .junk .junk .junk .junk .junk .junk .junk .junk, .mk .junk .junk .junk .junk .junk .junk .junk .junk, .mk .junk .junk .junk .junk .junk .junk .junk .junk, .mk .junk .junk .junk .junk .junk .junk .junk .junk, .mk .junk .junk .junk .junk .junk .junk .junk .junk, .mk .junk .junk .junk .junk .junk .junk .junk .junk] [.junk, .junk, .junk, .junk]) rfl rfl fun r hP hW hpan hret => ?_
  simp only [c_ref04_Part, ev,evA,true_and,and_true,and_self,if_true,if_false,reduceIte,ne_eq,forall_const,false_implies,beq_self_eq_true,decide_true,decide_false,Int.cast_ofNat_Int,Nat.reduceAdd,Nat.reduceLT,Nat.reduceLeDiff,Nat.reduceEqDiff,Nat.reduceBEq,Nat.reduceMul,Nat.reduceSub,Int.reduceToNat,Int.reduceEq,Int.reduceNe,Int.reduceLT,Int.reduceLE,Int.reduceBEq,Int.reduceAdd,Int.reduceSub,Int.reduceMul,hP,hW]
  intro g
  try simp only [hm, ev,evA,true_and,and_true,and_self,if_true,if_false,reduceIte,ne_eq,forall_const,false_implies,beq_self_eq_true,decide_true,decide_false,Int.cast_ofNat_Int,Nat.reduceAdd,Nat.reduceLT,Nat.reduceLeDiff,Nat.reduceEqDiff,Nat.reduceBEq,Nat.reduceMul,Nat.reduceSub,Int.reduceToNat,Int.reduceEq,Int.reduceNe,Int.reduceLT,Int.reduceLE,Int.reduceBEq,Int.reduceAdd,Int.reduceSub,Int.reduceMul,hP,hW]
  refine callE _ (fun S2 => t_each hm W0 S2 f1 f2 l q n hn hl hr) (by try simp only [ev,evA,true_and,and_true,and_self,if_true,if_false,reduceIte,ne_eq,forall_const,false_implies,beq_self_eq_true,decide_true,decide_false,Int.cast_ofNat_Int,Nat.reduceAdd,Nat.reduceLT,Nat.reduceLeDiff,Nat.reduceEqDiff,Nat.reduceBEq,Nat.reduceMul,Nat.reduceSub,Int.reduceToNat,Int.reduceEq,Int.reduceNe,Int.reduceLT,Int.reduceLE,Int.reduceBEq,Int.reduceAdd,Int.reduceSub,Int.reduceMul,hP,hW]) ?_
  try simp only [hm, encI_take, ev,evA,true_and,and_true,and_self,if_true,if_false,reduceIte,ne_eq,forall_const,false_implies,beq_self_eq_true,decide_true,decide_false,Int.cast_ofNat_Int,Nat.reduceAdd,Nat.reduceLT,Nat.reduceLeDiff,Nat.reduceEqDiff,Nat.reduceBEq,Nat.reduceMul,Nat.reduceSub,Int.reduceToNat,Int.reduceEq,Int.reduceNe,Int.reduceLT,Int.reduceLE,Int.reduceBEq,Int.reduceAdd,Int.reduceSub,Int.reduceMul,hP,hW]
  intro g1
  refine ⟨⟨by omega, by rw [encI_len, fn_len]; omega⟩, ?_⟩
  refine callE _ (fun S2 => t_spansA hm W0 S2 l n at_ hn han hr) (by try simp only [ev,evA,true_and,and_true,and_self,if_true,if_false,reduceIte,ne_eq,forall_const,false_implies,beq_self_eq_true,decide_true,decide_false,Int.cast_ofNat_Int,Nat.reduceAdd,Nat.reduceLT,Nat.reduceLeDiff,Nat.reduceEqDiff,Nat.reduceBEq,Nat.reduceMul,Nat.reduceSub,Int.reduceToNat,Int.reduceEq,Int.reduceNe,Int.reduceLT,Int.reduceLE,Int.reduceBEq,Int.reduceAdd,Int.reduceSub,Int.reduceMul,hP,hW]) ?_
  try simp only [hm, encI_drop, encI_len, fn_len, ev,evA,true_and,and_true,and_self,if_true,if_false,reduceIte,ne_eq,forall_const,false_implies,beq_self_eq_true,decide_true,decide_false,Int.cast_ofNat_Int,Nat.reduceAdd,Nat.reduceLT,Nat.reduceLeDiff,Nat.reduceEqDiff,Nat.reduceBEq,Nat.reduceMul,Nat.reduceSub,Int.reduceToNat,Int.reduceEq,Int.reduceNe,Int.reduceLT,Int.reduceLE,Int.reduceBEq,Int.reduceAdd,Int.reduceSub,Int.reduceMul,hP,hW]
  intro g2
  refine ⟨⟨by omega, by omega⟩, ?_⟩
  refine callE _ (fun S2 => t_spansB hm W0 S2 l n at_ hn han hr) (by try simp only [ev,evA,true_and,and_true,and_self,if_true,if_false,reduceIte,ne_eq,forall_const,false_implies,beq_self_eq_true,decide_true,decide_false,Int.cast_ofNat_Int,Nat.reduceAdd,Nat.reduceLT,Nat.reduceLeDiff,Nat.reduceEqDiff,Nat.reduceBEq,Nat.reduceMul,Nat.reduceSub,Int.reduceToNat,Int.reduceEq,Int.reduceNe,Int.reduceLT,Int.reduceLE,Int.reduceBEq,Int.reduceAdd,Int.reduceSub,Int.reduceMul,hP,hW]) ?_
  try simp only [hm, ev,evA,true_and,and_true,and_self,if_true,if_false,reduceIte,ne_eq,forall_const,false_implies,beq_self_eq_true,decide_true,decide_false,Int.cast_ofNat_Int,Nat.reduceAdd,Nat.reduceLT,Nat.reduceLeDiff,Nat.reduceEqDiff,Nat.reduceBEq,Nat.reduceMul,Nat.reduceSub,Int.reduceToNat,Int.reduceEq,Int.reduceNe,Int.reduceLT,Int.reduceLE,Int.reduceBEq,Int.reduceAdd,Int.reduceSub,Int.reduceMul,hP,hW]
  refine SX_lp (α := Nat) (fun i => i ≤ q.length) (fun i => (.mk [.mk (.agg [.lst 3 f1 (encSp l), .lst 2 f2 (encSi q)]) (.raw (.int .i64 n)) (.raw (.int .i64 at_)) (.loc S.length (g 0) 0) .junk .junk (.loc (S.length + 1) (g 1) 0) (.loc (S.length + 2) (g 2) 0), .mk (.lst 1 false (encI (fn n fun k => mk l k))) (.loc (S.length + 3) (g1 0) 0) (.loc (S.length + 4) (g2 0) 0) (.raw (.int .i64 i)) .junk .junk .junk .junk, .mk .junk .junk .junk .junk .junk .junk .junk .junk, .mk .junk .junk .junk .junk .junk .junk .junk .junk, .mk .junk .junk .junk .junk .junk .junk .junk .junk, .mk .junk .junk .junk .junk .junk .junk .junk .junk, .mk .junk .junk .junk .junk .junk .junk .junk .junk] [.junk, .junk, .junk, .junk])) (fun i => S ++ [.cells (g 0) [.lst 3 f1 (encSp l), .lst 2 f2 (encSi q)], .cells (g 1) [.raw (.slice none 0 0), .raw (.slice none 0 0)], .cells (g 2) [.raw (.slice none 0 0), .raw (.slice none 0 0)], .cells (g1 0) [.lst 3 false (encSp (foldA (l.map (clipA at_)))), .lst 2 false (encSi (sitesA at_ (q.take i)))], .cells (g2 0) [.lst 3 false (encSp (foldA (l.map (clipB at_)))), .lst 2 false (encSi (sitesB at_ (q.take i)))]]) (fun i => q.length - i) 300 ?_ ?_
  · refine Cv.le (S.length + 5) (.mk [.mk (.agg [.lst 3 f1 (encSp l), .lst 2 f2 (encSi q)]) (.raw (.int .i64 n)) (.raw (.int .i64 at_)) (.loc S.length (g 0) 0) .junk .junk (.loc (S.length + 1) (g 1) 0) (.loc (S.length + 2) (g 2) 0), .mk (.lst 1 false (encI (fn n fun k => mk l k))) (.loc (S.length + 3) (g1 0) 0) (.loc (S.length + 4) (g2 0) 0) (.raw (.int .i64 (0 : Nat))) .junk .junk .junk .junk, .mk .junk .junk .junk .junk .junk .junk .junk .junk, .mk .junk .junk .junk .junk .junk .junk .junk .junk, .mk .junk .junk .junk .junk .junk .junk .junk .junk, .mk .junk .junk .junk .junk .junk .junk .junk .junk, .mk .junk .junk .junk .junk .junk .junk .junk .junk] [.junk, .junk, .junk, .junk]) (S ++ [.cells (g 0) [.lst 3 f1 (encSp l), .lst 2 f2 (encSi q)], .cells (g 1) [.raw (.slice none 0 0), .raw (.slice none 0 0)], .cells (g 2) [.raw (.slice none 0 0), .raw (.slice none 0 0)], .cells (g1 0) [.lst 3 false (encSp (foldA (l.map (clipA at_)))), .lst 2 false []], .cells (g2 0) [.lst 3 false (encSp (foldA (l.map (clipB at_)))), .lst 2 false []]]) ?_ ?_ (Cv.done ⟨0, Nat.zero_le _, rfl, rfl⟩)
    · simp [rlE, rlRs, rlR, rlL, DV.le]
    · rw [take_all (by simp)]
      refine rlS_app (rlS_refl _) ?_
      simp [rlS, rlO_self, rlO_cells, rlL, DV.le]
  · intro i hi
    by_cases hlt : i < q.length
    · have d1 : decide ((i : Int) < (q.length : Int)) = true := decide_eq_true (by omega)
      have c1 : (0 ≤ (i : Int) ∧ (i : Int) < (q.length : Int)) = True := by simp; omega
      have e1 := getD_si hlt
      have w3 : IntKind.i64.wrap ((i : Int) + 1) = ((i + 1 : Nat) : Int) := by rw [wrap_id (by omega) (by omega)]; omega
      have hpw := hqs.pw hlt
      have hqi := (hqs.2 _ (List.getElem_mem hlt))
      have hss : SS (q.take i) := (QS_sub hqs i).1
      try simp only [d1, c1, e1, encSi_len, hm, w3, ev,evA,true_and,and_true,and_self,if_true,if_false,reduceIte,ne_eq,forall_const,false_implies,beq_self_eq_true,decide_true,decide_false,Int.cast_ofNat_Int,Nat.reduceAdd,Nat.reduceLT,Nat.reduceLeDiff,Nat.reduceEqDiff,Nat.reduceBEq,Nat.reduceMul,Nat.reduceSub,Int.reduceToNat,Int.reduceEq,Int.reduceNe,Int.reduceLT,Int.reduceLE,Int.reduceBEq,Int.reduceAdd,Int.reduceSub,Int.reduceMul,hP,hW]
      intro s0
      refine Gc_dec (fun hc => ?_) (fun hc => ?_)
      · have ea : sitesA at_ (q.take (i + 1)) = siteL (sitesA at_ (q.take i)) q[i] := by
          refine Eq.trans ?_ (siteL_last (l := sitesA at_ (q.take i)) (s := q[i]) (fun y hy => hpw y (List.mem_filter.1 hy).1)).symm
          unfold sitesA; rw [take_snoc hlt, List.filter_append]; simp [hc]
        have eb : sitesB at_ (q.take (i + 1)) = sitesB at_ (q.take i) := by unfold sitesB; rw [take_snoc hlt, List.filter_append]; simp [hc]
        have la : (sitesA at_ (q.take i)).length ≤ i := by unfold sitesA; refine Nat.le_trans (List.length_filter_le _ _) ?_; rw [List.length_take]; omega
        try simp only [hm, ev,evA,true_and,and_true,and_self,if_true,if_false,reduceIte,ne_eq,forall_const,false_implies,beq_self_eq_true,decide_true,decide_false,Int.cast_ofNat_Int,Nat.reduceAdd,Nat.reduceLT,Nat.reduceLeDiff,Nat.reduceEqDiff,Nat.reduceBEq,Nat.reduceMul,Nat.reduceSub,Int.reduceToNat,Int.reduceEq,Int.reduceNe,Int.reduceLT,Int.reduceLE,Int.reduceBEq,Int.reduceAdd,Int.reduceSub,Int.reduceMul,hP,hW]
        refine callE (.lst 2 false (encSi (siteL (sitesA at_ (q.take i)) q[i]))) (fun S2 => by have := t_site hm W0 S2 (sitesA at_ (q.take i)) q[i] (by omega) (List.Pairwise.filter _ hss); simpa only [Si.c] using this) (by try simp only [ev,evA,true_and,and_true,and_self,if_true,if_false,reduceIte,ne_eq,forall_const,false_implies,beq_self_eq_true,decide_true,decide_false,Int.cast_ofNat_Int,Nat.reduceAdd,Nat.reduceLT,Nat.reduceLeDiff,Nat.reduceEqDiff,Nat.reduceBEq,Nat.reduceMul,Nat.reduceSub,Int.reduceToNat,Int.reduceEq,Int.reduceNe,Int.reduceLT,Int.reduceLE,Int.reduceBEq,Int.reduceAdd,Int.reduceSub,Int.reduceMul,hP,hW]) ?_
        try simp only [hm, w3, ev,evA,true_and,and_true,and_self,if_true,if_false,reduceIte,ne_eq,forall_const,false_implies,beq_self_eq_true,decide_true,decide_false,Int.cast_ofNat_Int,Nat.reduceAdd,Nat.reduceLT,Nat.reduceLeDiff,Nat.reduceEqDiff,Nat.reduceBEq,Nat.reduceMul,Nat.reduceSub,Int.reduceToNat,Int.reduceEq,Int.reduceNe,Int.reduceLT,Int.reduceLE,Int.reduceBEq,Int.reduceAdd,Int.reduceSub,Int.reduceMul,hP,hW]
        refine Cv.ex (S.length + 5) (.mk [.mk (.agg [.lst 3 f1 (encSp l), .lst 2 f2 (encSi q)]) (.raw (.int .i64 n)) (.raw (.int .i64 at_)) (.loc S.length (g 0) 0) .junk .junk (.loc (S.length + 1) (g 1) 0) (.loc (S.length + 2) (g 2) 0), .mk (.lst 1 false (encI (fn n fun k => mk l k))) (.loc (S.length + 3) (g1 0) 0) (.loc (S.length + 4) (g2 0) 0) (.raw (.int .i64 ((i + 1 : Nat) : Int))) .junk .junk .junk .junk, .mk .junk .junk .junk .junk .junk .junk .junk .junk, .mk .junk .junk .junk .junk .junk .junk .junk .junk, .mk .junk .junk .junk .junk .junk .junk .junk .junk, .mk .junk .junk .junk .junk .junk .junk .junk .junk, .mk .junk .junk .junk .junk .junk .junk .junk .junk] [.junk, .junk, .junk, .junk]) _ ?_ (take_append5 ..) (Cv.done ⟨i + 1, hlt, by omega, rfl, by rw [ea, eb]⟩)
        simp [rlE, rlRs, rlR, rlL, DV.le]
      · have w4 : IntKind.i64.wrap (q[i].a - (at_ : Int)) = q[i].a - at_ := wrap_id (by omega) (by omega)
        have eb : sitesB at_ (q.take (i + 1)) = siteL (sitesB at_ (q.take i)) ⟨q[i].m, q[i].a - at_⟩ := by
          rw [siteL_last (fun y hy => ?_)]
          · unfold sitesB; rw [take_snoc hlt, List.filter_append]; simp [hc]
          · unfold sitesB at hy
            obtain ⟨x, hx, rfl⟩ := List.mem_map.1 hy
            have := hpw x ((List.mem_filter.1 hx).1)
            unfold Si.lt at this ⊢
            simp only; omega
        have ea : sitesA at_ (q.take (i + 1)) = sitesA at_ (q.take i) := by unfold sitesA; rw [take_snoc hlt, List.filter_append]; simp [hc]
        have lb : (sitesB at_ (q.take i)).length ≤ i := by unfold sitesB; rw [List.length_map]; refine Nat.le_trans (List.length_filter_le _ _) ?_; rw [List.length_take]; omega
        have hsb : SS (sitesB at_ (q.take i)) := (sitesB_ok (QS_sub hqs i) (by omega)).1.1
        try simp only [hm, w4, ev,evA,true_and,and_true,and_self,if_true,if_false,reduceIte,ne_eq,forall_const,false_implies,beq_self_eq_true,decide_true,decide_false,Int.cast_ofNat_Int,Nat.reduceAdd,Nat.reduceLT,Nat.reduceLeDiff,Nat.reduceEqDiff,Nat.reduceBEq,Nat.reduceMul,Nat.reduceSub,Int.reduceToNat,Int.reduceEq,Int.reduceNe,Int.reduceLT,Int.reduceLE,Int.reduceBEq,Int.reduceAdd,Int.reduceSub,Int.reduceMul,hP,hW]
        refine callE (.lst 2 false (encSi (siteL (sitesB at_ (q.take i)) ⟨q[i].m, q[i].a - at_⟩))) (fun S2 => by have := t_site hm W0 S2 (sitesB at_ (q.take i)) ⟨q[i].m, q[i].a - at_⟩ (by omega) hsb; simpa only [Si.c] using this) (by try simp only [ev,evA,true_and,and_true,and_self,if_true,if_false,reduceIte,ne_eq,forall_const,false_implies,beq_self_eq_true,decide_true,decide_false,Int.cast_ofNat_Int,Nat.reduceAdd,Nat.reduceLT,Nat.reduceLeDiff,Nat.reduceEqDiff,Nat.reduceBEq,Nat.reduceMul,Nat.reduceSub,Int.reduceToNat,Int.reduceEq,Int.reduceNe,Int.reduceLT,Int.reduceLE,Int.reduceBEq,Int.reduceAdd,Int.reduceSub,Int.reduceMul,hP,hW]) ?_
        try simp only [hm, w3, ev,evA,true_and,and_true,and_self,if_true,if_false,reduceIte,ne_eq,forall_const,false_implies,beq_self_eq_true,decide_true,decide_false,Int.cast_ofNat_Int,Nat.reduceAdd,Nat.reduceLT,Nat.reduceLeDiff,Nat.reduceEqDiff,Nat.reduceBEq,Nat.reduceMul,Nat.reduceSub,Int.reduceToNat,Int.reduceEq,Int.reduceNe,Int.reduceLT,Int.reduceLE,Int.reduceBEq,Int.reduceAdd,Int.reduceSub,Int.reduceMul,hP,hW]
        refine Cv.ex (S.length + 5) (.mk [.mk (.agg [.lst 3 f1 (encSp l), .lst 2 f2 (encSi q)]) (.raw (.int .i64 n)) (.raw (.int .i64 at_)) (.loc S.length (g 0) 0) .junk .junk (.loc (S.length + 1) (g 1) 0) (.loc (S.length + 2) (g 2) 0), .mk (.lst 1 false (encI (fn n fun k => mk l k))) (.loc (S.length + 3) (g1 0) 0) (.loc (S.length + 4) (g2 0) 0) (.raw (.int .i64 ((i + 1 : Nat) : Int))) .junk .junk .junk .junk, .mk .junk .junk .junk .junk .junk .junk .junk .junk, .mk .junk .junk .junk .junk .junk .junk .junk .junk, .mk .junk .junk .junk .junk .junk .junk .junk .junk, .mk .junk .junk .junk .junk .junk .junk .junk .junk, .mk .junk .junk .junk .junk .junk .junk .junk .junk] [.junk, .junk, .junk, .junk]) _ ?_ (take_append5 ..) (Cv.done ⟨i + 1, hlt, by omega, rfl, by rw [ea, eb]⟩)
        simp [rlE, rlRs, rlR, rlL, DV.le]
    · have d1 : decide ((i : Int) < (q.length : Int)) = false := decide_eq_false (by omega)
      have hk' : i = q.length := by omega
      subst hk'
      try simp only [d1, encSi_len, hm, List.take_length, ev,evA,true_and,and_true,and_self,if_true,if_false,reduceIte,ne_eq,forall_const,false_implies,beq_self_eq_true,decide_true,decide_false,Int.cast_ofNat_Int,Nat.reduceAdd,Nat.reduceLT,Nat.reduceLeDiff,Nat.reduceEqDiff,Nat.reduceBEq,Nat.reduceMul,Nat.reduceSub,Int.reduceToNat,Int.reduceEq,Int.reduceNe,Int.reduceLT,Int.reduceLE,Int.reduceBEq,Int.reduceAdd,Int.reduceSub,Int.reduceMul,hP,hW]
      refine hret _ _ S.length 5 ?_
      simp only [r_ref04_Part, encSp_map, encSi_map, encSp_take, encSi_take, ev,evA,true_and,and_true,and_self,if_true,if_false,reduceIte,ne_eq,forall_const,false_implies,beq_self_eq_true,decide_true,decide_false,Int.cast_ofNat_Int,Nat.reduceAdd,Nat.reduceLT,Nat.reduceLeDiff,Nat.reduceEqDiff,Nat.reduceBEq,Nat.reduceMul,Nat.reduceSub,Int.reduceToNat,Int.reduceEq,Int.reduceNe,Int.reduceLT,Int.reduceLE,Int.reduceBEq,Int.reduceAdd,Int.reduceSub,Int.reduceMul,hP,hW]
      exact ⟨_, rfl, rfl⟩
end Go.Dv
