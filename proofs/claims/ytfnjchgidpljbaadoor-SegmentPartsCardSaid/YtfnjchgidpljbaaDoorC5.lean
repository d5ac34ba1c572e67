/-
  For every input SegmentParts answers true and its arguments read as before (no condition but the given card's own). Here: Pe, La, Lb, Lx, Ly, Br, Rw, Cr.
-/
import Derived.Test.YtfnjchgidpljbaaDoorC4
import Derived.Test.YtfnjchgidpljbaaDoorProg
import Derived.Shelf.Strings.OnBuilder
import Derived.Shelf.Unicode.ValidAny
import Derived.Shelf.SlSortCmp.NoneTotal
import Derived.Lib.TrimUEq
import Derived.OpenShut
import Derived.ProofKit
import Derived.Test.YtfnjchgidpljbaaDoorRows
import Derived.LaidMore
import Derived.Stop.Joined
import Derived.Lib.LaidU8T
import Derived.Lib.LaidIn
import Derived.Test.YtfnjchgidpljbaaDoorTie
import Derived.Test.YtfnjchgidpljbaaDoorCards
import Derived.SevenTiedAt
set_option linter.all false
set_option linter.unusedSimpArgs false
set_option linter.unusedVariables false
/-
  The document's segments.
-/
namespace Go.Dv
open Go Go.RowKit Go.Proofs
set_option linter.unusedSimpArgs false
set_option linter.unusedVariables false
set_option maxRecDepth 8000


/-- No marks. -/
theorem leSeg (id lb : Int) (t : ByteArray) : leN 1 (.agg [.raw (.int .i64 id), .raw (.int .i64 lb), .raw (.string t), .raw (.slice none 0 0), .raw (.slice none 0 0)]) (.agg [.raw (.int .i64 id), .raw (.int .i64 lb), .raw (.string t), .lst 3 false [], .lst 2 false []]) :=
  leN_agg 0 ⟨leN_refl _ _, leN_refl _ _, leN_refl _ _, leN_nil _ _, leN_nil _ _, trivial⟩
theorem t_refmarks (W0 : World) (S : List SO) (id lb : Int) (t : ByteArray) (f1 f2 : Bool) (l : List Sp) (q : List Si) : CtP Tryd.prog W0 n_ref05_marks [.agg [.raw (.int .i64 id), .raw (.int .i64 lb), .raw (.string t), .lst 3 f1 (encSp l), .lst 2 f2 (encSi q)]] S (fun d => d = .agg [.lst 3 f1 (encSp l), .lst 2 f2 (encSi q)]) := by
  refine Ct_R k_ref05_marks 400 (.mk [.mk (.agg [.raw (.int .i64 id), .raw (.int .i64 lb), .raw (.string t), .lst 3 f1 (encSp l), .lst 2 f2 (encSi q)]) .junk .junk .junk .junk .junk .junk .junk] []) rfl rfl fun r hP hW hpan hret => ?_
  simp only [c_ref05_marks, ev,evA,true_and,and_true,and_self,if_true,if_false,reduceIte,ne_eq,forall_const,false_implies,beq_self_eq_true,decide_true,decide_false,Int.cast_ofNat_Int,Nat.reduceAdd,Nat.reduceLT,Nat.reduceLeDiff,Nat.reduceEqDiff,Nat.reduceBEq,Nat.reduceMul,Nat.reduceSub,Int.reduceToNat,Int.reduceEq,Int.reduceNe,Int.reduceLT,Int.reduceLE,Int.reduceBEq,Int.reduceAdd,Int.reduceSub,Int.reduceMul,hP,hW]
  intro g
  try simp only [ev,evA,true_and,and_true,and_self,if_true,if_false,reduceIte,ne_eq,forall_const,false_implies,beq_self_eq_true,decide_true,decide_false,Int.cast_ofNat_Int,Nat.reduceAdd,Nat.reduceLT,Nat.reduceLeDiff,Nat.reduceEqDiff,Nat.reduceBEq,Nat.reduceMul,Nat.reduceSub,Int.reduceToNat,Int.reduceEq,Int.reduceNe,Int.reduceLT,Int.reduceLE,Int.reduceBEq,Int.reduceAdd,Int.reduceSub,Int.reduceMul,hP,hW]
  refine hret _ _ S.length 5 ?_
  simp only [r_ref05_marks, ev,evA,true_and,and_true,and_self,if_true,if_false,reduceIte,ne_eq,forall_const,false_implies,beq_self_eq_true,decide_true,decide_false,Int.cast_ofNat_Int,Nat.reduceAdd,Nat.reduceLT,Nat.reduceLeDiff,Nat.reduceEqDiff,Nat.reduceBEq,Nat.reduceMul,Nat.reduceSub,Int.reduceToNat,Int.reduceEq,Int.reduceNe,Int.reduceLT,Int.reduceLE,Int.reduceBEq,Int.reduceAdd,Int.reduceSub,Int.reduceMul,hP,hW]
  exact ⟨_, rfl, rfl⟩
theorem t_refwith (W0 : World) (S : List SO) (id lb : Int) (t : ByteArray) (f3 f4 : Bool) (l2 : List Sp) (q2 : List Si) : CtP Tryd.prog W0 n_ref05_with [.agg [.raw (.int .i64 id), .raw (.int .i64 lb), .raw (.string t), .raw (.slice none 0 0), .raw (.slice none 0 0)], .agg [.lst 3 f3 (encSp l2), .lst 2 f4 (encSi q2)]] S (fun d => d = .agg [.raw (.int .i64 id), .raw (.int .i64 lb), .raw (.string t), .lst 3 f3 (encSp l2), .lst 2 f4 (encSi q2)]) := by
  refine Ct_R k_ref05_with 400 (.mk [.mk (.agg [.raw (.int .i64 id), .raw (.int .i64 lb), .raw (.string t), .raw (.slice none 0 0), .raw (.slice none 0 0)]) (.agg [.lst 3 f3 (encSp l2), .lst 2 f4 (encSi q2)]) .junk .junk .junk .junk .junk .junk] [.junk, .junk, .junk, .junk]) rfl rfl fun r hP hW hpan hret => ?_
  simp only [c_ref05_with, ev,evA,true_and,and_true,and_self,if_true,if_false,reduceIte,ne_eq,forall_const,false_implies,beq_self_eq_true,decide_true,decide_false,Int.cast_ofNat_Int,Nat.reduceAdd,Nat.reduceLT,Nat.reduceLeDiff,Nat.reduceEqDiff,Nat.reduceBEq,Nat.reduceMul,Nat.reduceSub,Int.reduceToNat,Int.reduceEq,Int.reduceNe,Int.reduceLT,Int.reduceLE,Int.reduceBEq,Int.reduceAdd,Int.reduceSub,Int.reduceMul,hP,hW]
  try simp only [ev,evA,true_and,and_true,and_self,if_true,if_false,reduceIte,ne_eq,forall_const,false_implies,beq_self_eq_true,decide_true,decide_false,Int.cast_ofNat_Int,Nat.reduceAdd,Nat.reduceLT,Nat.reduceLeDiff,Nat.reduceEqDiff,Nat.reduceBEq,Nat.reduceMul,Nat.reduceSub,Int.reduceToNat,Int.reduceEq,Int.reduceNe,Int.reduceLT,Int.reduceLE,Int.reduceBEq,Int.reduceAdd,Int.reduceSub,Int.reduceMul,hP,hW]
  intro g
  try simp only [ev,evA,true_and,and_true,and_self,if_true,if_false,reduceIte,ne_eq,forall_const,false_implies,beq_self_eq_true,decide_true,decide_false,Int.cast_ofNat_Int,Nat.reduceAdd,Nat.reduceLT,Nat.reduceLeDiff,Nat.reduceEqDiff,Nat.reduceBEq,Nat.reduceMul,Nat.reduceSub,Int.reduceToNat,Int.reduceEq,Int.reduceNe,Int.reduceLT,Int.reduceLE,Int.reduceBEq,Int.reduceAdd,Int.reduceSub,Int.reduceMul,hP,hW]
  refine hret _ _ S.length 5 ?_
  simp only [r_ref05_with, encSp_map, encSi_map, ev,evA,true_and,and_true,and_self,if_true,if_false,reduceIte,ne_eq,forall_const,false_implies,beq_self_eq_true,decide_true,decide_false,Int.cast_ofNat_Int,Nat.reduceAdd,Nat.reduceLT,Nat.reduceLeDiff,Nat.reduceEqDiff,Nat.reduceBEq,Nat.reduceMul,Nat.reduceSub,Int.reduceToNat,Int.reduceEq,Int.reduceNe,Int.reduceLT,Int.reduceLE,Int.reduceBEq,Int.reduceAdd,Int.reduceSub,Int.reduceMul,hP,hW]
  exact ⟨_, rfl, rfl⟩
theorem t_ref5Right (hm : Tryd.prog.follows .mixedOrders = true) (W0 : World) (S : List SO) (id lb : Int) (t : ByteArray) (f1 f2 : Bool) (l : List Sp) (q : List Si) (ht : Big t.size) (hl : l.length ≤ 1099511627776) (hq : q.length ≤ 1099511627776) : CtP Tryd.prog W0 n_ref05_Right [.agg [.raw (.int .i64 id), .raw (.int .i64 lb), .raw (.string t), .lst 3 f1 (encSp l), .lst 2 f2 (encSi q)]] S
    (fun d => ∃ b : Bool, d = .raw (.bool b) ∧ (b = true ↔ ∃ ls, Ls ls ∧ t = cat ls ∧ RS ls.length 0 0 l ∧ QS ls.length q)) := by
  refine Ct_R k_ref05_Right 400 (.mk [.mk (.agg [.raw (.int .i64 id), .raw (.int .i64 lb), .raw (.string t), .lst 3 f1 (encSp l), .lst 2 f2 (encSi q)]) .junk .junk .junk .junk .junk .junk .junk] [.junk, .junk, .junk, .junk, .junk, .junk]) rfl rfl fun r hP hW hpan hret => ?_
  simp only [c_ref05_Right, ev,evA,true_and,and_true,and_self,if_true,if_false,reduceIte,ne_eq,forall_const,false_implies,beq_self_eq_true,decide_true,decide_false,Int.cast_ofNat_Int,Nat.reduceAdd,Nat.reduceLT,Nat.reduceLeDiff,Nat.reduceEqDiff,Nat.reduceBEq,Nat.reduceMul,Nat.reduceSub,Int.reduceToNat,Int.reduceEq,Int.reduceNe,Int.reduceLT,Int.reduceLE,Int.reduceBEq,Int.reduceAdd,Int.reduceSub,Int.reduceMul,hP,hW]
  try simp only [hm, ev,evA,true_and,and_true,and_self,if_true,if_false,reduceIte,ne_eq,forall_const,false_implies,beq_self_eq_true,decide_true,decide_false,Int.cast_ofNat_Int,Nat.reduceAdd,Nat.reduceLT,Nat.reduceLeDiff,Nat.reduceEqDiff,Nat.reduceBEq,Nat.reduceMul,Nat.reduceSub,Int.reduceToNat,Int.reduceEq,Int.reduceNe,Int.reduceLT,Int.reduceLE,Int.reduceBEq,Int.reduceAdd,Int.reduceSub,Int.reduceMul,hP,hW]
  intro g
  cases hv : vld t 0 with
  | false =>
    refine callE _ (fun S2 => t_refRight hm W0 S2 t ht) (by try simp only [ev,evA,true_and,and_true,and_self,if_true,if_false,reduceIte,ne_eq,forall_const,false_implies,beq_self_eq_true,decide_true,decide_false,Int.cast_ofNat_Int,Nat.reduceAdd,Nat.reduceLT,Nat.reduceLeDiff,Nat.reduceEqDiff,Nat.reduceBEq,Nat.reduceMul,Nat.reduceSub,Int.reduceToNat,Int.reduceEq,Int.reduceNe,Int.reduceLT,Int.reduceLE,Int.reduceBEq,Int.reduceAdd,Int.reduceSub,Int.reduceMul,hP,hW]) ?_
    try simp only [hv, ev,evA,true_and,and_true,and_self,if_true,if_false,reduceIte,ne_eq,forall_const,false_implies,beq_self_eq_true,decide_true,decide_false,Int.cast_ofNat_Int,Nat.reduceAdd,Nat.reduceLT,Nat.reduceLeDiff,Nat.reduceEqDiff,Nat.reduceBEq,Nat.reduceMul,Nat.reduceSub,Int.reduceToNat,Int.reduceEq,Int.reduceNe,Int.reduceLT,Int.reduceLE,Int.reduceBEq,Int.reduceAdd,Int.reduceSub,Int.reduceMul,hP,hW]
    refine hret _ _ S.length 5 ?_
    simp only [r_ref05_Right, ev,evA,true_and,and_true,and_self,if_true,if_false,reduceIte,ne_eq,forall_const,false_implies,beq_self_eq_true,decide_true,decide_false,Int.cast_ofNat_Int,Nat.reduceAdd,Nat.reduceLT,Nat.reduceLeDiff,Nat.reduceEqDiff,Nat.reduceBEq,Nat.reduceMul,Nat.reduceSub,Int.reduceToNat,Int.reduceEq,Int.reduceNe,Int.reduceLT,Int.reduceLE,Int.reduceBEq,Int.reduceAdd,Int.reduceSub,Int.reduceMul,hP,hW]
    refine ⟨_, rfl, false, rfl, ?_⟩
    simp only [Bool.false_eq_true, false_iff]
    rintro ⟨ls, h, rfl, _⟩
    rw [vld_ls h] at hv
    cases hv
  | true =>
    have ⟨ls, h, ht2⟩ := (vld_iff t).1 hv
    subst ht2
    have hl1 := h.len_le
    have hb1 : ls.length ≤ 1099511627776 := by unfold Big at ht; omega
    refine callE _ (fun S2 => t_refRight hm W0 S2 _ ht) (by try simp only [ev,evA,true_and,and_true,and_self,if_true,if_false,reduceIte,ne_eq,forall_const,false_implies,beq_self_eq_true,decide_true,decide_false,Int.cast_ofNat_Int,Nat.reduceAdd,Nat.reduceLT,Nat.reduceLeDiff,Nat.reduceEqDiff,Nat.reduceBEq,Nat.reduceMul,Nat.reduceSub,Int.reduceToNat,Int.reduceEq,Int.reduceNe,Int.reduceLT,Int.reduceLE,Int.reduceBEq,Int.reduceAdd,Int.reduceSub,Int.reduceMul,hP,hW]) ?_
    try simp only [hv, hm, ev,evA,true_and,and_true,and_self,if_true,if_false,reduceIte,ne_eq,forall_const,false_implies,beq_self_eq_true,decide_true,decide_false,Int.cast_ofNat_Int,Nat.reduceAdd,Nat.reduceLT,Nat.reduceLeDiff,Nat.reduceEqDiff,Nat.reduceBEq,Nat.reduceMul,Nat.reduceSub,Int.reduceToNat,Int.reduceEq,Int.reduceNe,Int.reduceLT,Int.reduceLE,Int.reduceBEq,Int.reduceAdd,Int.reduceSub,Int.reduceMul,hP,hW]
    refine callE _ (fun S2 => t_refmarks W0 S2 id lb _ f1 f2 l q) (by try simp only [ev,evA,true_and,and_true,and_self,if_true,if_false,reduceIte,ne_eq,forall_const,false_implies,beq_self_eq_true,decide_true,decide_false,Int.cast_ofNat_Int,Nat.reduceAdd,Nat.reduceLT,Nat.reduceLeDiff,Nat.reduceEqDiff,Nat.reduceBEq,Nat.reduceMul,Nat.reduceSub,Int.reduceToNat,Int.reduceEq,Int.reduceNe,Int.reduceLT,Int.reduceLE,Int.reduceBEq,Int.reduceAdd,Int.reduceSub,Int.reduceMul,hP,hW]) ?_
    try simp only [hv, hm, ev,evA,true_and,and_true,and_self,if_true,if_false,reduceIte,ne_eq,forall_const,false_implies,beq_self_eq_true,decide_true,decide_false,Int.cast_ofNat_Int,Nat.reduceAdd,Nat.reduceLT,Nat.reduceLeDiff,Nat.reduceEqDiff,Nat.reduceBEq,Nat.reduceMul,Nat.reduceSub,Int.reduceToNat,Int.reduceEq,Int.reduceNe,Int.reduceLT,Int.reduceLE,Int.reduceBEq,Int.reduceAdd,Int.reduceSub,Int.reduceMul,hP,hW]
    refine callE _ (fun S2 => t_refCount hm W0 S2 h ht) (by try simp only [ev,evA,true_and,and_true,and_self,if_true,if_false,reduceIte,ne_eq,forall_const,false_implies,beq_self_eq_true,decide_true,decide_false,Int.cast_ofNat_Int,Nat.reduceAdd,Nat.reduceLT,Nat.reduceLeDiff,Nat.reduceEqDiff,Nat.reduceBEq,Nat.reduceMul,Nat.reduceSub,Int.reduceToNat,Int.reduceEq,Int.reduceNe,Int.reduceLT,Int.reduceLE,Int.reduceBEq,Int.reduceAdd,Int.reduceSub,Int.reduceMul,hP,hW]) ?_
    try simp only [hv, hm, ev,evA,true_and,and_true,and_self,if_true,if_false,reduceIte,ne_eq,forall_const,false_implies,beq_self_eq_true,decide_true,decide_false,Int.cast_ofNat_Int,Nat.reduceAdd,Nat.reduceLT,Nat.reduceLeDiff,Nat.reduceEqDiff,Nat.reduceBEq,Nat.reduceMul,Nat.reduceSub,Int.reduceToNat,Int.reduceEq,Int.reduceNe,Int.reduceLT,Int.reduceLE,Int.reduceBEq,Int.reduceAdd,Int.reduceSub,Int.reduceMul,hP,hW]
    refine callQ _ (fun S2 => t_ref4Right hm W0 S2 f1 f2 l q ls.length hl hq) ?_ (by try simp only [ev,evA,true_and,and_true,and_self,if_true,if_false,reduceIte,ne_eq,forall_const,false_implies,beq_self_eq_true,decide_true,decide_false,Int.cast_ofNat_Int,Nat.reduceAdd,Nat.reduceLT,Nat.reduceLeDiff,Nat.reduceEqDiff,Nat.reduceBEq,Nat.reduceMul,Nat.reduceSub,Int.reduceToNat,Int.reduceEq,Int.reduceNe,Int.reduceLT,Int.reduceLE,Int.reduceBEq,Int.reduceAdd,Int.reduceSub,Int.reduceMul,hP,hW]) ?_
    · by_cases hh : RS ls.length 0 0 l ∧ QS ls.length q
      · exact ⟨_, true, rfl, by simp [hh]⟩
      · exact ⟨_, false, rfl, by simp [hh]⟩
    rintro d ⟨b, rfl, hbb⟩
    try simp only [hv, hm, ev,evA,true_and,and_true,and_self,if_true,if_false,reduceIte,ne_eq,forall_const,false_implies,beq_self_eq_true,decide_true,decide_false,Int.cast_ofNat_Int,Nat.reduceAdd,Nat.reduceLT,Nat.reduceLeDiff,Nat.reduceEqDiff,Nat.reduceBEq,Nat.reduceMul,Nat.reduceSub,Int.reduceToNat,Int.reduceEq,Int.reduceNe,Int.reduceLT,Int.reduceLE,Int.reduceBEq,Int.reduceAdd,Int.reduceSub,Int.reduceMul,hP,hW]
    refine hret _ _ S.length 5 ?_
    simp only [r_ref05_Right, ev,evA,true_and,and_true,and_self,if_true,if_false,reduceIte,ne_eq,forall_const,false_implies,beq_self_eq_true,decide_true,decide_false,Int.cast_ofNat_Int,Nat.reduceAdd,Nat.reduceLT,Nat.reduceLeDiff,Nat.reduceEqDiff,Nat.reduceBEq,Nat.reduceMul,Nat.reduceSub,Int.reduceToNat,Int.reduceEq,Int.reduceNe,Int.reduceLT,Int.reduceLE,Int.reduceBEq,Int.reduceAdd,Int.reduceSub,Int.reduceMul,hP,hW]
    refine ⟨_, rfl, b, rfl, ?_⟩
    rw [hbb]
    constructor
    · exact fun hh => ⟨ls, h, rfl, hh⟩
    · rintro ⟨ls2, h2, e2, hh⟩
      rw [cat_inj h h2 e2]; exact hh
theorem t_refplaces (hm : Tryd.prog.follows .mixedOrders = true) (W0 : World) (S : List SO) (id lb : Int) (ls : List ByteArray) (f1 f2 : Bool) (l : List Sp) (q : List Si) (h : Ls ls) (hb : Big (bytes ls)) (at_ k : Int) : CtP Tryd.prog W0 n_ref05_places [.agg [.raw (.int .i64 id), .raw (.int .i64 lb), .raw (.string (cat ls)), .lst 3 f1 (encSp l), .lst 2 f2 (encSi q)], .raw (.int .i64 at_), .raw (.int .i64 k)] S (fun d => d = .tup [.raw (.int .i64 (pa ls.length at_)), .raw (.int .i64 (pb ls.length at_ k))]) := by
  have h1 := pa_ok ls.length at_
  have h2 := pb_ok ls.length at_ k
  refine Ct_R k_ref05_places 400 (.mk [.mk (.agg [.raw (.int .i64 id), .raw (.int .i64 lb), .raw (.string (cat ls)), .lst 3 f1 (encSp l), .lst 2 f2 (encSi q)]) (.raw (.int .i64 at_)) (.raw (.int .i64 k)) .junk .junk .junk .junk .junk, .mk .junk .junk .junk .junk .junk .junk .junk .junk, .mk .junk .junk .junk .junk .junk .junk .junk .junk] [.junk]) rfl rfl fun r hP hW hpan hret => ?_
  simp only [c_ref05_places, ev,evA,true_and,and_true,and_self,if_true,if_false,reduceIte,ne_eq,forall_const,false_implies,beq_self_eq_true,decide_true,decide_false,Int.cast_ofNat_Int,Nat.reduceAdd,Nat.reduceLT,Nat.reduceLeDiff,Nat.reduceEqDiff,Nat.reduceBEq,Nat.reduceMul,Nat.reduceSub,Int.reduceToNat,Int.reduceEq,Int.reduceNe,Int.reduceLT,Int.reduceLE,Int.reduceBEq,Int.reduceAdd,Int.reduceSub,Int.reduceMul,hP,hW]
  try simp only [hm, ev,evA,true_and,and_true,and_self,if_true,if_false,reduceIte,ne_eq,forall_const,false_implies,beq_self_eq_true,decide_true,decide_false,Int.cast_ofNat_Int,Nat.reduceAdd,Nat.reduceLT,Nat.reduceLeDiff,Nat.reduceEqDiff,Nat.reduceBEq,Nat.reduceMul,Nat.reduceSub,Int.reduceToNat,Int.reduceEq,Int.reduceNe,Int.reduceLT,Int.reduceLE,Int.reduceBEq,Int.reduceAdd,Int.reduceSub,Int.reduceMul,hP,hW]
  intro g
  refine callE _ (fun S2 => t_refCount hm W0 S2 h hb) (by try simp only [ev,evA,true_and,and_true,and_self,if_true,if_false,reduceIte,ne_eq,forall_const,false_implies,beq_self_eq_true,decide_true,decide_false,Int.cast_ofNat_Int,Nat.reduceAdd,Nat.reduceLT,Nat.reduceLeDiff,Nat.reduceEqDiff,Nat.reduceBEq,Nat.reduceMul,Nat.reduceSub,Int.reduceToNat,Int.reduceEq,Int.reduceNe,Int.reduceLT,Int.reduceLE,Int.reduceBEq,Int.reduceAdd,Int.reduceSub,Int.reduceMul,hP,hW]) ?_
  have hl1 := h.len_le
  have hb1 : ls.length ≤ 1099511627776 := by unfold Big bytes at hb; omega
  have e1 : min (max at_ 0) (ls.length : Int) = pa ls.length at_ := rfl
  have w1 : IntKind.i64.wrap ((ls.length : Int) - pa ls.length at_) = (ls.length : Int) - pa ls.length at_ := wrap_id (by omega) (by omega)
  have w2 : IntKind.i64.wrap (pa ls.length at_ + min (max k 0) ((ls.length : Int) - pa ls.length at_)) = pb ls.length at_ k := by rw [show pa ls.length at_ + min (max k 0) ((ls.length : Int) - pa ls.length at_) = pb ls.length at_ k from rfl, wrap_id (by omega) (by omega)]
  try simp only [hm, e1, w1, w2, ev,evA,true_and,and_true,and_self,if_true,if_false,reduceIte,ne_eq,forall_const,false_implies,beq_self_eq_true,decide_true,decide_false,Int.cast_ofNat_Int,Nat.reduceAdd,Nat.reduceLT,Nat.reduceLeDiff,Nat.reduceEqDiff,Nat.reduceBEq,Nat.reduceMul,Nat.reduceSub,Int.reduceToNat,Int.reduceEq,Int.reduceNe,Int.reduceLT,Int.reduceLE,Int.reduceBEq,Int.reduceAdd,Int.reduceSub,Int.reduceMul,hP,hW]
  refine hret _ _ S.length 5 ?_
  simp only [r_ref05_places, ev,evA,true_and,and_true,and_self,if_true,if_false,reduceIte,ne_eq,forall_const,false_implies,beq_self_eq_true,decide_true,decide_false,Int.cast_ofNat_Int,Nat.reduceAdd,Nat.reduceLT,Nat.reduceLeDiff,Nat.reduceEqDiff,Nat.reduceBEq,Nat.reduceMul,Nat.reduceSub,Int.reduceToNat,Int.reduceEq,Int.reduceNe,Int.reduceLT,Int.reduceLE,Int.reduceBEq,Int.reduceAdd,Int.reduceSub,Int.reduceMul,hP,hW]
  exact ⟨_, rfl, rfl⟩
theorem t_ref5Piece (hm : Tryd.prog.follows .mixedOrders = true) (W0 : World) (S : List SO) (id lb : Int) (ls : List ByteArray) (f1 f2 : Bool) (l : List Sp) (q : List Si) (h : Ls ls) (hb : Big (bytes ls)) (at_ k id2 : Int) : CtP Tryd.prog W0 n_ref05_Piece [.agg [.raw (.int .i64 id), .raw (.int .i64 lb), .raw (.string (cat ls)), .lst 3 f1 (encSp l), .lst 2 f2 (encSi q)], .raw (.int .i64 at_), .raw (.int .i64 k), .raw (.int .i64 id2)] S
    (fun d => d = .agg [.raw (.int .i64 id2), .raw (.int .i64 lb), .raw (.string (cat ((ls.take (pb ls.length at_ k).toNat).drop (pa ls.length at_).toNat))), .lst 3 false [], .lst 2 false []]) := by
  refine CtP.leN (q := fun d => d = .agg [.raw (.int .i64 id2), .raw (.int .i64 lb), .raw (.string (cat ((ls.take (pb ls.length at_ k).toNat).drop (pa ls.length at_).toNat))), .raw (.slice none 0 0), .raw (.slice none 0 0)]) 1 ?_ (fun d hd => ⟨_, by rw [hd]; exact leSeg _ _ _, rfl⟩)
  refine Ct_R k_ref05_Piece 400 (.mk [.mk (.agg [.raw (.int .i64 id), .raw (.int .i64 lb), .raw (.string (cat ls)), .lst 3 f1 (encSp l), .lst 2 f2 (encSi q)]) (.raw (.int .i64 at_)) (.raw (.int .i64 k)) (.raw (.int .i64 id2)) .junk .junk .junk .junk, .mk .junk .junk .junk .junk .junk .junk .junk .junk, .mk .junk .junk .junk .junk .junk .junk .junk .junk] [.junk, .junk, .junk]) rfl rfl fun r hP hW hpan hret => ?_
  simp only [c_ref05_Piece, ev,evA,true_and,and_true,and_self,if_true,if_false,reduceIte,ne_eq,forall_const,false_implies,beq_self_eq_true,decide_true,decide_false,Int.cast_ofNat_Int,Nat.reduceAdd,Nat.reduceLT,Nat.reduceLeDiff,Nat.reduceEqDiff,Nat.reduceBEq,Nat.reduceMul,Nat.reduceSub,Int.reduceToNat,Int.reduceEq,Int.reduceNe,Int.reduceLT,Int.reduceLE,Int.reduceBEq,Int.reduceAdd,Int.reduceSub,Int.reduceMul,hP,hW]
  try simp only [hm, ev,evA,true_and,and_true,and_self,if_true,if_false,reduceIte,ne_eq,forall_const,false_implies,beq_self_eq_true,decide_true,decide_false,Int.cast_ofNat_Int,Nat.reduceAdd,Nat.reduceLT,Nat.reduceLeDiff,Nat.reduceEqDiff,Nat.reduceBEq,Nat.reduceMul,Nat.reduceSub,Int.reduceToNat,Int.reduceEq,Int.reduceNe,Int.reduceLT,Int.reduceLE,Int.reduceBEq,Int.reduceAdd,Int.reduceSub,Int.reduceMul,hP,hW]
  intro g
  refine callE _ (fun S2 => t_refplaces hm W0 S2 id lb ls f1 f2 l q h hb at_ k) (by try simp only [ev,evA,true_and,and_true,and_self,if_true,if_false,reduceIte,ne_eq,forall_const,false_implies,beq_self_eq_true,decide_true,decide_false,Int.cast_ofNat_Int,Nat.reduceAdd,Nat.reduceLT,Nat.reduceLeDiff,Nat.reduceEqDiff,Nat.reduceBEq,Nat.reduceMul,Nat.reduceSub,Int.reduceToNat,Int.reduceEq,Int.reduceNe,Int.reduceLT,Int.reduceLE,Int.reduceBEq,Int.reduceAdd,Int.reduceSub,Int.reduceMul,hP,hW]) ?_
  try simp only [hm, ev,evA,true_and,and_true,and_self,if_true,if_false,reduceIte,ne_eq,forall_const,false_implies,beq_self_eq_true,decide_true,decide_false,Int.cast_ofNat_Int,Nat.reduceAdd,Nat.reduceLT,Nat.reduceLeDiff,Nat.reduceEqDiff,Nat.reduceBEq,Nat.reduceMul,Nat.reduceSub,Int.reduceToNat,Int.reduceEq,Int.reduceNe,Int.reduceLT,Int.reduceLE,Int.reduceBEq,Int.reduceAdd,Int.reduceSub,Int.reduceMul,hP,hW]
  refine callE _ (fun S2 => t_refCut hm W0 S2 h hb (pa ls.length at_) (pb ls.length at_ k)) (by try simp only [ev,evA,true_and,and_true,and_self,if_true,if_false,reduceIte,ne_eq,forall_const,false_implies,beq_self_eq_true,decide_true,decide_false,Int.cast_ofNat_Int,Nat.reduceAdd,Nat.reduceLT,Nat.reduceLeDiff,Nat.reduceEqDiff,Nat.reduceBEq,Nat.reduceMul,Nat.reduceSub,Int.reduceToNat,Int.reduceEq,Int.reduceNe,Int.reduceLT,Int.reduceLE,Int.reduceBEq,Int.reduceAdd,Int.reduceSub,Int.reduceMul,hP,hW]) ?_
  try simp only [hm, ev,evA,true_and,and_true,and_self,if_true,if_false,reduceIte,ne_eq,forall_const,false_implies,beq_self_eq_true,decide_true,decide_false,Int.cast_ofNat_Int,Nat.reduceAdd,Nat.reduceLT,Nat.reduceLeDiff,Nat.reduceEqDiff,Nat.reduceBEq,Nat.reduceMul,Nat.reduceSub,Int.reduceToNat,Int.reduceEq,Int.reduceNe,Int.reduceLT,Int.reduceLE,Int.reduceBEq,Int.reduceAdd,Int.reduceSub,Int.reduceMul,hP,hW]
  refine hret _ _ S.length 5 ?_
  simp only [r_ref05_Piece, ev,evA,true_and,and_true,and_self,if_true,if_false,reduceIte,ne_eq,forall_const,false_implies,beq_self_eq_true,decide_true,decide_false,Int.cast_ofNat_Int,Nat.reduceAdd,Nat.reduceLT,Nat.reduceLeDiff,Nat.reduceEqDiff,Nat.reduceBEq,Nat.reduceMul,Nat.reduceSub,Int.reduceToNat,Int.reduceEq,Int.reduceNe,Int.reduceLT,Int.reduceLE,Int.reduceBEq,Int.reduceAdd,Int.reduceSub,Int.reduceMul,hP,hW]
  exact ⟨_, rfl, rfl⟩
theorem t_ref5Same (hm : Tryd.prog.follows .mixedOrders = true) (W0 : World) (S : List SO) (id lb : Int) (t : ByteArray) (f1 f2 : Bool) (l : List Sp) (q : List Si) (f3 f4 : Bool) (hl : l.length ≤ 1099511627776) (hq : q.length ≤ 1099511627776) : CtP Tryd.prog W0 n_ref05_Same [.agg [.raw (.int .i64 id), .raw (.int .i64 lb), .raw (.string t), .lst 3 f1 (encSp l), .lst 2 f2 (encSi q)], .agg [.raw (.int .i64 id), .raw (.int .i64 lb), .raw (.string t), .lst 3 f3 (encSp l), .lst 2 f4 (encSi q)]] S
    (fun d => d = .raw (.bool true)) := by
  refine Ct_R k_ref05_Same 400 (.mk [.mk (.agg [.raw (.int .i64 id), .raw (.int .i64 lb), .raw (.string t), .lst 3 f1 (encSp l), .lst 2 f2 (encSi q)]) (.agg [.raw (.int .i64 id), .raw (.int .i64 lb), .raw (.string t), .lst 3 f3 (encSp l), .lst 2 f4 (encSi q)]) .junk .junk .junk .junk .junk .junk, .mk .junk .junk .junk .junk .junk .junk .junk .junk, .mk .junk .junk .junk .junk .junk .junk .junk .junk, .mk .junk .junk .junk .junk .junk .junk .junk .junk] [.junk, .junk, .junk]) rfl rfl fun r hP hW hpan hret => ?_
  simp only [c_ref05_Same, ev,evA,true_and,and_true,and_self,if_true,if_false,reduceIte,ne_eq,forall_const,false_implies,beq_self_eq_true,decide_true,decide_false,Int.cast_ofNat_Int,Nat.reduceAdd,Nat.reduceLT,Nat.reduceLeDiff,Nat.reduceEqDiff,Nat.reduceBEq,Nat.reduceMul,Nat.reduceSub,Int.reduceToNat,Int.reduceEq,Int.reduceNe,Int.reduceLT,Int.reduceLE,Int.reduceBEq,Int.reduceAdd,Int.reduceSub,Int.reduceMul,hP,hW]
  try simp only [hm, beq_self_eq_true, ev,evA,true_and,and_true,and_self,if_true,if_false,reduceIte,ne_eq,forall_const,false_implies,beq_self_eq_true,decide_true,decide_false,Int.cast_ofNat_Int,Nat.reduceAdd,Nat.reduceLT,Nat.reduceLeDiff,Nat.reduceEqDiff,Nat.reduceBEq,Nat.reduceMul,Nat.reduceSub,Int.reduceToNat,Int.reduceEq,Int.reduceNe,Int.reduceLT,Int.reduceLE,Int.reduceBEq,Int.reduceAdd,Int.reduceSub,Int.reduceMul,hP,hW]
  intro g
  refine callE _ (fun S2 => t_ref4Same hm W0 S2 f1 f3 f2 f4 l q hl hq) (by try simp only [ev,evA,true_and,and_true,and_self,if_true,if_false,reduceIte,ne_eq,forall_const,false_implies,beq_self_eq_true,decide_true,decide_false,Int.cast_ofNat_Int,Nat.reduceAdd,Nat.reduceLT,Nat.reduceLeDiff,Nat.reduceEqDiff,Nat.reduceBEq,Nat.reduceMul,Nat.reduceSub,Int.reduceToNat,Int.reduceEq,Int.reduceNe,Int.reduceLT,Int.reduceLE,Int.reduceBEq,Int.reduceAdd,Int.reduceSub,Int.reduceMul,hP,hW]) ?_
  try simp only [hm, ev,evA,true_and,and_true,and_self,if_true,if_false,reduceIte,ne_eq,forall_const,false_implies,beq_self_eq_true,decide_true,decide_false,Int.cast_ofNat_Int,Nat.reduceAdd,Nat.reduceLT,Nat.reduceLeDiff,Nat.reduceEqDiff,Nat.reduceBEq,Nat.reduceMul,Nat.reduceSub,Int.reduceToNat,Int.reduceEq,Int.reduceNe,Int.reduceLT,Int.reduceLE,Int.reduceBEq,Int.reduceAdd,Int.reduceSub,Int.reduceMul,hP,hW]
  refine hret _ _ S.length 5 ?_
  simp only [r_ref05_Same, ev,evA,true_and,and_true,and_self,if_true,if_false,reduceIte,ne_eq,forall_const,false_implies,beq_self_eq_true,decide_true,decide_false,Int.cast_ofNat_Int,Nat.reduceAdd,Nat.reduceLT,Nat.reduceLeDiff,Nat.reduceEqDiff,Nat.reduceBEq,Nat.reduceMul,Nat.reduceSub,Int.reduceToNat,Int.reduceEq,Int.reduceNe,Int.reduceLT,Int.reduceLE,Int.reduceBEq,Int.reduceAdd,Int.reduceSub,Int.reduceMul,hP,hW]
  exact ⟨_, rfl, rfl⟩
theorem t_ref5Part (hm : Tryd.prog.follows .mixedOrders = true) (W0 : World) (S : List SO) (id lb : Int) (ls : List ByteArray) (f1 f2 : Bool) (l : List Sp) (q : List Si) (h : Ls ls) (hb : Big (bytes ls)) (hl : l.length ≤ 1099511627776) (hq : q.length ≤ 1099511627776) (hrs : RS ls.length 0 0 l) (hqs : QS ls.length q) (at_ k i2 i3 lb2 a b : Int) (ha : pa ls.length at_ = a) (hbb : pb ls.length at_ k = b) :
    CtP Tryd.prog W0 n_ref05_Part [.agg [.raw (.int .i64 id), .raw (.int .i64 lb), .raw (.string (cat ls)), .lst 3 f1 (encSp l), .lst 2 f2 (encSi q)], .raw (.int .i64 at_), .raw (.int .i64 k), .raw (.int .i64 i2), .raw (.int .i64 i3), .raw (.int .i64 lb2)] S
    (fun d => d = .tup [.agg [.raw (.int .i64 id), .raw (.int .i64 lb), .raw (.string (cat (ls.take a.toNat))), .lst 3 false (encSp (foldA (l.map (clipA a)))), .lst 2 false (encSi (sitesA a q))], .agg [.raw (.int .i64 i2), .raw (.int .i64 lb2), .raw (.string (cat ((ls.take b.toNat).drop a.toNat))), .lst 3 false [], .lst 2 false []], .agg [.raw (.int .i64 i3), .raw (.int .i64 lb), .raw (.string (cat (ls.drop b.toNat))), .lst 3 false (encSp (foldA ((foldA (l.map (clipB a))).map (clipB (b - a))))), .lst 2 false (encSi (sitesB (b - a) (sitesB a q)))]]) := by
  have h1 := pa_ok ls.length at_
  have h2 := pb_ok ls.length at_ k
  rw [ha] at h1 h2
  rw [hbb] at h2
  have hl1 := h.len_le
  have hb1 : ls.length ≤ 1099511627776 := by unfold Big bytes at hb; omega
  refine CtP.leN (q := fun d => d = .tup [.agg [.raw (.int .i64 id), .raw (.int .i64 lb), .raw (.string (cat (ls.take a.toNat))), .lst 3 false (encSp (foldA (l.map (clipA a)))), .lst 2 false (encSi (sitesA a q))], .agg [.raw (.int .i64 i2), .raw (.int .i64 lb2), .raw (.string (cat ((ls.take b.toNat).drop a.toNat))), .raw (.slice none 0 0), .raw (.slice none 0 0)], .agg [.raw (.int .i64 i3), .raw (.int .i64 lb), .raw (.string (cat (ls.drop b.toNat))), .lst 3 false (encSp (foldA ((foldA (l.map (clipB a))).map (clipB (b - a))))), .lst 2 false (encSi (sitesB (b - a) (sitesB a q)))]]) 2 ?_ ?_
  rotate_left
  · rintro d rfl
    refine ⟨_, ?_, rfl⟩
    refine leN_tup 1 ?_
    simp only [rlL]
    exact ⟨leN_refl _ _, leSeg _ _ _, leN_refl _ _, trivial⟩
  refine Ct_R k_ref05_Part 400 (.mk [.mk (.agg [.raw (.int .i64 id), .raw (.int .i64 lb), .raw (.string (cat ls)), .lst 3 f1 (encSp l), .lst 2 f2 (encSi q)]) (.raw (.int .i64 at_)) (.raw (.int .i64 k)) (.raw (.int .i64 i2)) (.raw (.int .i64 i3)) (.raw (.int .i64 lb2)) .junk .junk, .mk .junk .junk .junk .junk .junk .junk .junk .junk, .mk .junk .junk .junk .junk .junk .junk .junk .junk, .mk .junk .junk .junk .junk .junk .junk .junk .junk, .mk .junk .junk .junk .junk .junk .junk .junk .junk, .mk .junk .junk .junk .junk .junk .junk .junk .junk, .mk .junk .junk .junk .junk .junk .junk .junk .junk, .mk .junk .junk .junk .junk .junk .junk .junk .junk, .mk .junk .junk .junk .junk .junk .junk .junk .junk, .mk .junk .junk .junk .junk .junk .junk .junk .junk] [.junk, .junk, .junk, .junk, .junk, .junk, .junk]) rfl rfl fun r hP hW hpan hret => ?_
  simp only [c_ref05_Part, ev,evA,true_and,and_true,and_self,if_true,if_false,reduceIte,ne_eq,forall_const,false_implies,beq_self_eq_true,decide_true,decide_false,Int.cast_ofNat_Int,Nat.reduceAdd,Nat.reduceLT,Nat.reduceLeDiff,Nat.reduceEqDiff,Nat.reduceBEq,Nat.reduceMul,Nat.reduceSub,Int.reduceToNat,Int.reduceEq,Int.reduceNe,Int.reduceLT,Int.reduceLE,Int.reduceBEq,Int.reduceAdd,Int.reduceSub,Int.reduceMul,hP,hW]
  try simp only [hm, ev,evA,true_and,and_true,and_self,if_true,if_false,reduceIte,ne_eq,forall_const,false_implies,beq_self_eq_true,decide_true,decide_false,Int.cast_ofNat_Int,Nat.reduceAdd,Nat.reduceLT,Nat.reduceLeDiff,Nat.reduceEqDiff,Nat.reduceBEq,Nat.reduceMul,Nat.reduceSub,Int.reduceToNat,Int.reduceEq,Int.reduceNe,Int.reduceLT,Int.reduceLE,Int.reduceBEq,Int.reduceAdd,Int.reduceSub,Int.reduceMul,hP,hW]
  intro g
  refine callE (.tup [.raw (.int .i64 a), .raw (.int .i64 b)]) (fun S2 => by have := t_refplaces hm W0 S2 id lb ls f1 f2 l q h hb at_ k; rwa [ha, hbb] at this) (by try simp only [ev,evA,true_and,and_true,and_self,if_true,if_false,reduceIte,ne_eq,forall_const,false_implies,beq_self_eq_true,decide_true,decide_false,Int.cast_ofNat_Int,Nat.reduceAdd,Nat.reduceLT,Nat.reduceLeDiff,Nat.reduceEqDiff,Nat.reduceBEq,Nat.reduceMul,Nat.reduceSub,Int.reduceToNat,Int.reduceEq,Int.reduceNe,Int.reduceLT,Int.reduceLE,Int.reduceBEq,Int.reduceAdd,Int.reduceSub,Int.reduceMul,hP,hW]) ?_
  try simp only [hm, ev,evA,true_and,and_true,and_self,if_true,if_false,reduceIte,ne_eq,forall_const,false_implies,beq_self_eq_true,decide_true,decide_false,Int.cast_ofNat_Int,Nat.reduceAdd,Nat.reduceLT,Nat.reduceLeDiff,Nat.reduceEqDiff,Nat.reduceBEq,Nat.reduceMul,Nat.reduceSub,Int.reduceToNat,Int.reduceEq,Int.reduceNe,Int.reduceLT,Int.reduceLE,Int.reduceBEq,Int.reduceAdd,Int.reduceSub,Int.reduceMul,hP,hW]
  refine callE _ (fun S2 => t_refCount hm W0 S2 h hb) (by try simp only [ev,evA,true_and,and_true,and_self,if_true,if_false,reduceIte,ne_eq,forall_const,false_implies,beq_self_eq_true,decide_true,decide_false,Int.cast_ofNat_Int,Nat.reduceAdd,Nat.reduceLT,Nat.reduceLeDiff,Nat.reduceEqDiff,Nat.reduceBEq,Nat.reduceMul,Nat.reduceSub,Int.reduceToNat,Int.reduceEq,Int.reduceNe,Int.reduceLT,Int.reduceLE,Int.reduceBEq,Int.reduceAdd,Int.reduceSub,Int.reduceMul,hP,hW]) ?_
  try simp only [hm, ev,evA,true_and,and_true,and_self,if_true,if_false,reduceIte,ne_eq,forall_const,false_implies,beq_self_eq_true,decide_true,decide_false,Int.cast_ofNat_Int,Nat.reduceAdd,Nat.reduceLT,Nat.reduceLeDiff,Nat.reduceEqDiff,Nat.reduceBEq,Nat.reduceMul,Nat.reduceSub,Int.reduceToNat,Int.reduceEq,Int.reduceNe,Int.reduceLT,Int.reduceLE,Int.reduceBEq,Int.reduceAdd,Int.reduceSub,Int.reduceMul,hP,hW]
  intro g1
  refine callE _ (fun S2 => t_refmarks W0 S2 id lb _ f1 f2 l q) (by try simp only [ev,evA,true_and,and_true,and_self,if_true,if_false,reduceIte,ne_eq,forall_const,false_implies,beq_self_eq_true,decide_true,decide_false,Int.cast_ofNat_Int,Nat.reduceAdd,Nat.reduceLT,Nat.reduceLeDiff,Nat.reduceEqDiff,Nat.reduceBEq,Nat.reduceMul,Nat.reduceSub,Int.reduceToNat,Int.reduceEq,Int.reduceNe,Int.reduceLT,Int.reduceLE,Int.reduceBEq,Int.reduceAdd,Int.reduceSub,Int.reduceMul,hP,hW]) ?_
  try simp only [hm, ev,evA,true_and,and_true,and_self,if_true,if_false,reduceIte,ne_eq,forall_const,false_implies,beq_self_eq_true,decide_true,decide_false,Int.cast_ofNat_Int,Nat.reduceAdd,Nat.reduceLT,Nat.reduceLeDiff,Nat.reduceEqDiff,Nat.reduceBEq,Nat.reduceMul,Nat.reduceSub,Int.reduceToNat,Int.reduceEq,Int.reduceNe,Int.reduceLT,Int.reduceLE,Int.reduceBEq,Int.reduceAdd,Int.reduceSub,Int.reduceMul,hP,hW]
  have ea : a = ((a.toNat : Nat) : Int) := by omega
  have eb : b - a = (((b - a).toNat : Nat) : Int) := by omega
  refine callE (.tup [.agg [.lst 3 false (encSp (foldA (l.map (clipA a)))), .lst 2 false (encSi (sitesA a q))], .agg [.lst 3 false (encSp (foldA (l.map (clipB a)))), .lst 2 false (encSi (sitesB a q))]]) (fun S2 => by have := t_ref4Part hm W0 S2 f1 f2 l q ls.length a.toNat hb1 (by omega) hl hq hrs hqs; rwa [← ea] at this) (by try simp only [ev,evA,true_and,and_true,and_self,if_true,if_false,reduceIte,ne_eq,forall_const,false_implies,beq_self_eq_true,decide_true,decide_false,Int.cast_ofNat_Int,Nat.reduceAdd,Nat.reduceLT,Nat.reduceLeDiff,Nat.reduceEqDiff,Nat.reduceBEq,Nat.reduceMul,Nat.reduceSub,Int.reduceToNat,Int.reduceEq,Int.reduceNe,Int.reduceLT,Int.reduceLE,Int.reduceBEq,Int.reduceAdd,Int.reduceSub,Int.reduceMul,hP,hW]) ?_
  have w1 : IntKind.i64.wrap ((ls.length : Int) - a) = (((ls.length - a.toNat : Nat) : Nat) : Int) := by rw [wrap_id (by omega) (by omega)]; omega
  have w2 : IntKind.i64.wrap (b - a) = b - a := wrap_id (by omega) (by omega)
  have hB := partB hrs h1.1 h1.2
  have hQB := sitesB_ok hqs h1.1
  have ec : (ls.length : Int) - a = ((ls.length - a.toNat : Nat) : Int) := by omega
  rw [ec] at hB hQB
  try simp only [hm, w1, w2, ev,evA,true_and,and_true,and_self,if_true,if_false,reduceIte,ne_eq,forall_const,false_implies,beq_self_eq_true,decide_true,decide_false,Int.cast_ofNat_Int,Nat.reduceAdd,Nat.reduceLT,Nat.reduceLeDiff,Nat.reduceEqDiff,Nat.reduceBEq,Nat.reduceMul,Nat.reduceSub,Int.reduceToNat,Int.reduceEq,Int.reduceNe,Int.reduceLT,Int.reduceLE,Int.reduceBEq,Int.reduceAdd,Int.reduceSub,Int.reduceMul,hP,hW]
  intro g2
  have hlB := foldB_len (clipB a) l
  have hqB := sitesB_len a q
  refine callE (.tup [.agg [.lst 3 false (encSp (foldA ((foldA (l.map (clipB a))).map (clipA (b - a))))), .lst 2 false (encSi (sitesA (b - a) (sitesB a q)))], .agg [.lst 3 false (encSp (foldA ((foldA (l.map (clipB a))).map (clipB (b - a))))), .lst 2 false (encSi (sitesB (b - a) (sitesB a q)))]]) (fun S2 => by have := t_ref4Part hm W0 S2 false false (foldA (l.map (clipB a))) (sitesB a q) (ls.length - a.toNat) (b - a).toNat (by omega) (by omega) (by omega) (by omega) hB.1 hQB.1; rwa [← eb] at this) (by try simp only [ev,evA,true_and,and_true,and_self,if_true,if_false,reduceIte,ne_eq,forall_const,false_implies,beq_self_eq_true,decide_true,decide_false,Int.cast_ofNat_Int,Nat.reduceAdd,Nat.reduceLT,Nat.reduceLeDiff,Nat.reduceEqDiff,Nat.reduceBEq,Nat.reduceMul,Nat.reduceSub,Int.reduceToNat,Int.reduceEq,Int.reduceNe,Int.reduceLT,Int.reduceLE,Int.reduceBEq,Int.reduceAdd,Int.reduceSub,Int.reduceMul,hP,hW]) ?_
  try simp only [hm, w1, w2, ev,evA,true_and,and_true,and_self,if_true,if_false,reduceIte,ne_eq,forall_const,false_implies,beq_self_eq_true,decide_true,decide_false,Int.cast_ofNat_Int,Nat.reduceAdd,Nat.reduceLT,Nat.reduceLeDiff,Nat.reduceEqDiff,Nat.reduceBEq,Nat.reduceMul,Nat.reduceSub,Int.reduceToNat,Int.reduceEq,Int.reduceNe,Int.reduceLT,Int.reduceLE,Int.reduceBEq,Int.reduceAdd,Int.reduceSub,Int.reduceMul,hP,hW]
  intro g3
  refine callE (.raw (.string (cat (ls.take a.toNat)))) (fun S2 => by have := t_refCut hm W0 S2 h hb 0 a; simpa using this) (by try simp only [ev,evA,true_and,and_true,and_self,if_true,if_false,reduceIte,ne_eq,forall_const,false_implies,beq_self_eq_true,decide_true,decide_false,Int.cast_ofNat_Int,Nat.reduceAdd,Nat.reduceLT,Nat.reduceLeDiff,Nat.reduceEqDiff,Nat.reduceBEq,Nat.reduceMul,Nat.reduceSub,Int.reduceToNat,Int.reduceEq,Int.reduceNe,Int.reduceLT,Int.reduceLE,Int.reduceBEq,Int.reduceAdd,Int.reduceSub,Int.reduceMul,hP,hW]) ?_
  try simp only [hm, ev,evA,true_and,and_true,and_self,if_true,if_false,reduceIte,ne_eq,forall_const,false_implies,beq_self_eq_true,decide_true,decide_false,Int.cast_ofNat_Int,Nat.reduceAdd,Nat.reduceLT,Nat.reduceLeDiff,Nat.reduceEqDiff,Nat.reduceBEq,Nat.reduceMul,Nat.reduceSub,Int.reduceToNat,Int.reduceEq,Int.reduceNe,Int.reduceLT,Int.reduceLE,Int.reduceBEq,Int.reduceAdd,Int.reduceSub,Int.reduceMul,hP,hW]
  refine callE _ (fun S2 => t_refwith W0 S2 id lb _ false false _ _) (by try simp only [ev,evA,true_and,and_true,and_self,if_true,if_false,reduceIte,ne_eq,forall_const,false_implies,beq_self_eq_true,decide_true,decide_false,Int.cast_ofNat_Int,Nat.reduceAdd,Nat.reduceLT,Nat.reduceLeDiff,Nat.reduceEqDiff,Nat.reduceBEq,Nat.reduceMul,Nat.reduceSub,Int.reduceToNat,Int.reduceEq,Int.reduceNe,Int.reduceLT,Int.reduceLE,Int.reduceBEq,Int.reduceAdd,Int.reduceSub,Int.reduceMul,hP,hW]) ?_
  try simp only [hm, ev,evA,true_and,and_true,and_self,if_true,if_false,reduceIte,ne_eq,forall_const,false_implies,beq_self_eq_true,decide_true,decide_false,Int.cast_ofNat_Int,Nat.reduceAdd,Nat.reduceLT,Nat.reduceLeDiff,Nat.reduceEqDiff,Nat.reduceBEq,Nat.reduceMul,Nat.reduceSub,Int.reduceToNat,Int.reduceEq,Int.reduceNe,Int.reduceLT,Int.reduceLE,Int.reduceBEq,Int.reduceAdd,Int.reduceSub,Int.reduceMul,hP,hW]
  intro g4
  refine callE _ (fun S2 => t_refCut hm W0 S2 h hb a b) (by try simp only [ev,evA,true_and,and_true,and_self,if_true,if_false,reduceIte,ne_eq,forall_const,false_implies,beq_self_eq_true,decide_true,decide_false,Int.cast_ofNat_Int,Nat.reduceAdd,Nat.reduceLT,Nat.reduceLeDiff,Nat.reduceEqDiff,Nat.reduceBEq,Nat.reduceMul,Nat.reduceSub,Int.reduceToNat,Int.reduceEq,Int.reduceNe,Int.reduceLT,Int.reduceLE,Int.reduceBEq,Int.reduceAdd,Int.reduceSub,Int.reduceMul,hP,hW]) ?_
  try simp only [hm, ev,evA,true_and,and_true,and_self,if_true,if_false,reduceIte,ne_eq,forall_const,false_implies,beq_self_eq_true,decide_true,decide_false,Int.cast_ofNat_Int,Nat.reduceAdd,Nat.reduceLT,Nat.reduceLeDiff,Nat.reduceEqDiff,Nat.reduceBEq,Nat.reduceMul,Nat.reduceSub,Int.reduceToNat,Int.reduceEq,Int.reduceNe,Int.reduceLT,Int.reduceLE,Int.reduceBEq,Int.reduceAdd,Int.reduceSub,Int.reduceMul,hP,hW]
  intro g5
  refine callE (.raw (.string (cat (ls.drop b.toNat)))) (fun S2 => by have := t_refCut hm W0 S2 h hb b ls.length; rwa [Int.toNat_natCast, List.take_length] at this) (by try simp only [ev,evA,true_and,and_true,and_self,if_true,if_false,reduceIte,ne_eq,forall_const,false_implies,beq_self_eq_true,decide_true,decide_false,Int.cast_ofNat_Int,Nat.reduceAdd,Nat.reduceLT,Nat.reduceLeDiff,Nat.reduceEqDiff,Nat.reduceBEq,Nat.reduceMul,Nat.reduceSub,Int.reduceToNat,Int.reduceEq,Int.reduceNe,Int.reduceLT,Int.reduceLE,Int.reduceBEq,Int.reduceAdd,Int.reduceSub,Int.reduceMul,hP,hW]) ?_
  try simp only [hm, ev,evA,true_and,and_true,and_self,if_true,if_false,reduceIte,ne_eq,forall_const,false_implies,beq_self_eq_true,decide_true,decide_false,Int.cast_ofNat_Int,Nat.reduceAdd,Nat.reduceLT,Nat.reduceLeDiff,Nat.reduceEqDiff,Nat.reduceBEq,Nat.reduceMul,Nat.reduceSub,Int.reduceToNat,Int.reduceEq,Int.reduceNe,Int.reduceLT,Int.reduceLE,Int.reduceBEq,Int.reduceAdd,Int.reduceSub,Int.reduceMul,hP,hW]
  refine callE _ (fun S2 => t_refwith W0 S2 i3 lb _ false false _ _) (by try simp only [ev,evA,true_and,and_true,and_self,if_true,if_false,reduceIte,ne_eq,forall_const,false_implies,beq_self_eq_true,decide_true,decide_false,Int.cast_ofNat_Int,Nat.reduceAdd,Nat.reduceLT,Nat.reduceLeDiff,Nat.reduceEqDiff,Nat.reduceBEq,Nat.reduceMul,Nat.reduceSub,Int.reduceToNat,Int.reduceEq,Int.reduceNe,Int.reduceLT,Int.reduceLE,Int.reduceBEq,Int.reduceAdd,Int.reduceSub,Int.reduceMul,hP,hW]) ?_
  try simp only [hm, ev,evA,true_and,and_true,and_self,if_true,if_false,reduceIte,ne_eq,forall_const,false_implies,beq_self_eq_true,decide_true,decide_false,Int.cast_ofNat_Int,Nat.reduceAdd,Nat.reduceLT,Nat.reduceLeDiff,Nat.reduceEqDiff,Nat.reduceBEq,Nat.reduceMul,Nat.reduceSub,Int.reduceToNat,Int.reduceEq,Int.reduceNe,Int.reduceLT,Int.reduceLE,Int.reduceBEq,Int.reduceAdd,Int.reduceSub,Int.reduceMul,hP,hW]
  refine hret _ _ S.length 5 ?_
  simp only [r_ref05_Part, encSp_map, encSi_map, ev,evA,true_and,and_true,and_self,if_true,if_false,reduceIte,ne_eq,forall_const,false_implies,beq_self_eq_true,decide_true,decide_false,Int.cast_ofNat_Int,Nat.reduceAdd,Nat.reduceLT,Nat.reduceLeDiff,Nat.reduceEqDiff,Nat.reduceBEq,Nat.reduceMul,Nat.reduceSub,Int.reduceToNat,Int.reduceEq,Int.reduceNe,Int.reduceLT,Int.reduceLE,Int.reduceBEq,Int.reduceAdd,Int.reduceSub,Int.reduceMul,hP,hW]
  exact ⟨_, rfl, rfl⟩
end Go.Dv
/-
  The law's helpers.
-/
namespace Go.Dv
open Go Go.RowKit Go.Proofs
set_option linter.unusedSimpArgs false
set_option linter.unusedVariables false
set_option maxRecDepth 8000


theorem t_small (W0 : World) (S : List SO) (id lb : Int) (t : ByteArray) (f1 f2 : Bool) (l : List Sp) (q : List Si) : CtP Tryd.prog W0 n_law05_small [.agg [.raw (.int .i64 id), .raw (.int .i64 lb), .raw (.string t), .lst 3 f1 (encSp l), .lst 2 f2 (encSi q)]] S (fun d => d = .raw (.bool (decide (t.size ≤ 1500 ∧ l.length ≤ 300 ∧ q.length ≤ 300)))) := by
  refine Ct_R k_law05_small 400 (.mk [.mk (.agg [.raw (.int .i64 id), .raw (.int .i64 lb), .raw (.string t), .lst 3 f1 (encSp l), .lst 2 f2 (encSi q)]) .junk .junk .junk .junk .junk .junk .junk, .mk .junk .junk .junk .junk .junk .junk .junk .junk] [.junk, .junk, .junk]) rfl rfl fun r hP hW hpan hret => ?_
  simp only [c_law05_small, ev,evA,true_and,and_true,and_self,if_true,if_false,reduceIte,ne_eq,forall_const,false_implies,beq_self_eq_true,decide_true,decide_false,Int.cast_ofNat_Int,Nat.reduceAdd,Nat.reduceLT,Nat.reduceLeDiff,Nat.reduceEqDiff,Nat.reduceBEq,Nat.reduceMul,Nat.reduceSub,Int.reduceToNat,Int.reduceEq,Int.reduceNe,Int.reduceLT,Int.reduceLE,Int.reduceBEq,Int.reduceAdd,Int.reduceSub,Int.reduceMul,hP,hW]
  try simp only [ev,evA,true_and,and_true,and_self,if_true,if_false,reduceIte,ne_eq,forall_const,false_implies,beq_self_eq_true,decide_true,decide_false,Int.cast_ofNat_Int,Nat.reduceAdd,Nat.reduceLT,Nat.reduceLeDiff,Nat.reduceEqDiff,Nat.reduceBEq,Nat.reduceMul,Nat.reduceSub,Int.reduceToNat,Int.reduceEq,Int.reduceNe,Int.reduceLT,Int.reduceLE,Int.reduceBEq,Int.reduceAdd,Int.reduceSub,Int.reduceMul,hP,hW]
  intro g
  try simp only [encSp_len, encSi_len, ev,evA,true_and,and_true,and_self,if_true,if_false,reduceIte,ne_eq,forall_const,false_implies,beq_self_eq_true,decide_true,decide_false,Int.cast_ofNat_Int,Nat.reduceAdd,Nat.reduceLT,Nat.reduceLeDiff,Nat.reduceEqDiff,Nat.reduceBEq,Nat.reduceMul,Nat.reduceSub,Int.reduceToNat,Int.reduceEq,Int.reduceNe,Int.reduceLT,Int.reduceLE,Int.reduceBEq,Int.reduceAdd,Int.reduceSub,Int.reduceMul,hP,hW]
  by_cases h1 : t.size ≤ 1500
  · have e1 : decide ((t.size : Int) ≤ 1500) = true := decide_eq_true (by omega)
    try simp only [e1, encSp_len, encSi_len, ev,evA,true_and,and_true,and_self,if_true,if_false,reduceIte,ne_eq,forall_const,false_implies,beq_self_eq_true,decide_true,decide_false,Int.cast_ofNat_Int,Nat.reduceAdd,Nat.reduceLT,Nat.reduceLeDiff,Nat.reduceEqDiff,Nat.reduceBEq,Nat.reduceMul,Nat.reduceSub,Int.reduceToNat,Int.reduceEq,Int.reduceNe,Int.reduceLT,Int.reduceLE,Int.reduceBEq,Int.reduceAdd,Int.reduceSub,Int.reduceMul,hP,hW]
    by_cases h2 : l.length ≤ 300
    · have e2 : decide ((l.length : Int) ≤ 300) = true := decide_eq_true (by omega)
      try simp only [e1, e2, encSp_len, encSi_len, ev,evA,true_and,and_true,and_self,if_true,if_false,reduceIte,ne_eq,forall_const,false_implies,beq_self_eq_true,decide_true,decide_false,Int.cast_ofNat_Int,Nat.reduceAdd,Nat.reduceLT,Nat.reduceLeDiff,Nat.reduceEqDiff,Nat.reduceBEq,Nat.reduceMul,Nat.reduceSub,Int.reduceToNat,Int.reduceEq,Int.reduceNe,Int.reduceLT,Int.reduceLE,Int.reduceBEq,Int.reduceAdd,Int.reduceSub,Int.reduceMul,hP,hW]
      refine hret _ _ S.length 5 ?_
      simp only [r_law05_small, ev,evA,true_and,and_true,and_self,if_true,if_false,reduceIte,ne_eq,forall_const,false_implies,beq_self_eq_true,decide_true,decide_false,Int.cast_ofNat_Int,Nat.reduceAdd,Nat.reduceLT,Nat.reduceLeDiff,Nat.reduceEqDiff,Nat.reduceBEq,Nat.reduceMul,Nat.reduceSub,Int.reduceToNat,Int.reduceEq,Int.reduceNe,Int.reduceLT,Int.reduceLE,Int.reduceBEq,Int.reduceAdd,Int.reduceSub,Int.reduceMul,hP,hW]
      refine ⟨_, rfl, ?_⟩
      by_cases h3 : q.length ≤ 300
      · rw [decide_eq_true (show (q.length : Int) ≤ 300 by omega), decide_eq_true (⟨h1, h2, h3⟩ : t.size ≤ 1500 ∧ l.length ≤ 300 ∧ q.length ≤ 300)]
      · rw [decide_eq_false (show ¬ (q.length : Int) ≤ 300 by omega), decide_eq_false (show ¬ (t.size ≤ 1500 ∧ l.length ≤ 300 ∧ q.length ≤ 300) from fun h => h3 h.2.2)]
    · have e2 : decide ((l.length : Int) ≤ 300) = false := decide_eq_false (by omega)
      try simp only [e1, e2, encSp_len, encSi_len, ev,evA,true_and,and_true,and_self,if_true,if_false,reduceIte,ne_eq,forall_const,false_implies,beq_self_eq_true,decide_true,decide_false,Int.cast_ofNat_Int,Nat.reduceAdd,Nat.reduceLT,Nat.reduceLeDiff,Nat.reduceEqDiff,Nat.reduceBEq,Nat.reduceMul,Nat.reduceSub,Int.reduceToNat,Int.reduceEq,Int.reduceNe,Int.reduceLT,Int.reduceLE,Int.reduceBEq,Int.reduceAdd,Int.reduceSub,Int.reduceMul,hP,hW]
      refine hret _ _ S.length 5 ?_
      simp only [r_law05_small, ev,evA,true_and,and_true,and_self,if_true,if_false,reduceIte,ne_eq,forall_const,false_implies,beq_self_eq_true,decide_true,decide_false,Int.cast_ofNat_Int,Nat.reduceAdd,Nat.reduceLT,Nat.reduceLeDiff,Nat.reduceEqDiff,Nat.reduceBEq,Nat.reduceMul,Nat.reduceSub,Int.reduceToNat,Int.reduceEq,Int.reduceNe,Int.reduceLT,Int.reduceLE,Int.reduceBEq,Int.reduceAdd,Int.reduceSub,Int.reduceMul,hP,hW]
      exact ⟨_, rfl, by rw [decide_eq_false (show ¬ (t.size ≤ 1500 ∧ l.length ≤ 300 ∧ q.length ≤ 300) from fun h => h2 h.2.1)]⟩
  · have e1 : decide ((t.size : Int) ≤ 1500) = false := decide_eq_false (by omega)
    try simp only [e1, encSp_len, encSi_len, ev,evA,true_and,and_true,and_self,if_true,if_false,reduceIte,ne_eq,forall_const,false_implies,beq_self_eq_true,decide_true,decide_false,Int.cast_ofNat_Int,Nat.reduceAdd,Nat.reduceLT,Nat.reduceLeDiff,Nat.reduceEqDiff,Nat.reduceBEq,Nat.reduceMul,Nat.reduceSub,Int.reduceToNat,Int.reduceEq,Int.reduceNe,Int.reduceLT,Int.reduceLE,Int.reduceBEq,Int.reduceAdd,Int.reduceSub,Int.reduceMul,hP,hW]
    refine hret _ _ S.length 5 ?_
    simp only [r_law05_small, ev,evA,true_and,and_true,and_self,if_true,if_false,reduceIte,ne_eq,forall_const,false_implies,beq_self_eq_true,decide_true,decide_false,Int.cast_ofNat_Int,Nat.reduceAdd,Nat.reduceLT,Nat.reduceLeDiff,Nat.reduceEqDiff,Nat.reduceBEq,Nat.reduceMul,Nat.reduceSub,Int.reduceToNat,Int.reduceEq,Int.reduceNe,Int.reduceLT,Int.reduceLE,Int.reduceBEq,Int.reduceAdd,Int.reduceSub,Int.reduceMul,hP,hW]
    exact ⟨_, rfl, by rw [decide_eq_false (show ¬ (t.size ≤ 1500 ∧ l.length ≤ 300 ∧ q.length ≤ 300) from fun h => h1 h.1)]⟩

theorem t_has (hm : Tryd.prog.follows .mixedOrders = true) (W0 : World) (L : LibOk W0) (S : List SO) (id lb : Int) (x : Option Rp) (f1 f2 f3 f4 : Bool) (l : List Sp) (q : List Si) (hx : OkO x) (hbig : Big (bytes (lsO x))) (hl : l.length ≤ 1099511627776) (hq : q.length ≤ 1099511627776) :
    CtP Tryd.prog W0 n_law05_has [.agg [.raw (.int .i64 id), .raw (.int .i64 lb), encO x, .lst 3 f1 (encSp l), .lst 2 f2 (encSi q)], .agg [.raw (.int .i64 id), .raw (.int .i64 lb), .raw (.string (cat (lsO x))), .lst 3 f3 (encSp l), .lst 2 f4 (encSi q)]] S (fun d => d = .raw (.bool true)) := by
  refine Ct_R k_law05_has 400 (.mk [.mk (.agg [.raw (.int .i64 id), .raw (.int .i64 lb), encO x, .lst 3 f1 (encSp l), .lst 2 f2 (encSi q)]) (.agg [.raw (.int .i64 id), .raw (.int .i64 lb), .raw (.string (cat (lsO x))), .lst 3 f3 (encSp l), .lst 2 f4 (encSi q)]) .junk .junk .junk .junk .junk .junk, .mk .junk .junk .junk .junk .junk .junk .junk .junk, .mk .junk .junk .junk .junk .junk .junk .junk .junk] [.junk, .junk, .junk, .junk, .junk, .junk, .junk]) rfl rfl fun r hP hW hpan hret => ?_
  simp only [c_law05_has, ev,evA,true_and,and_true,and_self,if_true,if_false,reduceIte,ne_eq,forall_const,false_implies,beq_self_eq_true,decide_true,decide_false,Int.cast_ofNat_Int,Nat.reduceAdd,Nat.reduceLT,Nat.reduceLeDiff,Nat.reduceEqDiff,Nat.reduceBEq,Nat.reduceMul,Nat.reduceSub,Int.reduceToNat,Int.reduceEq,Int.reduceNe,Int.reduceLT,Int.reduceLE,Int.reduceBEq,Int.reduceAdd,Int.reduceSub,Int.reduceMul,hP,hW]
  try simp only [evRo, hm, ev,evA,true_and,and_true,and_self,if_true,if_false,reduceIte,ne_eq,forall_const,false_implies,beq_self_eq_true,decide_true,decide_false,Int.cast_ofNat_Int,Nat.reduceAdd,Nat.reduceLT,Nat.reduceLeDiff,Nat.reduceEqDiff,Nat.reduceBEq,Nat.reduceMul,Nat.reduceSub,Int.reduceToNat,Int.reduceEq,Int.reduceNe,Int.reduceLT,Int.reduceLE,Int.reduceBEq,Int.reduceAdd,Int.reduceSub,Int.reduceMul,hP,hW]
  intro g
  refine callE _ (fun S2 => t_Plain W0 L S2 id lb x f1 f2 l q hx hbig hl hq) (by try simp only [ev,evA,true_and,and_true,and_self,if_true,if_false,reduceIte,ne_eq,forall_const,false_implies,beq_self_eq_true,decide_true,decide_false,Int.cast_ofNat_Int,Nat.reduceAdd,Nat.reduceLT,Nat.reduceLeDiff,Nat.reduceEqDiff,Nat.reduceBEq,Nat.reduceMul,Nat.reduceSub,Int.reduceToNat,Int.reduceEq,Int.reduceNe,Int.reduceLT,Int.reduceLE,Int.reduceBEq,Int.reduceAdd,Int.reduceSub,Int.reduceMul,hP,hW]) ?_
  try simp only [evRo, hm, ev,evA,true_and,and_true,and_self,if_true,if_false,reduceIte,ne_eq,forall_const,false_implies,beq_self_eq_true,decide_true,decide_false,Int.cast_ofNat_Int,Nat.reduceAdd,Nat.reduceLT,Nat.reduceLeDiff,Nat.reduceEqDiff,Nat.reduceBEq,Nat.reduceMul,Nat.reduceSub,Int.reduceToNat,Int.reduceEq,Int.reduceNe,Int.reduceLT,Int.reduceLE,Int.reduceBEq,Int.reduceAdd,Int.reduceSub,Int.reduceMul,hP,hW]
  refine callE _ (fun S2 => t_ref5Same hm W0 S2 id lb _ false false l q f3 f4 hl hq) (by try simp only [ev,evA,true_and,and_true,and_self,if_true,if_false,reduceIte,ne_eq,forall_const,false_implies,beq_self_eq_true,decide_true,decide_false,Int.cast_ofNat_Int,Nat.reduceAdd,Nat.reduceLT,Nat.reduceLeDiff,Nat.reduceEqDiff,Nat.reduceBEq,Nat.reduceMul,Nat.reduceSub,Int.reduceToNat,Int.reduceEq,Int.reduceNe,Int.reduceLT,Int.reduceLE,Int.reduceBEq,Int.reduceAdd,Int.reduceSub,Int.reduceMul,hP,hW]) ?_
  try simp only [evRo, hm, ev,evA,true_and,and_true,and_self,if_true,if_false,reduceIte,ne_eq,forall_const,false_implies,beq_self_eq_true,decide_true,decide_false,Int.cast_ofNat_Int,Nat.reduceAdd,Nat.reduceLT,Nat.reduceLeDiff,Nat.reduceEqDiff,Nat.reduceBEq,Nat.reduceMul,Nat.reduceSub,Int.reduceToNat,Int.reduceEq,Int.reduceNe,Int.reduceLT,Int.reduceLE,Int.reduceBEq,Int.reduceAdd,Int.reduceSub,Int.reduceMul,hP,hW]
  refine callE _ (fun S2 => t_Id W0 S2 id lb x f1 f2 l q) (by try simp only [ev,evA,true_and,and_true,and_self,if_true,if_false,reduceIte,ne_eq,forall_const,false_implies,beq_self_eq_true,decide_true,decide_false,Int.cast_ofNat_Int,Nat.reduceAdd,Nat.reduceLT,Nat.reduceLeDiff,Nat.reduceEqDiff,Nat.reduceBEq,Nat.reduceMul,Nat.reduceSub,Int.reduceToNat,Int.reduceEq,Int.reduceNe,Int.reduceLT,Int.reduceLE,Int.reduceBEq,Int.reduceAdd,Int.reduceSub,Int.reduceMul,hP,hW]) ?_
  try simp only [evRo, hm, beq_self_eq_true, ev,evA,true_and,and_true,and_self,if_true,if_false,reduceIte,ne_eq,forall_const,false_implies,beq_self_eq_true,decide_true,decide_false,Int.cast_ofNat_Int,Nat.reduceAdd,Nat.reduceLT,Nat.reduceLeDiff,Nat.reduceEqDiff,Nat.reduceBEq,Nat.reduceMul,Nat.reduceSub,Int.reduceToNat,Int.reduceEq,Int.reduceNe,Int.reduceLT,Int.reduceLE,Int.reduceBEq,Int.reduceAdd,Int.reduceSub,Int.reduceMul,hP,hW]
  refine callE _ (fun S2 => t_Label W0 S2 id lb x f1 f2 l q) (by try simp only [ev,evA,true_and,and_true,and_self,if_true,if_false,reduceIte,ne_eq,forall_const,false_implies,beq_self_eq_true,decide_true,decide_false,Int.cast_ofNat_Int,Nat.reduceAdd,Nat.reduceLT,Nat.reduceLeDiff,Nat.reduceEqDiff,Nat.reduceBEq,Nat.reduceMul,Nat.reduceSub,Int.reduceToNat,Int.reduceEq,Int.reduceNe,Int.reduceLT,Int.reduceLE,Int.reduceBEq,Int.reduceAdd,Int.reduceSub,Int.reduceMul,hP,hW]) ?_
  try simp only [evRo, hm, beq_self_eq_true, ev,evA,true_and,and_true,and_self,if_true,if_false,reduceIte,ne_eq,forall_const,false_implies,beq_self_eq_true,decide_true,decide_false,Int.cast_ofNat_Int,Nat.reduceAdd,Nat.reduceLT,Nat.reduceLeDiff,Nat.reduceEqDiff,Nat.reduceBEq,Nat.reduceMul,Nat.reduceSub,Int.reduceToNat,Int.reduceEq,Int.reduceNe,Int.reduceLT,Int.reduceLE,Int.reduceBEq,Int.reduceAdd,Int.reduceSub,Int.reduceMul,hP,hW]
  refine callE _ (fun S2 => t_Rope W0 S2 id lb x f1 f2 l q) (by try simp only [ev,evA,true_and,and_true,and_self,if_true,if_false,reduceIte,ne_eq,forall_const,false_implies,beq_self_eq_true,decide_true,decide_false,Int.cast_ofNat_Int,Nat.reduceAdd,Nat.reduceLT,Nat.reduceLeDiff,Nat.reduceEqDiff,Nat.reduceBEq,Nat.reduceMul,Nat.reduceSub,Int.reduceToNat,Int.reduceEq,Int.reduceNe,Int.reduceLT,Int.reduceLE,Int.reduceBEq,Int.reduceAdd,Int.reduceSub,Int.reduceMul,hP,hW]) ?_
  try simp only [evRo, hm, beq_self_eq_true, ev,evA,true_and,and_true,and_self,if_true,if_false,reduceIte,ne_eq,forall_const,false_implies,beq_self_eq_true,decide_true,decide_false,Int.cast_ofNat_Int,Nat.reduceAdd,Nat.reduceLT,Nat.reduceLeDiff,Nat.reduceEqDiff,Nat.reduceBEq,Nat.reduceMul,Nat.reduceSub,Int.reduceToNat,Int.reduceEq,Int.reduceNe,Int.reduceLT,Int.reduceLE,Int.reduceBEq,Int.reduceAdd,Int.reduceSub,Int.reduceMul,hP,hW]
  refine callE _ (fun S2 => t_Text W0 L S2 hx hbig) (by try simp only [ev,evA,true_and,and_true,and_self,if_true,if_false,reduceIte,ne_eq,forall_const,false_implies,beq_self_eq_true,decide_true,decide_false,Int.cast_ofNat_Int,Nat.reduceAdd,Nat.reduceLT,Nat.reduceLeDiff,Nat.reduceEqDiff,Nat.reduceBEq,Nat.reduceMul,Nat.reduceSub,Int.reduceToNat,Int.reduceEq,Int.reduceNe,Int.reduceLT,Int.reduceLE,Int.reduceBEq,Int.reduceAdd,Int.reduceSub,Int.reduceMul,hP,hW]) ?_
  try simp only [evRo, hm, beq_self_eq_true, ev,evA,true_and,and_true,and_self,if_true,if_false,reduceIte,ne_eq,forall_const,false_implies,beq_self_eq_true,decide_true,decide_false,Int.cast_ofNat_Int,Nat.reduceAdd,Nat.reduceLT,Nat.reduceLeDiff,Nat.reduceEqDiff,Nat.reduceBEq,Nat.reduceMul,Nat.reduceSub,Int.reduceToNat,Int.reduceEq,Int.reduceNe,Int.reduceLT,Int.reduceLE,Int.reduceBEq,Int.reduceAdd,Int.reduceSub,Int.reduceMul,hP,hW]
  refine hret _ _ S.length 5 ?_
  simp only [r_law05_has, beq_self_eq_true, ev,evA,true_and,and_true,and_self,if_true,if_false,reduceIte,ne_eq,forall_const,false_implies,beq_self_eq_true,decide_true,decide_false,Int.cast_ofNat_Int,Nat.reduceAdd,Nat.reduceLT,Nat.reduceLeDiff,Nat.reduceEqDiff,Nat.reduceBEq,Nat.reduceMul,Nat.reduceSub,Int.reduceToNat,Int.reduceEq,Int.reduceNe,Int.reduceLT,Int.reduceLE,Int.reduceBEq,Int.reduceAdd,Int.reduceSub,Int.reduceMul,hP,hW]
  exact ⟨_, rfl, rfl⟩

/-- What loaded answers. -/
def LoadQ (id lb : Int) (t : ByteArray) (l : List Sp) (q : List Si) (d : DV) : Prop :=
  d = .tup [.agg [.raw (.int .i64 0), .raw (.int .i64 0), encO none, .raw (.slice none 0 0), .raw (.slice none 0 0)], .raw (.bool false)] ∨
  ∃ ls x, Ls ls ∧ t = cat ls ∧ t.size ≤ 1500 ∧ l.length ≤ 300 ∧ q.length ≤ 300 ∧ RS ls.length 0 0 l ∧ QS ls.length q ∧ OkO x ∧ lsO x = ls ∧
    d = .tup [.agg [.raw (.int .i64 id), .raw (.int .i64 lb), encO x, .lst 3 false (encSp l), .lst 2 false (encSi q)], .raw (.bool true)]
theorem t_loaded (hm : Tryd.prog.follows .mixedOrders = true) (W0 : World) (S : List SO) (id lb : Int) (t : ByteArray) (f1 f2 : Bool) (l : List Sp) (q : List Si) (L : LibOk W0) (d1 d2 d3 d4 : Int) (u : ByteArray) : CtP Tryd.prog W0 n_law05_loaded [.agg [.raw (.int .i64 id), .raw (.int .i64 lb), .raw (.string t), .lst 3 f1 (encSp l), .lst 2 f2 (encSi q)], .agg [.raw (.int .i64 d1), .raw (.int .i64 d2), .raw (.int .i64 d3), .raw (.int .i64 d4), .raw (.string u)]] S
    (LoadQ id lb t l q) := by
  refine Ct_R k_law05_loaded 400 (.mk [.mk (.agg [.raw (.int .i64 id), .raw (.int .i64 lb), .raw (.string t), .lst 3 f1 (encSp l), .lst 2 f2 (encSi q)]) (.agg [.raw (.int .i64 d1), .raw (.int .i64 d2), .raw (.int .i64 d3), .raw (.int .i64 d4), .raw (.string u)]) .junk .junk .junk .junk .junk .junk, .mk .junk .junk .junk .junk .junk .junk .junk .junk, .mk .junk .junk .junk .junk .junk .junk .junk .junk] [.junk, .junk, .junk, .junk, .junk, .junk, .junk]) rfl rfl fun r hP hW hpan hret => ?_
  simp only [c_law05_loaded, ev,evA,true_and,and_true,and_self,if_true,if_false,reduceIte,ne_eq,forall_const,false_implies,beq_self_eq_true,decide_true,decide_false,Int.cast_ofNat_Int,Nat.reduceAdd,Nat.reduceLT,Nat.reduceLeDiff,Nat.reduceEqDiff,Nat.reduceBEq,Nat.reduceMul,Nat.reduceSub,Int.reduceToNat,Int.reduceEq,Int.reduceNe,Int.reduceLT,Int.reduceLE,Int.reduceBEq,Int.reduceAdd,Int.reduceSub,Int.reduceMul,hP,hW]
  try simp only [evRo, hm, ev,evA,true_and,and_true,and_self,if_true,if_false,reduceIte,ne_eq,forall_const,false_implies,beq_self_eq_true,decide_true,decide_false,Int.cast_ofNat_Int,Nat.reduceAdd,Nat.reduceLT,Nat.reduceLeDiff,Nat.reduceEqDiff,Nat.reduceBEq,Nat.reduceMul,Nat.reduceSub,Int.reduceToNat,Int.reduceEq,Int.reduceNe,Int.reduceLT,Int.reduceLE,Int.reduceBEq,Int.reduceAdd,Int.reduceSub,Int.reduceMul,hP,hW]
  intro g
  refine callE _ (fun S2 => t_small W0 S2 id lb t f1 f2 l q) (by try simp only [ev,evA,true_and,and_true,and_self,if_true,if_false,reduceIte,ne_eq,forall_const,false_implies,beq_self_eq_true,decide_true,decide_false,Int.cast_ofNat_Int,Nat.reduceAdd,Nat.reduceLT,Nat.reduceLeDiff,Nat.reduceEqDiff,Nat.reduceBEq,Nat.reduceMul,Nat.reduceSub,Int.reduceToNat,Int.reduceEq,Int.reduceNe,Int.reduceLT,Int.reduceLE,Int.reduceBEq,Int.reduceAdd,Int.reduceSub,Int.reduceMul,hP,hW]) ?_
  cases hs : decide (t.size ≤ 1500 ∧ l.length ≤ 300 ∧ q.length ≤ 300) with
  | false =>
    try simp only [evRo, hm, hs, ev,evA,true_and,and_true,and_self,if_true,if_false,reduceIte,ne_eq,forall_const,false_implies,beq_self_eq_true,decide_true,decide_false,Int.cast_ofNat_Int,Nat.reduceAdd,Nat.reduceLT,Nat.reduceLeDiff,Nat.reduceEqDiff,Nat.reduceBEq,Nat.reduceMul,Nat.reduceSub,Int.reduceToNat,Int.reduceEq,Int.reduceNe,Int.reduceLT,Int.reduceLE,Int.reduceBEq,Int.reduceAdd,Int.reduceSub,Int.reduceMul,hP,hW]
    refine hret _ _ S.length 5 ?_
    simp only [r_law05_loaded, evRo, ev,evA,true_and,and_true,and_self,if_true,if_false,reduceIte,ne_eq,forall_const,false_implies,beq_self_eq_true,decide_true,decide_false,Int.cast_ofNat_Int,Nat.reduceAdd,Nat.reduceLT,Nat.reduceLeDiff,Nat.reduceEqDiff,Nat.reduceBEq,Nat.reduceMul,Nat.reduceSub,Int.reduceToNat,Int.reduceEq,Int.reduceNe,Int.reduceLT,Int.reduceLE,Int.reduceBEq,Int.reduceAdd,Int.reduceSub,Int.reduceMul,hP,hW]
    exact ⟨_, rfl, .inl rfl⟩
  | true =>
    have hs1 := of_decide_eq_true hs
    try simp only [evRo, hm, hs, ev,evA,true_and,and_true,and_self,if_true,if_false,reduceIte,ne_eq,forall_const,false_implies,beq_self_eq_true,decide_true,decide_false,Int.cast_ofNat_Int,Nat.reduceAdd,Nat.reduceLT,Nat.reduceLeDiff,Nat.reduceEqDiff,Nat.reduceBEq,Nat.reduceMul,Nat.reduceSub,Int.reduceToNat,Int.reduceEq,Int.reduceNe,Int.reduceLT,Int.reduceLE,Int.reduceBEq,Int.reduceAdd,Int.reduceSub,Int.reduceMul,hP,hW]
    have hb1 : Big t.size := by unfold Big; omega
    by_cases hR : ∃ ls, Ls ls ∧ t = cat ls ∧ RS ls.length 0 0 l ∧ QS ls.length q
    · have ⟨ls, h, ht, hrs, hqs⟩ := hR
      refine callE (.raw (.bool true)) (fun S2 => (t_ref5Right hm W0 S2 id lb t f1 f2 l q hb1 (by omega) (by omega)).mono (fun d ⟨b, hd, hb⟩ => by rw [hd, hb.2 hR])) (by try simp only [ev,evA,true_and,and_true,and_self,if_true,if_false,reduceIte,ne_eq,forall_const,false_implies,beq_self_eq_true,decide_true,decide_false,Int.cast_ofNat_Int,Nat.reduceAdd,Nat.reduceLT,Nat.reduceLeDiff,Nat.reduceEqDiff,Nat.reduceBEq,Nat.reduceMul,Nat.reduceSub,Int.reduceToNat,Int.reduceEq,Int.reduceNe,Int.reduceLT,Int.reduceLE,Int.reduceBEq,Int.reduceAdd,Int.reduceSub,Int.reduceMul,hP,hW]) ?_
      try simp only [evRo, hm, ev,evA,true_and,and_true,and_self,if_true,if_false,reduceIte,ne_eq,forall_const,false_implies,beq_self_eq_true,decide_true,decide_false,Int.cast_ofNat_Int,Nat.reduceAdd,Nat.reduceLT,Nat.reduceLeDiff,Nat.reduceEqDiff,Nat.reduceBEq,Nat.reduceMul,Nat.reduceSub,Int.reduceToNat,Int.reduceEq,Int.reduceNe,Int.reduceLT,Int.reduceLE,Int.reduceBEq,Int.reduceAdd,Int.reduceSub,Int.reduceMul,hP,hW]
      by_cases hu : u.size ≤ 1500
      · try simp only [evRo, hm, decide_eq_false (show ¬ (1500 : Int) < (u.size : Int) by omega), ev,evA,true_and,and_true,and_self,if_true,if_false,reduceIte,ne_eq,forall_const,false_implies,beq_self_eq_true,decide_true,decide_false,Int.cast_ofNat_Int,Nat.reduceAdd,Nat.reduceLT,Nat.reduceLeDiff,Nat.reduceEqDiff,Nat.reduceBEq,Nat.reduceMul,Nat.reduceSub,Int.reduceToNat,Int.reduceEq,Int.reduceNe,Int.reduceLT,Int.reduceLE,Int.reduceBEq,Int.reduceAdd,Int.reduceSub,Int.reduceMul,hP,hW]
        refine callE _ (fun S2 => t_refRight hm W0 S2 u (by unfold Big; omega)) (by try simp only [ev,evA,true_and,and_true,and_self,if_true,if_false,reduceIte,ne_eq,forall_const,false_implies,beq_self_eq_true,decide_true,decide_false,Int.cast_ofNat_Int,Nat.reduceAdd,Nat.reduceLT,Nat.reduceLeDiff,Nat.reduceEqDiff,Nat.reduceBEq,Nat.reduceMul,Nat.reduceSub,Int.reduceToNat,Int.reduceEq,Int.reduceNe,Int.reduceLT,Int.reduceLE,Int.reduceBEq,Int.reduceAdd,Int.reduceSub,Int.reduceMul,hP,hW]) ?_
        cases hv : vld u 0 with
        | true =>
          try simp only [evRo, hm, hv, ev,evA,true_and,and_true,and_self,if_true,if_false,reduceIte,ne_eq,forall_const,false_implies,beq_self_eq_true,decide_true,decide_false,Int.cast_ofNat_Int,Nat.reduceAdd,Nat.reduceLT,Nat.reduceLeDiff,Nat.reduceEqDiff,Nat.reduceBEq,Nat.reduceMul,Nat.reduceSub,Int.reduceToNat,Int.reduceEq,Int.reduceNe,Int.reduceLT,Int.reduceLE,Int.reduceBEq,Int.reduceAdd,Int.reduceSub,Int.reduceMul,hP,hW]
          refine callQ _ (fun S2 => by have := t_Load W0 L S2 id lb f1 f2 l q h (by unfold bytes; rw [← ht]; exact hb1) (by omega) (by omega) hrs hqs; rwa [← ht] at this) (by obtain ⟨r, h1, h2⟩ := ropeW h; exact ⟨_, r, rfl, h1, h2⟩) (by try simp only [ev,evA,true_and,and_true,and_self,if_true,if_false,reduceIte,ne_eq,forall_const,false_implies,beq_self_eq_true,decide_true,decide_false,Int.cast_ofNat_Int,Nat.reduceAdd,Nat.reduceLT,Nat.reduceLeDiff,Nat.reduceEqDiff,Nat.reduceBEq,Nat.reduceMul,Nat.reduceSub,Int.reduceToNat,Int.reduceEq,Int.reduceNe,Int.reduceLT,Int.reduceLE,Int.reduceBEq,Int.reduceAdd,Int.reduceSub,Int.reduceMul,hP,hW]) ?_
          rintro d ⟨x, rfl, hx, hxl⟩
          try simp only [evRo, hm, ev,evA,true_and,and_true,and_self,if_true,if_false,reduceIte,ne_eq,forall_const,false_implies,beq_self_eq_true,decide_true,decide_false,Int.cast_ofNat_Int,Nat.reduceAdd,Nat.reduceLT,Nat.reduceLeDiff,Nat.reduceEqDiff,Nat.reduceBEq,Nat.reduceMul,Nat.reduceSub,Int.reduceToNat,Int.reduceEq,Int.reduceNe,Int.reduceLT,Int.reduceLE,Int.reduceBEq,Int.reduceAdd,Int.reduceSub,Int.reduceMul,hP,hW]
          refine hret _ _ S.length 5 ?_
          simp only [r_law05_loaded, evRo, ev,evA,true_and,and_true,and_self,if_true,if_false,reduceIte,ne_eq,forall_const,false_implies,beq_self_eq_true,decide_true,decide_false,Int.cast_ofNat_Int,Nat.reduceAdd,Nat.reduceLT,Nat.reduceLeDiff,Nat.reduceEqDiff,Nat.reduceBEq,Nat.reduceMul,Nat.reduceSub,Int.reduceToNat,Int.reduceEq,Int.reduceNe,Int.reduceLT,Int.reduceLE,Int.reduceBEq,Int.reduceAdd,Int.reduceSub,Int.reduceMul,hP,hW]
          exact ⟨_, rfl, .inr ⟨ls, x, h, ht, hs1.1, hs1.2.1, hs1.2.2, hrs, hqs, hx, hxl, rfl⟩⟩
        | false =>
          try simp only [evRo, hm, hv, ev,evA,true_and,and_true,and_self,if_true,if_false,reduceIte,ne_eq,forall_const,false_implies,beq_self_eq_true,decide_true,decide_false,Int.cast_ofNat_Int,Nat.reduceAdd,Nat.reduceLT,Nat.reduceLeDiff,Nat.reduceEqDiff,Nat.reduceBEq,Nat.reduceMul,Nat.reduceSub,Int.reduceToNat,Int.reduceEq,Int.reduceNe,Int.reduceLT,Int.reduceLE,Int.reduceBEq,Int.reduceAdd,Int.reduceSub,Int.reduceMul,hP,hW]
          refine hret _ _ S.length 5 ?_
          simp only [r_law05_loaded, evRo, ev,evA,true_and,and_true,and_self,if_true,if_false,reduceIte,ne_eq,forall_const,false_implies,beq_self_eq_true,decide_true,decide_false,Int.cast_ofNat_Int,Nat.reduceAdd,Nat.reduceLT,Nat.reduceLeDiff,Nat.reduceEqDiff,Nat.reduceBEq,Nat.reduceMul,Nat.reduceSub,Int.reduceToNat,Int.reduceEq,Int.reduceNe,Int.reduceLT,Int.reduceLE,Int.reduceBEq,Int.reduceAdd,Int.reduceSub,Int.reduceMul,hP,hW]
          exact ⟨_, rfl, .inl rfl⟩
      · try simp only [evRo, hm, decide_eq_true (show (1500 : Int) < (u.size : Int) by omega), ev,evA,true_and,and_true,and_self,if_true,if_false,reduceIte,ne_eq,forall_const,false_implies,beq_self_eq_true,decide_true,decide_false,Int.cast_ofNat_Int,Nat.reduceAdd,Nat.reduceLT,Nat.reduceLeDiff,Nat.reduceEqDiff,Nat.reduceBEq,Nat.reduceMul,Nat.reduceSub,Int.reduceToNat,Int.reduceEq,Int.reduceNe,Int.reduceLT,Int.reduceLE,Int.reduceBEq,Int.reduceAdd,Int.reduceSub,Int.reduceMul,hP,hW]
        refine hret _ _ S.length 5 ?_
        simp only [r_law05_loaded, evRo, ev,evA,true_and,and_true,and_self,if_true,if_false,reduceIte,ne_eq,forall_const,false_implies,beq_self_eq_true,decide_true,decide_false,Int.cast_ofNat_Int,Nat.reduceAdd,Nat.reduceLT,Nat.reduceLeDiff,Nat.reduceEqDiff,Nat.reduceBEq,Nat.reduceMul,Nat.reduceSub,Int.reduceToNat,Int.reduceEq,Int.reduceNe,Int.reduceLT,Int.reduceLE,Int.reduceBEq,Int.reduceAdd,Int.reduceSub,Int.reduceMul,hP,hW]
        exact ⟨_, rfl, .inl rfl⟩
    · refine callE (.raw (.bool false)) (fun S2 => (t_ref5Right hm W0 S2 id lb t f1 f2 l q hb1 (by omega) (by omega)).mono (fun d ⟨b, hd, hb⟩ => by cases b with | true => exact absurd (hb.1 rfl) hR | false => exact hd)) (by try simp only [ev,evA,true_and,and_true,and_self,if_true,if_false,reduceIte,ne_eq,forall_const,false_implies,beq_self_eq_true,decide_true,decide_false,Int.cast_ofNat_Int,Nat.reduceAdd,Nat.reduceLT,Nat.reduceLeDiff,Nat.reduceEqDiff,Nat.reduceBEq,Nat.reduceMul,Nat.reduceSub,Int.reduceToNat,Int.reduceEq,Int.reduceNe,Int.reduceLT,Int.reduceLE,Int.reduceBEq,Int.reduceAdd,Int.reduceSub,Int.reduceMul,hP,hW]) ?_
      try simp only [evRo, hm, ev,evA,true_and,and_true,and_self,if_true,if_false,reduceIte,ne_eq,forall_const,false_implies,beq_self_eq_true,decide_true,decide_false,Int.cast_ofNat_Int,Nat.reduceAdd,Nat.reduceLT,Nat.reduceLeDiff,Nat.reduceEqDiff,Nat.reduceBEq,Nat.reduceMul,Nat.reduceSub,Int.reduceToNat,Int.reduceEq,Int.reduceNe,Int.reduceLT,Int.reduceLE,Int.reduceBEq,Int.reduceAdd,Int.reduceSub,Int.reduceMul,hP,hW]
      refine hret _ _ S.length 5 ?_
      simp only [r_law05_loaded, evRo, ev,evA,true_and,and_true,and_self,if_true,if_false,reduceIte,ne_eq,forall_const,false_implies,beq_self_eq_true,decide_true,decide_false,Int.cast_ofNat_Int,Nat.reduceAdd,Nat.reduceLT,Nat.reduceLeDiff,Nat.reduceEqDiff,Nat.reduceBEq,Nat.reduceMul,Nat.reduceSub,Int.reduceToNat,Int.reduceEq,Int.reduceNe,Int.reduceLT,Int.reduceLE,Int.reduceBEq,Int.reduceAdd,Int.reduceSub,Int.reduceMul,hP,hW]
      exact ⟨_, rfl, .inl rfl⟩
end Go.Dv
/-
  The law: three parts, a piece, a twin.
-/
namespace Go.Dv
open Go Go.RowKit Go.Proofs
set_option linter.unusedSimpArgs false
set_option linter.unusedVariables false
set_option maxRecDepth 8000

def abc : List ByteArray := ["a".toUTF8, "b".toUTF8, "c".toUTF8]
theorem abc_cat : "abc".toUTF8 = cat abc := by decide
theorem abc_ls : Ls abc := by
  intro l hl
  simp only [abc, List.mem_cons, List.not_mem_nil, or_false] at hl
  rcases hl with rfl | rfl | rfl <;> exact ⟨by decide, by decide, by decide⟩
theorem partW (id lb : Int) {x : Option Rp} (hx : OkO x) (l : List Sp) (q : List Si) (a b i2 i3 lb2 : Int) : ∃ d, PartQ id lb x l q a b i2 i3 lb2 d := by
  obtain ⟨r1, h1, e1⟩ := ropeW (hx.Ls.take a.toNat)
  obtain ⟨r2, h2, e2⟩ := ropeW ((hx.Ls.take b.toNat).drop a.toNat)
  obtain ⟨r3, h3, e3⟩ := ropeW (hx.Ls.drop b.toNat)
  exact ⟨_, r1, r2, r3, rfl, h1, h2, h3, e1, e2, e3⟩
theorem big_take {x : Option Rp} (hbig : Big (bytes (lsO x))) (n : Nat) : Big (bytes ((lsO x).take n)) := by
  have := bytes_take (lsO x) n; unfold Big at *; omega
theorem big_drop {ls : List ByteArray} (hbig : Big (bytes ls)) (n : Nat) : Big (bytes (ls.drop n)) := by
  have := bytes_drop ls n; unfold Big at *; omega
/-- has, of a plain segment without marks. -/
theorem t_has0 (hm : Tryd.prog.follows .mixedOrders = true) (W0 : World) (L : LibOk W0) (S : List SO) (id lb : Int) (x : Option Rp) (hx : OkO x) (hbig : Big (bytes (lsO x))) :
    CtP Tryd.prog W0 n_law05_has [.agg [.raw (.int .i64 id), .raw (.int .i64 lb), encO x, .lst 3 false [], .lst 2 false []], .agg [.raw (.int .i64 id), .raw (.int .i64 lb), .raw (.string (cat (lsO x))), .raw (.slice none 0 0), .raw (.slice none 0 0)]] S (fun d => d = .raw (.bool true)) :=
  CtP.argsN 1 (by simp only [rlL]; exact ⟨leN_refl _ _, leSeg _ _ _, trivial⟩) (t_has hm W0 L S id lb x false false false false [] [] hx hbig (by simp) (by simp))
theorem t_SegmentParts (hm : Tryd.prog.follows .mixedOrders = true) (W0 : World) (S : List SO) (id lb : Int) (t : ByteArray) (f1 f2 : Bool) (l : List Sp) (q : List Si) (L : LibOk W0) (d1 d2 d3 d4 i1 i2 i3 : Int) (u : ByteArray) : CtP Tryd.prog W0 n_law05_SegmentParts [.agg [.raw (.int .i64 id), .raw (.int .i64 lb), .raw (.string t), .lst 3 f1 (encSp l), .lst 2 f2 (encSi q)], .agg [.raw (.int .i64 d1), .raw (.int .i64 d2), .raw (.int .i64 d3), .raw (.int .i64 d4), .raw (.string u)], .agg [.raw (.int .i64 i1), .raw (.int .i64 i2), .raw (.int .i64 i3)]] S
    (fun d => d = .raw (.bool true)) := by
  refine Ct_R k_law05_SegmentParts 400 (.mk [.mk (.agg [.raw (.int .i64 id), .raw (.int .i64 lb), .raw (.string t), .lst 3 f1 (encSp l), .lst 2 f2 (encSi q)]) (.agg [.raw (.int .i64 d1), .raw (.int .i64 d2), .raw (.int .i64 d3), .raw (.int .i64 d4), .raw (.string u)]) (.agg [.raw (.int .i64 i1), .raw (.int .i64 i2), .raw (.int .i64 i3)]) .junk .junk .junk .junk .junk, .mk .junk .junk .junk .junk .junk .junk .junk .junk, .mk .junk .junk .junk .junk .junk .junk .junk .junk, .mk .junk .junk .junk .junk .junk .junk .junk .junk, .mk .junk .junk .junk .junk .junk .junk .junk .junk, .mk .junk .junk .junk .junk .junk .junk .junk .junk, .mk .junk .junk .junk .junk .junk .junk .junk .junk, .mk .junk .junk .junk .junk .junk .junk .junk .junk, .mk .junk .junk .junk .junk .junk .junk .junk .junk, .mk .junk .junk .junk .junk .junk .junk .junk .junk, .mk .junk .junk .junk .junk .junk .junk .junk .junk, .mk .junk .junk .junk .junk .junk .junk .junk .junk, .mk .junk .junk .junk .junk .junk .junk .junk .junk, .mk .junk .junk .junk .junk .junk .junk .junk .junk, .mk .junk .junk .junk .junk .junk .junk .junk .junk, .mk .junk .junk .junk .junk .junk .junk .junk .junk] [.junk, .junk]) rfl rfl fun r hP hW hpan hret => ?_
  simp only [c_law05_SegmentParts, ev,evA,true_and,and_true,and_self,if_true,if_false,reduceIte,ne_eq,forall_const,false_implies,beq_self_eq_true,decide_true,decide_false,Int.cast_ofNat_Int,Nat.reduceAdd,Nat.reduceLT,Nat.reduceLeDiff,Nat.reduceEqDiff,Nat.reduceBEq,Nat.reduceMul,Nat.reduceSub,Int.reduceToNat,Int.reduceEq,Int.reduceNe,Int.reduceLT,Int.reduceLE,Int.reduceBEq,Int.reduceAdd,Int.reduceSub,Int.reduceMul,hP,hW]
  try simp only [evRo, hm, ev,evA,true_and,and_true,and_self,if_true,if_false,reduceIte,ne_eq,forall_const,false_implies,beq_self_eq_true,decide_true,decide_false,Int.cast_ofNat_Int,Nat.reduceAdd,Nat.reduceLT,Nat.reduceLeDiff,Nat.reduceEqDiff,Nat.reduceBEq,Nat.reduceMul,Nat.reduceSub,Int.reduceToNat,Int.reduceEq,Int.reduceNe,Int.reduceLT,Int.reduceLE,Int.reduceBEq,Int.reduceAdd,Int.reduceSub,Int.reduceMul,hP,hW]
  intro g g1
  refine callQ _ (fun S2 => by have := t_text W0 L S2 abc_ls (by decide); rwa [← abc_cat] at this) (by obtain ⟨r, h1, h2⟩ := ropeW abc_ls; exact ⟨_, r, rfl, h1, h2⟩) (by try simp only [ev,evA,true_and,and_true,and_self,if_true,if_false,reduceIte,ne_eq,forall_const,false_implies,beq_self_eq_true,decide_true,decide_false,Int.cast_ofNat_Int,Nat.reduceAdd,Nat.reduceLT,Nat.reduceLeDiff,Nat.reduceEqDiff,Nat.reduceBEq,Nat.reduceMul,Nat.reduceSub,Int.reduceToNat,Int.reduceEq,Int.reduceNe,Int.reduceLT,Int.reduceLE,Int.reduceBEq,Int.reduceAdd,Int.reduceSub,Int.reduceMul,hP,hW]) ?_
  rintro d ⟨y, rfl, hy, hyl⟩
  try simp only [evRo, hm, ev,evA,true_and,and_true,and_self,if_true,if_false,reduceIte,ne_eq,forall_const,false_implies,beq_self_eq_true,decide_true,decide_false,Int.cast_ofNat_Int,Nat.reduceAdd,Nat.reduceLT,Nat.reduceLeDiff,Nat.reduceEqDiff,Nat.reduceBEq,Nat.reduceMul,Nat.reduceSub,Int.reduceToNat,Int.reduceEq,Int.reduceNe,Int.reduceLT,Int.reduceLE,Int.reduceBEq,Int.reduceAdd,Int.reduceSub,Int.reduceMul,hP,hW]
  refine callQ _ (fun S2 => t_SegPart hm W0 S2 1 2 y false false [] [] 1 1 5 6 3 hy (by rw [hyl]; unfold Big; decide) (by decide) (by decide) trivial (QS_nil _)) ?_ (by try simp only [ev,evA,true_and,and_true,and_self,if_true,if_false,reduceIte,ne_eq,forall_const,false_implies,beq_self_eq_true,decide_true,decide_false,Int.cast_ofNat_Int,Nat.reduceAdd,Nat.reduceLT,Nat.reduceLeDiff,Nat.reduceEqDiff,Nat.reduceBEq,Nat.reduceMul,Nat.reduceSub,Int.reduceToNat,Int.reduceEq,Int.reduceNe,Int.reduceLT,Int.reduceLE,Int.reduceBEq,Int.reduceAdd,Int.reduceSub,Int.reduceMul,hP,hW]) ?_
  · exact partW _ _ hy _ _ _ _ _ _ _
  rintro d ⟨y1, y2, y3, rfl, hy1, hy2, hy3, l1, l2, l3⟩
  rw [hyl] at l1 l2 l3
  try simp only [evRo, hm, ev,evA,true_and,and_true,and_self,if_true,if_false,reduceIte,ne_eq,forall_const,false_implies,beq_self_eq_true,decide_true,decide_false,Int.cast_ofNat_Int,Nat.reduceAdd,Nat.reduceLT,Nat.reduceLeDiff,Nat.reduceEqDiff,Nat.reduceBEq,Nat.reduceMul,Nat.reduceSub,Int.reduceToNat,Int.reduceEq,Int.reduceNe,Int.reduceLT,Int.reduceLE,Int.reduceBEq,Int.reduceAdd,Int.reduceSub,Int.reduceMul,hP,hW]
  refine callE _ (fun S2 => t_Rope W0 S2 1 2 y1 false false (foldA ([].map (clipA (pa (lsO y).length 1)))) (sitesA (pa (lsO y).length 1) [])) (by try simp only [ev,evA,true_and,and_true,and_self,if_true,if_false,reduceIte,ne_eq,forall_const,false_implies,beq_self_eq_true,decide_true,decide_false,Int.cast_ofNat_Int,Nat.reduceAdd,Nat.reduceLT,Nat.reduceLeDiff,Nat.reduceEqDiff,Nat.reduceBEq,Nat.reduceMul,Nat.reduceSub,Int.reduceToNat,Int.reduceEq,Int.reduceNe,Int.reduceLT,Int.reduceLE,Int.reduceBEq,Int.reduceAdd,Int.reduceSub,Int.reduceMul,hP,hW]) ?_
  try simp only [evRo, hm, ev,evA,true_and,and_true,and_self,if_true,if_false,reduceIte,ne_eq,forall_const,false_implies,beq_self_eq_true,decide_true,decide_false,Int.cast_ofNat_Int,Nat.reduceAdd,Nat.reduceLT,Nat.reduceLeDiff,Nat.reduceEqDiff,Nat.reduceBEq,Nat.reduceMul,Nat.reduceSub,Int.reduceToNat,Int.reduceEq,Int.reduceNe,Int.reduceLT,Int.reduceLE,Int.reduceBEq,Int.reduceAdd,Int.reduceSub,Int.reduceMul,hP,hW]
  have p1 : (pa abc.length 1).toNat = 1 := by decide
  have c1 : cat (lsO y1) = "a".toUTF8 := by rw [l1, p1]; decide
  refine callE (.raw (.string "a".toUTF8)) (fun S2 => by have := t_Text W0 L S2 hy1 (by rw [l1, p1]; unfold Big; decide); rwa [c1] at this) (by try simp only [ev,evA,true_and,and_true,and_self,if_true,if_false,reduceIte,ne_eq,forall_const,false_implies,beq_self_eq_true,decide_true,decide_false,Int.cast_ofNat_Int,Nat.reduceAdd,Nat.reduceLT,Nat.reduceLeDiff,Nat.reduceEqDiff,Nat.reduceBEq,Nat.reduceMul,Nat.reduceSub,Int.reduceToNat,Int.reduceEq,Int.reduceNe,Int.reduceLT,Int.reduceLE,Int.reduceBEq,Int.reduceAdd,Int.reduceSub,Int.reduceMul,hP,hW]) ?_
  try simp only [evRo, hm, bne_self_eq_false, ev,evA,true_and,and_true,and_self,if_true,if_false,reduceIte,ne_eq,forall_const,false_implies,beq_self_eq_true,decide_true,decide_false,Int.cast_ofNat_Int,Nat.reduceAdd,Nat.reduceLT,Nat.reduceLeDiff,Nat.reduceEqDiff,Nat.reduceBEq,Nat.reduceMul,Nat.reduceSub,Int.reduceToNat,Int.reduceEq,Int.reduceNe,Int.reduceLT,Int.reduceLE,Int.reduceBEq,Int.reduceAdd,Int.reduceSub,Int.reduceMul,hP,hW]
  refine callE _ (fun S2 => t_Label W0 S2 5 3 y2 false false [] []) (by try simp only [encSp, encSi, ev,evA,true_and,and_true,and_self,if_true,if_false,reduceIte,ne_eq,forall_const,false_implies,beq_self_eq_true,decide_true,decide_false,Int.cast_ofNat_Int,Nat.reduceAdd,Nat.reduceLT,Nat.reduceLeDiff,Nat.reduceEqDiff,Nat.reduceBEq,Nat.reduceMul,Nat.reduceSub,Int.reduceToNat,Int.reduceEq,Int.reduceNe,Int.reduceLT,Int.reduceLE,Int.reduceBEq,Int.reduceAdd,Int.reduceSub,Int.reduceMul,hP,hW]) ?_
  try simp only [evRo, hm, bne_self_eq_false, ev,evA,true_and,and_true,and_self,if_true,if_false,reduceIte,ne_eq,forall_const,false_implies,beq_self_eq_true,decide_true,decide_false,Int.cast_ofNat_Int,Nat.reduceAdd,Nat.reduceLT,Nat.reduceLeDiff,Nat.reduceEqDiff,Nat.reduceBEq,Nat.reduceMul,Nat.reduceSub,Int.reduceToNat,Int.reduceEq,Int.reduceNe,Int.reduceLT,Int.reduceLE,Int.reduceBEq,Int.reduceAdd,Int.reduceSub,Int.reduceMul,hP,hW]
  refine callE _ (fun S2 => t_Id W0 S2 6 2 y3 false false _ _) (by try simp only [ev,evA,true_and,and_true,and_self,if_true,if_false,reduceIte,ne_eq,forall_const,false_implies,beq_self_eq_true,decide_true,decide_false,Int.cast_ofNat_Int,Nat.reduceAdd,Nat.reduceLT,Nat.reduceLeDiff,Nat.reduceEqDiff,Nat.reduceBEq,Nat.reduceMul,Nat.reduceSub,Int.reduceToNat,Int.reduceEq,Int.reduceNe,Int.reduceLT,Int.reduceLE,Int.reduceBEq,Int.reduceAdd,Int.reduceSub,Int.reduceMul,hP,hW]) ?_
  try simp only [evRo, hm, bne_self_eq_false, ev,evA,true_and,and_true,and_self,if_true,if_false,reduceIte,ne_eq,forall_const,false_implies,beq_self_eq_true,decide_true,decide_false,Int.cast_ofNat_Int,Nat.reduceAdd,Nat.reduceLT,Nat.reduceLeDiff,Nat.reduceEqDiff,Nat.reduceBEq,Nat.reduceMul,Nat.reduceSub,Int.reduceToNat,Int.reduceEq,Int.reduceNe,Int.reduceLT,Int.reduceLE,Int.reduceBEq,Int.reduceAdd,Int.reduceSub,Int.reduceMul,hP,hW]
  intro g2
  refine callQ _ (fun S2 => t_loaded hm W0 S2 id lb t f1 f2 l q L d1 d2 d3 d4 u) ⟨_, .inl rfl⟩ (by try simp only [ev,evA,true_and,and_true,and_self,if_true,if_false,reduceIte,ne_eq,forall_const,false_implies,beq_self_eq_true,decide_true,decide_false,Int.cast_ofNat_Int,Nat.reduceAdd,Nat.reduceLT,Nat.reduceLeDiff,Nat.reduceEqDiff,Nat.reduceBEq,Nat.reduceMul,Nat.reduceSub,Int.reduceToNat,Int.reduceEq,Int.reduceNe,Int.reduceLT,Int.reduceLE,Int.reduceBEq,Int.reduceAdd,Int.reduceSub,Int.reduceMul,hP,hW]) ?_
  rintro d (rfl | ⟨ls, x, h, rfl, b1, b2, b3, hrs, hqs, hx, rfl, rfl⟩)
  · try simp only [evRo, hm, ev,evA,true_and,and_true,and_self,if_true,if_false,reduceIte,ne_eq,forall_const,false_implies,beq_self_eq_true,decide_true,decide_false,Int.cast_ofNat_Int,Nat.reduceAdd,Nat.reduceLT,Nat.reduceLeDiff,Nat.reduceEqDiff,Nat.reduceBEq,Nat.reduceMul,Nat.reduceSub,Int.reduceToNat,Int.reduceEq,Int.reduceNe,Int.reduceLT,Int.reduceLE,Int.reduceBEq,Int.reduceAdd,Int.reduceSub,Int.reduceMul,hP,hW]
    refine hret _ _ S.length 5 ?_
    simp only [r_law05_SegmentParts, ev,evA,true_and,and_true,and_self,if_true,if_false,reduceIte,ne_eq,forall_const,false_implies,beq_self_eq_true,decide_true,decide_false,Int.cast_ofNat_Int,Nat.reduceAdd,Nat.reduceLT,Nat.reduceLeDiff,Nat.reduceEqDiff,Nat.reduceBEq,Nat.reduceMul,Nat.reduceSub,Int.reduceToNat,Int.reduceEq,Int.reduceNe,Int.reduceLT,Int.reduceLE,Int.reduceBEq,Int.reduceAdd,Int.reduceSub,Int.reduceMul,hP,hW]
    exact ⟨_, rfl, rfl⟩
  have hbig : Big (bytes (lsO x)) := by unfold Big bytes; omega
  try simp only [evRo, hm, ev,evA,true_and,and_true,and_self,if_true,if_false,reduceIte,ne_eq,forall_const,false_implies,beq_self_eq_true,decide_true,decide_false,Int.cast_ofNat_Int,Nat.reduceAdd,Nat.reduceLT,Nat.reduceLeDiff,Nat.reduceEqDiff,Nat.reduceBEq,Nat.reduceMul,Nat.reduceSub,Int.reduceToNat,Int.reduceEq,Int.reduceNe,Int.reduceLT,Int.reduceLE,Int.reduceBEq,Int.reduceAdd,Int.reduceSub,Int.reduceMul,hP,hW]
  intro g3
  refine callQ _ (fun S2 => t_SegPart hm W0 S2 id lb x false false l q d1 d2 i1 i2 i3 hx hbig (by omega) (by omega) hrs hqs) (partW _ _ hx _ _ _ _ _ _ _) (by try simp only [ev,evA,true_and,and_true,and_self,if_true,if_false,reduceIte,ne_eq,forall_const,false_implies,beq_self_eq_true,decide_true,decide_false,Int.cast_ofNat_Int,Nat.reduceAdd,Nat.reduceLT,Nat.reduceLeDiff,Nat.reduceEqDiff,Nat.reduceBEq,Nat.reduceMul,Nat.reduceSub,Int.reduceToNat,Int.reduceEq,Int.reduceNe,Int.reduceLT,Int.reduceLE,Int.reduceBEq,Int.reduceAdd,Int.reduceSub,Int.reduceMul,hP,hW]) ?_
  rintro d ⟨z1, z2, z3, rfl, hz1, hz2, hz3, k1, k2, k3⟩
  try simp only [evRo, hm, ev,evA,true_and,and_true,and_self,if_true,if_false,reduceIte,ne_eq,forall_const,false_implies,beq_self_eq_true,decide_true,decide_false,Int.cast_ofNat_Int,Nat.reduceAdd,Nat.reduceLT,Nat.reduceLeDiff,Nat.reduceEqDiff,Nat.reduceBEq,Nat.reduceMul,Nat.reduceSub,Int.reduceToNat,Int.reduceEq,Int.reduceNe,Int.reduceLT,Int.reduceLE,Int.reduceBEq,Int.reduceAdd,Int.reduceSub,Int.reduceMul,hP,hW]
  intro g4
  refine callE _ (fun S2 => t_ref5Part hm W0 S2 id lb (lsO x) f1 f2 l q h hbig (by omega) (by omega) hrs hqs d1 d2 i1 i2 i3 _ _ rfl rfl) (by try simp only [ev,evA,true_and,and_true,and_self,if_true,if_false,reduceIte,ne_eq,forall_const,false_implies,beq_self_eq_true,decide_true,decide_false,Int.cast_ofNat_Int,Nat.reduceAdd,Nat.reduceLT,Nat.reduceLeDiff,Nat.reduceEqDiff,Nat.reduceBEq,Nat.reduceMul,Nat.reduceSub,Int.reduceToNat,Int.reduceEq,Int.reduceNe,Int.reduceLT,Int.reduceLE,Int.reduceBEq,Int.reduceAdd,Int.reduceSub,Int.reduceMul,hP,hW]) ?_
  try simp only [evRo, hm, ev,evA,true_and,and_true,and_self,if_true,if_false,reduceIte,ne_eq,forall_const,false_implies,beq_self_eq_true,decide_true,decide_false,Int.cast_ofNat_Int,Nat.reduceAdd,Nat.reduceLT,Nat.reduceLeDiff,Nat.reduceEqDiff,Nat.reduceBEq,Nat.reduceMul,Nat.reduceSub,Int.reduceToNat,Int.reduceEq,Int.reduceNe,Int.reduceLT,Int.reduceLE,Int.reduceBEq,Int.reduceAdd,Int.reduceSub,Int.reduceMul,hP,hW]
  intro g5
  have big1 : Big (bytes (lsO z1)) := by rw [k1]; exact big_take hbig _
  have big2 : Big (bytes (lsO z2)) := by rw [k2]; exact big_drop (big_take hbig _) _
  have big3 : Big (bytes (lsO z3)) := by rw [k3]; exact big_drop hbig _
  have n1 := fun (f : Sp → Sp) (l : List Sp) => foldB_len f l
  have n2 := sitesA_len
  have n3 := sitesB_len
  refine callE (.raw (.bool true)) (fun S2 => by have := t_has hm W0 L S2 id lb z1 false false false false (foldA (l.map (clipA (pa (lsO x).length d1)))) (sitesA (pa (lsO x).length d1) q) hz1 big1 (by have := n1 (clipA (pa (lsO x).length d1)) l; omega) (by have := n2 (pa (lsO x).length d1) q; omega); rwa [k1] at this) (by try simp only [ev,evA,true_and,and_true,and_self,if_true,if_false,reduceIte,ne_eq,forall_const,false_implies,beq_self_eq_true,decide_true,decide_false,Int.cast_ofNat_Int,Nat.reduceAdd,Nat.reduceLT,Nat.reduceLeDiff,Nat.reduceEqDiff,Nat.reduceBEq,Nat.reduceMul,Nat.reduceSub,Int.reduceToNat,Int.reduceEq,Int.reduceNe,Int.reduceLT,Int.reduceLE,Int.reduceBEq,Int.reduceAdd,Int.reduceSub,Int.reduceMul,hP,hW]) ?_
  try simp only [evRo, hm, ev,evA,true_and,and_true,and_self,if_true,if_false,reduceIte,ne_eq,forall_const,false_implies,beq_self_eq_true,decide_true,decide_false,Int.cast_ofNat_Int,Nat.reduceAdd,Nat.reduceLT,Nat.reduceLeDiff,Nat.reduceEqDiff,Nat.reduceBEq,Nat.reduceMul,Nat.reduceSub,Int.reduceToNat,Int.reduceEq,Int.reduceNe,Int.reduceLT,Int.reduceLE,Int.reduceBEq,Int.reduceAdd,Int.reduceSub,Int.reduceMul,hP,hW]
  refine callE (.raw (.bool true)) (fun S2 => by have := t_has hm W0 L S2 i1 i3 z2 false false false false [] [] hz2 big2 (by simp) (by simp); rwa [k2] at this) (by try simp only [ev,evA,true_and,and_true,and_self,if_true,if_false,reduceIte,ne_eq,forall_const,false_implies,beq_self_eq_true,decide_true,decide_false,Int.cast_ofNat_Int,Nat.reduceAdd,Nat.reduceLT,Nat.reduceLeDiff,Nat.reduceEqDiff,Nat.reduceBEq,Nat.reduceMul,Nat.reduceSub,Int.reduceToNat,Int.reduceEq,Int.reduceNe,Int.reduceLT,Int.reduceLE,Int.reduceBEq,Int.reduceAdd,Int.reduceSub,Int.reduceMul,hP,hW]) ?_
  try simp only [evRo, hm, ev,evA,true_and,and_true,and_self,if_true,if_false,reduceIte,ne_eq,forall_const,false_implies,beq_self_eq_true,decide_true,decide_false,Int.cast_ofNat_Int,Nat.reduceAdd,Nat.reduceLT,Nat.reduceLeDiff,Nat.reduceEqDiff,Nat.reduceBEq,Nat.reduceMul,Nat.reduceSub,Int.reduceToNat,Int.reduceEq,Int.reduceNe,Int.reduceLT,Int.reduceLE,Int.reduceBEq,Int.reduceAdd,Int.reduceSub,Int.reduceMul,hP,hW]
  refine callE (.raw (.bool true)) (fun S2 => by have := t_has hm W0 L S2 i2 lb z3 false false false false (foldA ((foldA (l.map (clipB (pa (lsO x).length d1)))).map (clipB (pb (lsO x).length d1 d2 - pa (lsO x).length d1)))) (sitesB (pb (lsO x).length d1 d2 - pa (lsO x).length d1) (sitesB (pa (lsO x).length d1) q)) hz3 big3 (by have := n1 (clipB (pa (lsO x).length d1)) l; have := n1 (clipB (pb (lsO x).length d1 d2 - pa (lsO x).length d1)) (foldA (l.map (clipB (pa (lsO x).length d1)))); omega) (by have := n3 (pa (lsO x).length d1) q; have := n3 (pb (lsO x).length d1 d2 - pa (lsO x).length d1) (sitesB (pa (lsO x).length d1) q); omega); rwa [k3] at this) (by try simp only [ev,evA,true_and,and_true,and_self,if_true,if_false,reduceIte,ne_eq,forall_const,false_implies,beq_self_eq_true,decide_true,decide_false,Int.cast_ofNat_Int,Nat.reduceAdd,Nat.reduceLT,Nat.reduceLeDiff,Nat.reduceEqDiff,Nat.reduceBEq,Nat.reduceMul,Nat.reduceSub,Int.reduceToNat,Int.reduceEq,Int.reduceNe,Int.reduceLT,Int.reduceLE,Int.reduceBEq,Int.reduceAdd,Int.reduceSub,Int.reduceMul,hP,hW]) ?_
  try simp only [evRo, hm, ev,evA,true_and,and_true,and_self,if_true,if_false,reduceIte,ne_eq,forall_const,false_implies,beq_self_eq_true,decide_true,decide_false,Int.cast_ofNat_Int,Nat.reduceAdd,Nat.reduceLT,Nat.reduceLeDiff,Nat.reduceEqDiff,Nat.reduceBEq,Nat.reduceMul,Nat.reduceSub,Int.reduceToNat,Int.reduceEq,Int.reduceNe,Int.reduceLT,Int.reduceLE,Int.reduceBEq,Int.reduceAdd,Int.reduceSub,Int.reduceMul,hP,hW]
  refine callQ _ (fun S2 => t_Piece hm W0 S2 id lb x false false l q d1 d2 i1 hx hbig) (by obtain ⟨r, h1, h2⟩ := ropeW ((hx.Ls.take (pb (lsO x).length d1 d2).toNat).drop (pa (lsO x).length d1).toNat); exact ⟨_, r, rfl, h1, h2⟩) (by try simp only [ev,evA,true_and,and_true,and_self,if_true,if_false,reduceIte,ne_eq,forall_const,false_implies,beq_self_eq_true,decide_true,decide_false,Int.cast_ofNat_Int,Nat.reduceAdd,Nat.reduceLT,Nat.reduceLeDiff,Nat.reduceEqDiff,Nat.reduceBEq,Nat.reduceMul,Nat.reduceSub,Int.reduceToNat,Int.reduceEq,Int.reduceNe,Int.reduceLT,Int.reduceLE,Int.reduceBEq,Int.reduceAdd,Int.reduceSub,Int.reduceMul,hP,hW]) ?_
  rintro d ⟨w, rfl, hw, hwl⟩
  have bigw : Big (bytes (lsO w)) := by rw [hwl]; exact big_drop (big_take hbig _) _
  try simp only [evRo, hm, ev,evA,true_and,and_true,and_self,if_true,if_false,reduceIte,ne_eq,forall_const,false_implies,beq_self_eq_true,decide_true,decide_false,Int.cast_ofNat_Int,Nat.reduceAdd,Nat.reduceLT,Nat.reduceLeDiff,Nat.reduceEqDiff,Nat.reduceBEq,Nat.reduceMul,Nat.reduceSub,Int.reduceToNat,Int.reduceEq,Int.reduceNe,Int.reduceLT,Int.reduceLE,Int.reduceBEq,Int.reduceAdd,Int.reduceSub,Int.reduceMul,hP,hW]
  refine callE _ (fun S2 => t_ref5Piece hm W0 S2 id lb (lsO x) f1 f2 l q h hbig d1 d2 i1) (by try simp only [ev,evA,true_and,and_true,and_self,if_true,if_false,reduceIte,ne_eq,forall_const,false_implies,beq_self_eq_true,decide_true,decide_false,Int.cast_ofNat_Int,Nat.reduceAdd,Nat.reduceLT,Nat.reduceLeDiff,Nat.reduceEqDiff,Nat.reduceBEq,Nat.reduceMul,Nat.reduceSub,Int.reduceToNat,Int.reduceEq,Int.reduceNe,Int.reduceLT,Int.reduceLE,Int.reduceBEq,Int.reduceAdd,Int.reduceSub,Int.reduceMul,hP,hW]) ?_
  try simp only [evRo, hm, ev,evA,true_and,and_true,and_self,if_true,if_false,reduceIte,ne_eq,forall_const,false_implies,beq_self_eq_true,decide_true,decide_false,Int.cast_ofNat_Int,Nat.reduceAdd,Nat.reduceLT,Nat.reduceLeDiff,Nat.reduceEqDiff,Nat.reduceBEq,Nat.reduceMul,Nat.reduceSub,Int.reduceToNat,Int.reduceEq,Int.reduceNe,Int.reduceLT,Int.reduceLE,Int.reduceBEq,Int.reduceAdd,Int.reduceSub,Int.reduceMul,hP,hW]
  refine callE (.raw (.bool true)) (fun S2 => by have := t_has hm W0 L S2 i1 lb w false false false false [] [] hw bigw (by simp) (by simp); rwa [hwl] at this) (by try simp only [ev,evA,true_and,and_true,and_self,if_true,if_false,reduceIte,ne_eq,forall_const,false_implies,beq_self_eq_true,decide_true,decide_false,Int.cast_ofNat_Int,Nat.reduceAdd,Nat.reduceLT,Nat.reduceLeDiff,Nat.reduceEqDiff,Nat.reduceBEq,Nat.reduceMul,Nat.reduceSub,Int.reduceToNat,Int.reduceEq,Int.reduceNe,Int.reduceLT,Int.reduceLE,Int.reduceBEq,Int.reduceAdd,Int.reduceSub,Int.reduceMul,hP,hW]) ?_
  try simp only [evRo, hm, ev,evA,true_and,and_true,and_self,if_true,if_false,reduceIte,ne_eq,forall_const,false_implies,beq_self_eq_true,decide_true,decide_false,Int.cast_ofNat_Int,Nat.reduceAdd,Nat.reduceLT,Nat.reduceLeDiff,Nat.reduceEqDiff,Nat.reduceBEq,Nat.reduceMul,Nat.reduceSub,Int.reduceToNat,Int.reduceEq,Int.reduceNe,Int.reduceLT,Int.reduceLE,Int.reduceBEq,Int.reduceAdd,Int.reduceSub,Int.reduceMul,hP,hW]
  refine callE _ (fun S2 => t_Twin W0 S2 id lb x false false l q i1) (by try simp only [ev,evA,true_and,and_true,and_self,if_true,if_false,reduceIte,ne_eq,forall_const,false_implies,beq_self_eq_true,decide_true,decide_false,Int.cast_ofNat_Int,Nat.reduceAdd,Nat.reduceLT,Nat.reduceLeDiff,Nat.reduceEqDiff,Nat.reduceBEq,Nat.reduceMul,Nat.reduceSub,Int.reduceToNat,Int.reduceEq,Int.reduceNe,Int.reduceLT,Int.reduceLE,Int.reduceBEq,Int.reduceAdd,Int.reduceSub,Int.reduceMul,hP,hW]) ?_
  try simp only [evRo, hm, ev,evA,true_and,and_true,and_self,if_true,if_false,reduceIte,ne_eq,forall_const,false_implies,beq_self_eq_true,decide_true,decide_false,Int.cast_ofNat_Int,Nat.reduceAdd,Nat.reduceLT,Nat.reduceLeDiff,Nat.reduceEqDiff,Nat.reduceBEq,Nat.reduceMul,Nat.reduceSub,Int.reduceToNat,Int.reduceEq,Int.reduceNe,Int.reduceLT,Int.reduceLE,Int.reduceBEq,Int.reduceAdd,Int.reduceSub,Int.reduceMul,hP,hW]
  refine callE _ (fun S2 => t_has0 hm W0 L S2 i1 lb x hx hbig) (by try simp only [ev,evA,true_and,and_true,and_self,if_true,if_false,reduceIte,ne_eq,forall_const,false_implies,beq_self_eq_true,decide_true,decide_false,Int.cast_ofNat_Int,Nat.reduceAdd,Nat.reduceLT,Nat.reduceLeDiff,Nat.reduceEqDiff,Nat.reduceBEq,Nat.reduceMul,Nat.reduceSub,Int.reduceToNat,Int.reduceEq,Int.reduceNe,Int.reduceLT,Int.reduceLE,Int.reduceBEq,Int.reduceAdd,Int.reduceSub,Int.reduceMul,hP,hW]) ?_
  try simp only [evRo, hm, ev,evA,true_and,and_true,and_self,if_true,if_false,reduceIte,ne_eq,forall_const,false_implies,beq_self_eq_true,decide_true,decide_false,Int.cast_ofNat_Int,Nat.reduceAdd,Nat.reduceLT,Nat.reduceLeDiff,Nat.reduceEqDiff,Nat.reduceBEq,Nat.reduceMul,Nat.reduceSub,Int.reduceToNat,Int.reduceEq,Int.reduceNe,Int.reduceLT,Int.reduceLE,Int.reduceBEq,Int.reduceAdd,Int.reduceSub,Int.reduceMul,hP,hW]
  refine callE _ (fun S2 => t_has hm W0 L S2 id lb x false false f1 f2 l q hx hbig (by omega) (by omega)) (by try simp only [ev,evA,true_and,and_true,and_self,if_true,if_false,reduceIte,ne_eq,forall_const,false_implies,beq_self_eq_true,decide_true,decide_false,Int.cast_ofNat_Int,Nat.reduceAdd,Nat.reduceLT,Nat.reduceLeDiff,Nat.reduceEqDiff,Nat.reduceBEq,Nat.reduceMul,Nat.reduceSub,Int.reduceToNat,Int.reduceEq,Int.reduceNe,Int.reduceLT,Int.reduceLE,Int.reduceBEq,Int.reduceAdd,Int.reduceSub,Int.reduceMul,hP,hW]) ?_
  try simp only [evRo, hm, ev,evA,true_and,and_true,and_self,if_true,if_false,reduceIte,ne_eq,forall_const,false_implies,beq_self_eq_true,decide_true,decide_false,Int.cast_ofNat_Int,Nat.reduceAdd,Nat.reduceLT,Nat.reduceLeDiff,Nat.reduceEqDiff,Nat.reduceBEq,Nat.reduceMul,Nat.reduceSub,Int.reduceToNat,Int.reduceEq,Int.reduceNe,Int.reduceLT,Int.reduceLE,Int.reduceBEq,Int.reduceAdd,Int.reduceSub,Int.reduceMul,hP,hW]
  refine hret _ _ S.length 5 ?_
  simp only [r_law05_SegmentParts, ev,evA,true_and,and_true,and_self,if_true,if_false,reduceIte,ne_eq,forall_const,false_implies,beq_self_eq_true,decide_true,decide_false,Int.cast_ofNat_Int,Nat.reduceAdd,Nat.reduceLT,Nat.reduceLeDiff,Nat.reduceEqDiff,Nat.reduceBEq,Nat.reduceMul,Nat.reduceSub,Int.reduceToNat,Int.reduceEq,Int.reduceNe,Int.reduceLT,Int.reduceLE,Int.reduceBEq,Int.reduceAdd,Int.reduceSub,Int.reduceMul,hP,hW]
  exact ⟨_, rfl, rfl⟩
end Go.Dv
/-
  DERIVED: THE SHELF's CONTRACTS AT THIS DUMP, IN PLAIN WORDS (tools/lay-plain.mjs out of 'YtfnjchgidpljbaaDoorLxs.lean', which tools/lay-shelf.mjs wrote): THE SAME DECLARATIONS UNDER THE SAME NAMES: 'import', 'namespace', 'open', 'def', 'theorem' AND NOTHING ELSE: no command of the shelf's: FOR A HAND-IN. Each laying: the table of numbers ('.._ren') and one theorem, a field a fact of the dump's own or the kernel's comparison; each contract: ONE APPLICATION.
-/
namespace Go.Proofs
open Go.Shelf
def Tryd.lays156_ren : Go.Shelf.Ren := ⟨fun | 156 => 27 | 165 => 52 | 166 => 53 | 169 => 54 | 240 => 78 | 241 => 79 | 276 => 94 | 277 => 95 | n => n, fun | 31 => 63 | 9 => 9 | 3 => 3 | 4 => 4 | 0 => 0 | 20 => 20 | 72 => 98 | 76 => 102 | 70 => 95 | 37 => 96 | 75 => 101 | 127 => 126 | 164 => 138 | 5 => 5 | 80 => 38 | n => n, fun | n => n⟩
theorem Tryd.lays156 : Go.Proofs.Lays.n156 Tryd.prog Tryd.lays156_ren := {
  mixed := by kernel_rfl
  f156 := Tryd.func27.trans (congrArg some (by kernel_rfl))
  f165 := Tryd.func52.trans (congrArg some (by kernel_rfl))
  f166 := Tryd.func53.trans (congrArg some (by kernel_rfl))
  f169 := Tryd.func54.trans (congrArg some (by kernel_rfl))
  f240 := Tryd.func78.trans (congrArg some (by kernel_rfl))
  f241 := Tryd.func79.trans (congrArg some (by kernel_rfl))
  f276 := Tryd.func94.trans (congrArg some (by kernel_rfl))
  f277 := Tryd.func95.trans (congrArg some (by kernel_rfl))
  t0 := Tryd.underlying0
  a0 := Tryd.isAgg0
  z0 := Tryd.sizeOf0
  v0 := Tryd.zeroValue0
  t3 := Tryd.underlying3
  a3 := Tryd.isAgg3
  z3 := Tryd.sizeOf3
  v3 := Tryd.zeroValue3
  t4 := Tryd.underlying4
  a4 := Tryd.isAgg4
  z4 := Tryd.sizeOf4
  v4 := Tryd.zeroValue4
  t9 := Tryd.underlying9
  a9 := Tryd.isAgg9
  z9 := Tryd.sizeOf9
  v9 := Tryd.zeroValue9
  t20 := Tryd.underlying20
  a20 := Tryd.isAgg20
  z20 := Tryd.sizeOf20
  v20 := Tryd.zeroValue20
  t31 := Tryd.underlying63
  a31 := Tryd.isAgg63
  z31 := Tryd.sizeOf63
  v31 := Tryd.zeroValue63
  t37 := Tryd.underlying96
  a37 := Tryd.isAgg96
  z37 := Tryd.sizeOf96
  v37 := Tryd.zeroValue96
  t70 := Tryd.underlying95
  a70 := Tryd.isAgg95
  z70 := Tryd.sizeOf95
  v70 := Tryd.zeroValue95
  t72 := Tryd.underlying98
  a72 := Tryd.isAgg98
  z72 := Tryd.sizeOf98
  v72 := Tryd.zeroValue98
  t75 := Tryd.underlying101
  a75 := Tryd.isAgg101
  z75 := Tryd.sizeOf101
  v75 := Tryd.zeroValue101
  t76 := Tryd.underlying102
  a76 := Tryd.isAgg102
  z76 := Tryd.sizeOf102
  v76 := Tryd.zeroValue102
  t127 := Tryd.underlying126
  a127 := Tryd.isAgg126
  z127 := Tryd.sizeOf126
  v127 := Tryd.zeroValue126
  t164 := Tryd.underlying138
  a164 := Tryd.isAgg138
  z164 := Tryd.sizeOf138
  v164 := Tryd.zeroValue138 }
theorem Tryd.Builder_Extra_156 : Builder.Extra Tryd.prog Tryd.lays156_ren := {
  sizeBuilder := by kernel_rfl
  liesBuilder := by kernel_rfl
  t5 := Tryd.underlying5
  a5 := Tryd.isAgg5
  z5 := Tryd.sizeOf5
  v5 := Tryd.zeroValue5
  infoByte := by kernel_rfl
  cellsByte := by kernel_rfl
  sizeByte := by kernel_rfl
  neB5 := by decide }
def Tryd.laysValid_ren : Go.Shelf.Ren := ⟨fun | 196 => 92 | 259 => 103 | n => n, fun | 9 => 9 | 4 => 4 | 3 => 3 | 5 => 5 | 12 => 12 | 119 => 146 | 0 => 0 | 46 => 128 | 139 => 149 | 138 => 148 | 53 => 160 | n => n, fun | 3 => 0 | 4 => 1 | n => n⟩
theorem Tryd.laysValid : Go.Proofs.Lays.n196 Tryd.prog Tryd.laysValid_ren := {
  mixed := by kernel_rfl
  f196 := Tryd.func92.trans (congrArg some (by kernel_rfl))
  f259 := Tryd.func103.trans (congrArg some (by kernel_rfl))
  t0 := Tryd.underlying0
  a0 := Tryd.isAgg0
  z0 := Tryd.sizeOf0
  v0 := Tryd.zeroValue0
  t3 := Tryd.underlying3
  a3 := Tryd.isAgg3
  z3 := Tryd.sizeOf3
  v3 := Tryd.zeroValue3
  t4 := Tryd.underlying4
  a4 := Tryd.isAgg4
  z4 := Tryd.sizeOf4
  v4 := Tryd.zeroValue4
  t5 := Tryd.underlying5
  a5 := Tryd.isAgg5
  z5 := Tryd.sizeOf5
  v5 := Tryd.zeroValue5
  t9 := Tryd.underlying9
  a9 := Tryd.isAgg9
  z9 := Tryd.sizeOf9
  v9 := Tryd.zeroValue9
  t12 := Tryd.underlying12
  a12 := Tryd.isAgg12
  z12 := Tryd.sizeOf12
  v12 := Tryd.zeroValue12
  t46 := Tryd.underlying128
  a46 := Tryd.isAgg128
  z46 := Tryd.sizeOf128
  v46 := Tryd.zeroValue128
  t53 := Tryd.underlying160
  a53 := Tryd.isAgg160
  z53 := Tryd.sizeOf160
  v53 := Tryd.zeroValue160
  t119 := Tryd.underlying146
  a119 := Tryd.isAgg146
  z119 := Tryd.sizeOf146
  t138 := Tryd.underlying148
  a138 := Tryd.isAgg148
  z138 := Tryd.sizeOf148
  v138 := Tryd.zeroValue148
  t139 := Tryd.underlying149
  a139 := Tryd.isAgg149
  z139 := Tryd.sizeOf149
  v139 := Tryd.zeroValue149
  g3 := by kernel_rfl
  g4 := by kernel_rfl }
def Tryd.laySort_ren : Go.Shelf.Ren := ⟨fun | 6 => 80 | 15 => 97 | 14 => 96 | 28 => 112 | 29 => 113 | 20 => 104 | 21 => 105 | 22 => 106 | 23 => 107 | 24 => 108 | 25 => 109 | 26 => 110 | 27 => 111 | 46 => 115 | 47 => 116 | 48 => 117 | 49 => 118 | 50 => 119 | 57 => 120 | n => n, fun | 22 => 23 | 24 => 90 | 25 => 120 | 3 => 3 | 39 => 128 | 0 => 0 | 53 => 158 | 55 => 160 | 4 => 4 | 46 => 152 | 45 => 151 | 50 => 118 | 5 => 5 | 9 => 9 | 66 => 162 | 70 => 166 | 76 => 168 | 77 => 57 | n => n, fun | n => n⟩
theorem Tryd.laySort : Go.Proofs.SlLaysF0.n6 Tryd.prog Tryd.laySort_ren := {
  mixed := by kernel_rfl
  f6 := ⟨Tryd.f80.name, by decide, Tryd.func80.trans (congrArg some (by kernel_rfl))⟩
  f14 := ⟨Tryd.f96.name, by decide, Tryd.func96.trans (congrArg some (by kernel_rfl))⟩
  f15 := Tryd.func97.trans (congrArg some (by kernel_rfl))
  f20 := ⟨Tryd.f104.name, by decide, Tryd.func104.trans (congrArg some (by kernel_rfl))⟩
  f21 := ⟨Tryd.f105.name, by decide, Tryd.func105.trans (congrArg some (by kernel_rfl))⟩
  f22 := ⟨Tryd.f106.name, by decide, Tryd.func106.trans (congrArg some (by kernel_rfl))⟩
  f23 := ⟨Tryd.f107.name, by decide, Tryd.func107.trans (congrArg some (by kernel_rfl))⟩
  f24 := ⟨Tryd.f108.name, by decide, Tryd.func108.trans (congrArg some (by kernel_rfl))⟩
  f25 := ⟨Tryd.f109.name, by decide, Tryd.func109.trans (congrArg some (by kernel_rfl))⟩
  f26 := ⟨Tryd.f110.name, by decide, Tryd.func110.trans (congrArg some (by kernel_rfl))⟩
  f27 := ⟨Tryd.f111.name, by decide, Tryd.func111.trans (congrArg some (by kernel_rfl))⟩
  f28 := Tryd.func112.trans (congrArg some (by kernel_rfl))
  f29 := Tryd.func113.trans (congrArg some (by kernel_rfl))
  f46 := ⟨Tryd.f115.name, by decide, Tryd.func115.trans (congrArg some (by kernel_rfl))⟩
  f47 := Tryd.func116.trans (congrArg some (by kernel_rfl))
  f48 := Tryd.func117.trans (congrArg some (by kernel_rfl))
  f49 := ⟨Tryd.f118.name, by decide, Tryd.func118.trans (congrArg some (by kernel_rfl))⟩
  f50 := ⟨Tryd.f119.name, by decide, Tryd.func119.trans (congrArg some (by kernel_rfl))⟩
  f57 := ⟨Tryd.f120.name, by decide, Tryd.func120.trans (congrArg some (by kernel_rfl))⟩
  t0 := Tryd.underlying0
  a0 := Tryd.isAgg0
  z0 := Tryd.sizeOf0
  v0 := Tryd.zeroValue0
  t3 := Tryd.underlying3
  a3 := Tryd.isAgg3
  z3 := Tryd.sizeOf3
  v3 := Tryd.zeroValue3
  t4 := Tryd.underlying4
  a4 := Tryd.isAgg4
  z4 := Tryd.sizeOf4
  v4 := Tryd.zeroValue4
  t5 := Tryd.underlying5
  a5 := Tryd.isAgg5
  z5 := Tryd.sizeOf5
  v5 := Tryd.zeroValue5
  t9 := Tryd.underlying9
  a9 := Tryd.isAgg9
  z9 := Tryd.sizeOf9
  v9 := Tryd.zeroValue9
  t22 := Tryd.underlying23
  a22 := Tryd.isAgg23
  z22 := Tryd.sizeOf23
  v22 := Tryd.zeroValue23
  t25 := Tryd.underlying120
  a25 := Tryd.isAgg120
  z25 := Tryd.sizeOf120
  v25 := Tryd.zeroValue120
  t39 := Tryd.underlying128
  a39 := Tryd.isAgg128
  z39 := Tryd.sizeOf128
  v39 := Tryd.zeroValue128
  t45 := Tryd.underlying151
  a45 := Tryd.isAgg151
  z45 := Tryd.sizeOf151
  v45 := Tryd.zeroValue151
  t46 := Tryd.underlying152
  a46 := Tryd.isAgg152
  z46 := Tryd.sizeOf152
  v46 := Tryd.zeroValue152
  t50 := Tryd.underlying118
  a50 := Tryd.isAgg118
  z50 := Tryd.sizeOf118
  v50 := Tryd.zeroValue118
  t53 := Tryd.underlying158
  a53 := Tryd.isAgg158
  z53 := Tryd.sizeOf158
  v53 := Tryd.zeroValue158
  t55 := Tryd.underlying160
  a55 := Tryd.isAgg160
  z55 := Tryd.sizeOf160
  v55 := Tryd.zeroValue160
  t66 := Tryd.underlying162
  a66 := Tryd.isAgg162
  z66 := Tryd.sizeOf162
  v66 := Tryd.zeroValue162
  t70 := Tryd.underlying166
  a70 := Tryd.isAgg166
  z70 := Tryd.sizeOf166
  v70 := Tryd.zeroValue166
  t76 := Tryd.underlying168
  a76 := Tryd.isAgg168
  z76 := Tryd.sizeOf168
  v76 := Tryd.zeroValue168
  t77 := Tryd.underlying57
  a77 := Tryd.isAgg57
  z77 := Tryd.sizeOf57
  v77 := Tryd.zeroValue57 }
end Go.Proofs
/-
  What the library's contracts say of calls here.
-/
namespace Go.Dv
open Go Go.RowKit Go.Proofs
set_option linter.unusedSimpArgs false
set_option linter.unusedVariables false
set_option maxRecDepth 8000

theorem validGoD_eq (s : ByteArray) : ∀ (k p : Nat), p ≤ s.size → s.size - p ≤ k → Lib.validGoD k (s.data.toList.drop p) = vld s p
  | 0, p, hp, hk => by rw [vld_end (by omega)]; rfl
  | k + 1, p, hp, hk => by
    have hlen : s.data.toList.length = s.size := (Lib.size_eq s).symm
    unfold Lib.validGoD
    by_cases h : p < s.size
    · have hne : ¬ s.data.toList.drop p = [] := by intro e; have := congrArg List.length e; simp [hlen] at this; omega
      rw [if_neg hne, Lib.decodeL_drop, vld_step h]
      have hw := width_pos s p
      have hin := decode_in h
      by_cases h2 : (Utf8.decode s p).1 = 65533 ∧ (Utf8.decode s p).2 = 1
      · rw [if_pos h2]
        have : okAt s p = false := by unfold okAt; simp [h2.1, h2.2]
        rw [this, Bool.false_and]
      · rw [if_neg h2, List.drop_drop, validGoD_eq s k _ hin (by omega)]
        have : okAt s p = true := by
          unfold okAt
          cases h3 : ((Utf8.decode s p).1 == 65533 && (Utf8.decode s p).2 == 1) with
          | false => rfl
          | true => rw [Bool.and_eq_true, beq_iff_eq, beq_iff_eq] at h3; exact absurd h3 h2
        rw [this, Bool.true_and]
    · rw [vld_end h, if_pos (List.drop_eq_nil_of_le (by rw [hlen]; omega))]
theorem validD_eq (s : ByteArray) : Lib.validD s.data.toList = vld s 0 := by
  have h := validGoD_eq s s.data.toList.length 0 (Nat.zero_le _) (by rw [← Lib.size_eq]; omega)
  rwa [List.drop_zero] at h

theorem toList_append (a b : ByteArray) : (a ++ b).data.toList = a.data.toList ++ b.data.toList := by simp
theorem join_cat : ∀ xs : List ByteArray, Lib.join (xs.map (·.data.toList)) [] = (cat xs).data.toList
  | [] => rfl
  | x :: xs => by
    have h := join_cat xs
    rw [List.map_cons, Lib.join_cons, cat_cons, toList_append, ← h]
    congr 1
    cases xs with
    | nil => rfl
    | cons y ys => rw [List.map_cons, Lib.join_cons]; simp [Lib.joinTail]

def TabsOf (w : World) : Prop := Lib.Utf8Tabs (Tryd.laysValid_ren.g 3) (Tryd.laysValid_ren.g 4) w

theorem libOk (hm : Tryd.prog.follows .mixedOrders = true) (W0 : World) (hT : TabsOf W0) : LibOk W0 where
  mixed := hm
  valid := fun S s hs => by
    refine CtP_of_calls [.string s] (.bool (vld s 0)) fun w hb => ?_
    have h := Any.utf8_ValidString Tryd.laysValid s w hs (Utf8Tabs_below hT hb)
    rw [validD_eq] at h
    exact h
  join := fun S f xs h1 h2 => by
    intro pl w vs hg hl hr
    match vs, hl, hr with
    | [v, u], _, hr =>
      simp only [RepL, Rep] at hr
      obtain ⟨⟨A, cap, hv, hcap, _, hn, hes⟩, hu, _⟩ := hr
      subst hv; subst hu
      rw [strs_len] at hcap ⊢
      have done : ∀ (y : ByteArray), y = cat xs → ∀ (e : Ending) (w' : World), e = .returned (.string y) → Below w.heap.size w w' →
          ∃ o S' pl', (S' = S ∧ ∃ d, o = Out.ret d ∧ d = .raw (.string (cat xs))) ∧ Good W0 pl' S' w' ∧ CxLe (cxOf w pl S) (cxOf w' pl' S') ∧ OutRep (cxOf w' pl' S') o e := by
        rintro y rfl e w' rfl hb
        obtain ⟨k1, k2⟩ := hg.later hb
        exact ⟨.ret (.raw (.string (cat xs))), S, pl, ⟨rfl, _, rfl, rfl⟩, k1, k2, by simp [OutRep, Rep]⟩
      cases xs with
      | nil =>
        refine (Any.strings_Join_none Tryd.lays156 Tryd.Builder_Extra_156 A cap "".toUTF8 w).mono ?_
        rintro e w' ⟨he, rfl⟩
        exact done _ rfl e _ he (Below.refl _ _)
      | cons x xs =>
        rcases hes with hes | ⟨b, off, c, T, fr, rfl, hmu, hheap, hcs⟩
        · cases hes
        have hbk : b < w.heap.size := (Array.getElem?_eq_some_iff.1 hheap).1
        refine (Any.strings_Join Tryd.lays156 Tryd.Builder_Extra_156 b off cap (x :: xs) "".toUTF8 w ?_ hbk (by unfold Big at h2; omega) hcap ?_).mono ?_
        · intro j z hz
          have := RepLL.len hcs j [.raw (.string z)] (by rw [strs, List.getElem?_map, hz]; rfl)
          have h3 := this.2
          rw [Nat.mul_one, List.drop_drop] at h3
          rw [cell_of_row w b (off + j) c T fr hheap]
          cases h4 : c.toList.drop (off + j) with
          | nil => rw [h4] at h3; simp [RepL] at h3
          | cons v vs =>
            rw [h4] at h3
            simp only [RepL, Rep] at h3
            have h5 := congrArg (fun l => l[0]?) h4
            simp only [List.getElem?_drop, Nat.add_zero, List.getElem?_cons_zero, Array.getElem?_toList] at h5
            rw [h5, h3.1]
        · have := join_cat (x :: xs)
          rw [show ("".toUTF8).data.toList = [] from rfl, this]
          unfold Big at h1
          have hsz : (cat (x :: xs)).data.toList.length = (cat (x :: xs)).size := (Lib.size_eq _).symm
          rw [hsz]; omega
        · rintro e w' ⟨he, hb⟩
          refine done _ ?_ e w' he hb
          rw [show ("".toUTF8).data.toList = [] from rfl, join_cat (x :: xs)]
  sort0 := fun S f => by
    intro pl w vs hg hl hr
    match vs, hl, hr with
    | [v, u], _, hr =>
      simp only [RepL, Rep] at hr
      obtain ⟨⟨A, cap, hv, hcap, _, hn, hes⟩, hu, _⟩ := hr
      subst hv
      refine (AnyF.slices_SortFunc_none Tryd.laySort A cap u w).mono ?_
      rintro e w' ⟨rfl, rfl⟩
      exact ⟨.ret (.tup []), S, pl, ⟨rfl, _, rfl, rfl⟩, hg, CxLe.refl _, ⟨[], rfl, rfl, trivial⟩⟩
end Go.Dv
/-
  What arguments read as, as deep values.
-/
namespace Go.Dv
open Go Go.RowKit Go.Proofs Go.WideShapes
set_option linter.unusedSimpArgs false
set_option linter.unusedVariables false
set_option maxRecDepth 8000

theorem add_none (b off n : Nat) : (⟨b, off, none⟩ : Addr).add n = ⟨b, off + n, none⟩ := by
  unfold Addr.add
  split
  · subst_vars; rfl
  · rfl
theorem cell_inv {w : World} {b off : Nat} {spot : Option Nat} {v : Value} (h : w.cell? ⟨b, off, spot⟩ = some v) : spot = none ∧ ∃ c T fr, w.heap[b]? = some (.cells c T fr) ∧ c[off]? = some v := by
  unfold World.cell? at h
  cases hh : w.heap[b]? with
  | none => rw [hh] at h; cases h
  | some o =>
    rw [hh] at h
    cases o with
    | cells c T fr =>
      cases spot with
      | none => exact ⟨rfl, c, T, fr, rfl, h⟩
      | some k => cases h
    | _ => cases h
/-- A list that a reading met. -/
theorem trod_lst {H : Type} {en : TypeId × Value → H} {P : Program} {w : World} {sp : Nat → Bool} {hd : Bool} {t e : TypeId} {z : Nat} {X : Type} (E : X → List Value) (ht : P.underlying t = some (.slice e)) (hz : P.cellsOf e = z) (hpos : 0 < z)
    (hE : ∀ (n : Nat) (cs : List Value) (x : DataW H × List MemPlace), DataW.trod en P w 0 sp hd n e cs = some x → ∃ y : X, cs = E y) {n : Nat} {v : Value} {x : DataW H × List MemPlace} (h : DataW.trod en P w 0 sp hd n t [v] = some x) :
    ∃ l : List X, ∀ C : Cx, C.heap = w.heap → (∀ b, ¬ C.mu b) → Rep C (.lst z false (l.map fun y => (E y).map DV.raw)) v := by
  rcases DataW.trod_slice ht h with ⟨hv, _⟩ | ⟨a, len, cap, elems, rest, m, _, hv, _, _, hlc, _, hel, hget, _, _⟩
  · obtain rfl : v = .slice none 0 0 := by simpa using hv
    exact ⟨[], fun C _ _ => by simp only [Rep]; exact ⟨none, 0, rfl, Nat.le_refl _, (fun h => by cases h), (fun _ => rfl), .inl rfl⟩⟩
  · obtain rfl : v = .slice (some a) len cap := by simpa using hv
    rw [hz] at hget
    have hex : ∀ i : Fin len, ∃ y : X, w.cells? 0 (a.add (i.1 * z)) z = some (E y) := by
      intro i
      have h1 := hget i.1 i.2
      rw [List.getElem?_eq_getElem (by rw [hel]; exact i.2)] at h1
      obtain ⟨cs, h2, h3⟩ := Option.bind_eq_some_iff.1 h1
      obtain ⟨y, rfl⟩ := hE _ _ _ h3
      exact ⟨y, h2⟩
    obtain ⟨f, hf⟩ := Classical.axiomOfChoice hex
    refine ⟨List.ofFn f, fun C hC hmu => ?_⟩
    simp only [Rep, List.length_map, List.length_ofFn]
    refine ⟨some a, cap, rfl, hlc, (fun h => by cases h), (fun h => by cases h), ?_⟩
    rcases Nat.eq_zero_or_pos len with h0 | h0
    · subst h0; exact .inl (by simp)
    · right
      have hc0 := World.cells?_some (hf ⟨0, h0⟩)
      have hlen0 := hc0.2.1
      have hcell := hc0.2.2 0 hpos
      rw [List.getElem?_eq_getElem (by omega)] at hcell
      obtain ⟨b, off, spot⟩ := a
      have hz0 : (⟨b, off, spot⟩ : Addr).add (0 * z) = ⟨b, off, spot⟩ := by rw [Nat.zero_mul]; rfl
      have hz1 : (⟨b, off, spot⟩ : Addr).add 0 = ⟨b, off, spot⟩ := rfl
      rw [hz0, hz1] at hcell
      obtain ⟨rfl, c, T, fr, hh, _⟩ := cell_inv hcell
      refine ⟨b, off, c, T, fr, rfl, hmu b, by rw [hC]; exact hh, ?_⟩
      refine RepLL.of_get fun i e he => ?_
      have hi : i < len := by
        rcases Nat.lt_or_ge i len with h | h
        · exact h
        · rw [List.getElem?_eq_none (by simp; exact h)] at he; cases he
      have hei : e = (E (f ⟨i, hi⟩)).map DV.raw := by
        rw [List.getElem?_map, List.getElem?_ofFn, dif_pos hi] at he
        exact (Option.some.inj he).symm
      have hci := World.cells?_some (hf ⟨i, hi⟩)
      subst hei
      refine ⟨by rw [List.length_map]; exact hci.2.1, RepL.of_get fun j d hj => ?_⟩
      rw [List.getElem?_map] at hj
      obtain ⟨y, hy, rfl⟩ := Option.map_eq_some_iff.1 hj
      have hjl : j < z := by
        rcases Nat.lt_or_ge j z with h | h
        · exact h
        · rw [List.getElem?_eq_none (by rw [hci.2.1]; exact h)] at hy; cases hy
      have h5 := hci.2.2 j hjl
      rw [add_none, add_none, hy] at h5
      obtain ⟨_, c', T', fr', hh', h6⟩ := cell_inv h5
      rw [hh] at hh'
      cases hh'
      refine ⟨y, ?_, by simp only [Rep]⟩
      rw [List.getElem?_drop, List.getElem?_drop, Array.getElem?_toList, ← h6]
      have e : ((⟨i, hi⟩ : Fin len).1 * z) = i * z := rfl
      congr 1; omega

section
variable {H : Type} {en : TypeId × Value → H} {w : World} {sp : Nat → Bool} {hd : Bool}
def Sp.v (s : Sp) : List Value := [.int .i64 s.m, .int .i64 s.f, .int .i64 s.t]
def Si.v (s : Si) : List Value := [.int .i64 s.m, .int .i64 s.a]
theorem Sp.v_c : (fun s : Sp => (Sp.v s).map DV.raw) = Sp.c := rfl
theorem Si.v_c : (fun s : Si => (Si.v s).map DV.raw) = Si.c := rfl

theorem field_of {xs : List (DataW H × List MemPlace)} {n i : Nat} (hi : i < n) (hl : xs.length = n) {y : Option (DataW H × List MemPlace)} (h : y = xs[i]?) : ∃ x, y = some x :=
  ⟨xs[i], by rw [h, List.getElem?_eq_getElem]⟩
theorem take_one {l : List Value} {i : Nat} {v : Value} (h : l[i]? = some v) : (l.drop i).take 1 = [v] := by
  obtain ⟨hi, rfl⟩ := List.getElem?_eq_some_iff.1 h
  rw [List.drop_eq_getElem_cons hi]; rfl
theorem fieldT {fs : Array Field} {xs : List (DataW H × List MemPlace)} {cs : List Value} {m k : Nat} (hf : ∀ (i : Nat) (f : Field), fs[i]? = some f → DataW.trod en Tryd.prog w 0 sp hd m f.type ((cs.drop f.offset).take (Tryd.prog.cellsOf f.type)) = xs[i]?) (hl : xs.length = k)
    (i off t : Nat) (hi : i < k) (h : fs[i]?.map (fun f => (f.offset, f.type)) = some (off, t)) (hc : Tryd.prog.cellsOf t = 1) {v : Value} (hv : cs[off]? = some v) : ∃ x, DataW.trod en Tryd.prog w 0 sp hd m t [v] = some x := by
  obtain ⟨f, h1, h2⟩ := Option.map_eq_some_iff.1 h
  have h3 := hf i f h1
  simp only [Prod.mk.injEq] at h2
  have hix : i < xs.length := by rw [hl]; exact hi
  rw [h2.1, h2.2, hc, take_one hv, List.getElem?_eq_getElem hix] at h3
  exact ⟨_, h3⟩
theorem cSp : Tryd.prog.cellsOf 87 = 3 := by kernel_rfl
theorem cSi : Tryd.prog.cellsOf 90 = 2 := by kernel_rfl
theorem cInt : Tryd.prog.cellsOf 3 = 1 := by kernel_rfl
theorem cStr : Tryd.prog.cellsOf 9 = 1 := by kernel_rfl
theorem cLs : Tryd.prog.cellsOf 22 = 1 := by kernel_rfl
theorem cLt : Tryd.prog.cellsOf 23 = 1 := by kernel_rfl
theorem cSeg : Tryd.prog.cellsOf 25 = 5 := by kernel_rfl
theorem cDeed : Tryd.prog.cellsOf 27 = 5 := by kernel_rfl
theorem cArr : Tryd.prog.cellsOf 28 = 3 := by kernel_rfl

theorem trod_sp (n : Nat) (cs : List Value) (x : DataW H × List MemPlace) (h : DataW.trod en Tryd.prog w 0 sp hd n 87 cs = some x) : ∃ y : Sp, cs = Sp.v y := by
  obtain ⟨xs, m, _, _, hl, hx, hf⟩ := DataW.trod_struct Tryd.underlying87 h
  rw [cSp] at hl
  match cs, hl with
  | [a, b, c], _ =>
    obtain ⟨y0, h0⟩ := fieldT hf hx 0 0 3 (by decide) rfl cInt rfl
    obtain ⟨y1, h1⟩ := fieldT hf hx 1 1 3 (by decide) rfl cInt rfl
    obtain ⟨y2, h2⟩ := fieldT hf hx 2 2 3 (by decide) rfl cInt rfl
    obtain ⟨k0, e0, _⟩ := DataW.trod_int Tryd.underlying3 h0
    obtain ⟨k1, e1, _⟩ := DataW.trod_int Tryd.underlying3 h1
    obtain ⟨k2, e2, _⟩ := DataW.trod_int Tryd.underlying3 h2
    simp only [List.cons.injEq, and_true] at e0 e1 e2
    subst e0; subst e1; subst e2
    exact ⟨⟨k0, k1, k2⟩, rfl⟩
theorem trod_si (n : Nat) (cs : List Value) (x : DataW H × List MemPlace) (h : DataW.trod en Tryd.prog w 0 sp hd n 90 cs = some x) : ∃ y : Si, cs = Si.v y := by
  obtain ⟨xs, m, _, _, hl, hx, hf⟩ := DataW.trod_struct Tryd.underlying90 h
  rw [cSi] at hl
  match cs, hl with
  | [a, b], _ =>
    obtain ⟨y0, h0⟩ := fieldT hf hx 0 0 3 (by decide) rfl cInt rfl
    obtain ⟨y1, h1⟩ := fieldT hf hx 1 1 3 (by decide) rfl cInt rfl
    obtain ⟨k0, e0, _⟩ := DataW.trod_int Tryd.underlying3 h0
    obtain ⟨k1, e1, _⟩ := DataW.trod_int Tryd.underlying3 h1
    simp only [List.cons.injEq, and_true] at e0 e1
    subst e0; subst e1
    exact ⟨⟨k0, k1⟩, rfl⟩

theorem open_seg {r : Reach} {b0 : Nat} {v : Value} {d : DataW H} {ps : List MemPlace} (hval : Value.okWide Tryd.prog w r b0 25 v) (h : DataW.Trod en Tryd.prog w 0 sp hd 25 v d ps) :
    ∃ id lb t l q, ∀ C : Cx, C.heap = w.heap → (∀ b, ¬ C.mu b) → Rep C (.agg [.raw (.int .i64 id), .raw (.int .i64 lb), .raw (.string t), .lst 3 false (encSp l), .lst 2 false (encSi q)]) v := by
  obtain ⟨cs, rfl, hsz⟩ := okWide_struct Tryd.underlying25 hval
  obtain ⟨n, h⟩ := h
  obtain ⟨xs, m, _, _, hl, hx, hf⟩ := DataW.trod_struct Tryd.underlying25 h
  obtain ⟨cs⟩ := cs
  rw [cSeg] at hl
  match cs, hl with
  | [a, b, c, e, g], _ =>
    obtain ⟨y0, h0⟩ := fieldT hf hx 0 0 3 (by decide) rfl cInt rfl
    obtain ⟨y1, h1⟩ := fieldT hf hx 1 1 3 (by decide) rfl cInt rfl
    obtain ⟨y2, h2⟩ := fieldT hf hx 2 2 9 (by decide) rfl cStr rfl
    obtain ⟨y3, h3⟩ := fieldT hf hx 3 3 22 (by decide) rfl cLs rfl
    obtain ⟨y4, h4⟩ := fieldT hf hx 4 4 23 (by decide) rfl cLt rfl
    obtain ⟨id, e0, _⟩ := DataW.trod_int Tryd.underlying3 h0
    obtain ⟨lb, e1, _⟩ := DataW.trod_int Tryd.underlying3 h1
    obtain ⟨t, e2, _⟩ := DataW.trod_string Tryd.underlying9 h2
    simp only [List.cons.injEq, and_true] at e0 e1 e2
    subst e0; subst e1; subst e2
    obtain ⟨l, hl⟩ := trod_lst Sp.v Tryd.underlying22 cSp (by decide) trod_sp h3
    obtain ⟨q, hq⟩ := trod_lst Si.v Tryd.underlying23 cSi (by decide) trod_si h4
    refine ⟨id, lb, t, l, q, fun C hC hmu => ?_⟩
    rw [Rep]
    exact ⟨_, rfl, rfl, by simp only [Rep], by simp only [Rep], by simp only [Rep], hl C hC hmu, hq C hC hmu, trivial⟩
theorem open_deed {r : Reach} {b0 : Nat} {v : Value} {d : DataW H} {ps : List MemPlace} (hval : Value.okWide Tryd.prog w r b0 27 v) (h : DataW.Trod en Tryd.prog w 0 sp hd 27 v d ps) :
    ∃ d1 d2 d3 d4 u, ∀ C : Cx, Rep C (.agg [.raw (.int .i64 d1), .raw (.int .i64 d2), .raw (.int .i64 d3), .raw (.int .i64 d4), .raw (.string u)]) v := by
  obtain ⟨cs, rfl, hsz⟩ := okWide_struct Tryd.underlying27 hval
  obtain ⟨n, h⟩ := h
  obtain ⟨xs, m, _, _, hl, hx, hf⟩ := DataW.trod_struct Tryd.underlying27 h
  obtain ⟨cs⟩ := cs
  rw [cDeed] at hl
  match cs, hl with
  | [a, b, c, e, g], _ =>
    obtain ⟨y0, h0⟩ := fieldT hf hx 0 0 3 (by decide) rfl cInt rfl
    obtain ⟨y1, h1⟩ := fieldT hf hx 1 1 3 (by decide) rfl cInt rfl
    obtain ⟨y2, h2⟩ := fieldT hf hx 2 2 3 (by decide) rfl cInt rfl
    obtain ⟨y3, h3⟩ := fieldT hf hx 3 3 3 (by decide) rfl cInt rfl
    obtain ⟨y4, h4⟩ := fieldT hf hx 4 4 9 (by decide) rfl cStr rfl
    obtain ⟨d1, e0, _⟩ := DataW.trod_int Tryd.underlying3 h0
    obtain ⟨d2, e1, _⟩ := DataW.trod_int Tryd.underlying3 h1
    obtain ⟨d3, e2, _⟩ := DataW.trod_int Tryd.underlying3 h2
    obtain ⟨d4, e3, _⟩ := DataW.trod_int Tryd.underlying3 h3
    obtain ⟨u, e4, _⟩ := DataW.trod_string Tryd.underlying9 h4
    simp only [List.cons.injEq, and_true] at e0 e1 e2 e3 e4
    subst e0; subst e1; subst e2; subst e3; subst e4
    refine ⟨d1, d2, d3, d4, u, fun C => ?_⟩
    rw [Rep]
    exact ⟨_, rfl, rfl, by simp only [Rep], by simp only [Rep], by simp only [Rep], by simp only [Rep], by simp only [Rep], trivial⟩
theorem open_three {r : Reach} {b0 : Nat} {v : Value} {d : DataW H} {ps : List MemPlace} (hval : Value.okWide Tryd.prog w r b0 28 v) (h : DataW.Trod en Tryd.prog w 0 sp hd 28 v d ps) :
    ∃ i1 i2 i3, ∀ C : Cx, Rep C (.agg [.raw (.int .i64 i1), .raw (.int .i64 i2), .raw (.int .i64 i3)]) v := by
  obtain ⟨cs, rfl, hsz⟩ : ∃ cs, v = .agg cs ∧ cs.size = Tryd.prog.cellsOf 28 := by
    simp only [Value.okWide, Tryd.underlying28] at hval
    obtain ⟨cs, h1, h2, _⟩ := hval
    exact ⟨cs, h1, h2⟩
  obtain ⟨n, h⟩ := h
  obtain ⟨xs, m, _, _, hl, hx, hf⟩ := DataW.trod_array Tryd.underlying28 h
  obtain ⟨cs⟩ := cs
  rw [cArr] at hl
  match cs, hl with
  | [a, b, c], _ =>
    obtain ⟨y0, h0⟩ := field_of (i := 0) (by decide) hx (hf 0 (by decide))
    obtain ⟨y1, h1⟩ := field_of (i := 1) (by decide) hx (hf 1 (by decide))
    obtain ⟨y2, h2⟩ := field_of (i := 2) (by decide) hx (hf 2 (by decide))
    simp only [cInt, Value.cells, Nat.zero_mul, Nat.one_mul, Nat.mul_one, List.drop_zero, List.take_succ_cons, List.take_zero, List.drop_succ_cons] at h0 h1 h2
    obtain ⟨i1, e0, _⟩ := DataW.trod_int Tryd.underlying3 h0
    obtain ⟨i2, e1, _⟩ := DataW.trod_int Tryd.underlying3 h1
    obtain ⟨i3, e2, _⟩ := DataW.trod_int Tryd.underlying3 h2
    simp only [List.cons.injEq, and_true] at e0 e1 e2
    subst e0; subst e1; subst e2
    refine ⟨i1, i2, i3, fun C => ?_⟩
    rw [Rep]
    exact ⟨_, rfl, rfl, by simp only [Rep], by simp only [Rep], by simp only [Rep], trivial⟩
end
end Go.Dv
/-
  The row of SegmentParts.
-/
namespace Go.Proofs.YtfnjchgidpljbaaDoor
set_option maxRecDepth 100000
open Go.ChangeShapes Go.WideShapes Go.ChangeAt Go.RowKit Go.Dv

theorem own : ownKnob Tryd.prog.godebug = none := by kernel_rfl
theorem laidOut : laidOutB Tryd.prog = true := by kernel_rfl

/-- The settled world, the two tables as their texts lay them. -/
noncomputable def laidWorld (os : Os) : World :=
  let w0 := World.holding Tryd.prog os ⟨#[], #[], []⟩
  let put (h : Array Obj) (g : Nat) (cs : Array Value) : Array Obj := h.modify g fun
    | .cells _ t frozen => .cells cs t frozen
    | o => o
  let h1 := put w0.heap 0 (Lib.firstTab.map fun z => Value.int .u8 z).toArray
  let h2 := put h1 1 ((List.range 16).flatMap fun i => [Value.int .u8 (Lib.accLo i), Value.int .u8 (Lib.accHi i)]).toArray
  { w0 with heap := h2 }
theorem door_met (os : Os) (args : Array Value) : laidMetH Tryd.prog Rows.segmentPartsRow.laid ((laidWorld os).forCall (fun _ _ => 0) ⟨#[], args, []⟩).memory :=
  laidMetH_of_parts3 (fuel := 8) (LaidIn.of_run (l := Rows.segmentPartsRow.laid.filter fun x => x.2.handleName?.isNone) [0, 1] 8 (by kernel_rfl) (by kernel_rfl) (by kernel_rfl) (by kernel_rfl)).met (by kernel_rfl) (by kernel_rfl)

theorem tabs_of {W : World} (h : laidMetH Tryd.prog Rows.segmentPartsRow.laid W) : TabsOf W := by
  rw [MakeChecks.laidMetH_plain _ _ _ (by kernel_rfl)] at h
  exact utf8Tabs_of_readsT (U8Types.of196 Tryd.laysValid) ⟨by kernel_rfl, by kernel_rfl, by kernel_rfl, by kernel_rfl, by kernel_rfl, by kernel_rfl, by kernel_rfl⟩ (Lib.laidMet.reads h (List.mem_of_getElem? (i := 1) (by kernel_rfl))) (Lib.laidMet.reads h (List.mem_of_getElem? (i := 0) (by kernel_rfl)))

theorem good0 (W : World) : Go.Dv.Good W (fun _ _ => Pl.un) [] W where
  below := Below.refl _ _
  objs := fun i o h => by simp at h
  inj := fun i j o o' g g' b h => by simp at h
  high := fun b ⟨i, o, g, h, _⟩ => by simp at h
  fresh := fun i => ⟨0, fun _ _ => rfl⟩

theorem lifted (os : Os) (started : os.Started) (H : Type) (enc : TypeId × Value → H) :
    ReturnsInHanded {} Tryd.checked os 3 .any (fun w args => (Rows.segmentPartsSpec.pre enc Tryd.prog Tryd.f3 [] false w args ∧ laidMetH Tryd.prog Rows.segmentPartsRow.laid w) ∧ sizedMet enc Tryd.prog Tryd.f3 (OpenSpec.ofChange Rows.segmentPartsSpec) false w args)
      (Rows.segmentPartsSpec.post enc Tryd.prog Tryd.f3 false true false false) := by
  refine returnsInHanded_of_change_and (C := Tryd.checked) (X := fun w _ => laidMetH Tryd.prog Rows.segmentPartsRow.laid w) (fun _ _ _ hh h => h.of_heap hh) own started (by kernel_rfl) Tryd.func3
    (ChangeSpec.witness_shaped (enc := enc) (C := Tryd.checked) (os := os) (X := fun w _ => laidMetH Tryd.prog Rows.segmentPartsRow.laid w) false (laidWorld os) #[.agg #[.int .i64 0, .int .i64 0, .string ⟨#[]⟩, .slice none 0 0, .slice none 0 0], .agg #[.int .i64 0, .int .i64 0, .int .i64 0, .int .i64 0, .string ⟨#[]⟩], .agg #[.int .i64 0, .int .i64 0, .int .i64 0]] 8 rfl (World.shaped_of_RefB (by kernel_rfl) (by kernel_rfl)) (by kernel_rfl) (by kernel_rfl) (by kernel_rfl) (door_met os _)) ?_
  intro W base args ds gs before hval0 hW _ _ hL _
  have hval : ∀ (j : Nat) t v, Tryd.f3.params[j]? = some t → args[j]? = some v → Value.okWide Tryd.prog W .any base t v := hval0
  have hW' := hW
  obtain ⟨p, q, hA0, hV, rfl, hfz, hnd⟩ := hW
  have hA : DataW.TrodAll enc Tryd.prog W 0 (fun _ => true) true Tryd.f3.params.toList args.toList ds p := hA0
  rw [Tryd.params3] at hA hval
  obtain ⟨v0, v1, v2, x0, x1, x2, p0, p1, p2, rfl, rfl, rfl, h0, h1, h2⟩ := trodAll_three hA
  obtain ⟨rfl, rfl⟩ := trodVars_none hV
  clear hA0 hval0
  obtain ⟨id, lb, t, l, q, r0⟩ := open_seg (hval 0 25 v0 rfl rfl) h0
  obtain ⟨d1, d2, d3, d4, u, r1⟩ := open_deed (hval 1 27 v1 rfl rfl) h1
  obtain ⟨i1, i2, i3, r2⟩ := open_three (hval 2 28 v2 rfl rfl) h2
  have hlt := hW'.lt
  have hm : Tryd.prog.follows .mixedOrders = true := by kernel_rfl
  have key := t_SegmentParts hm W [] id lb t false false l q (libOk hm W (tabs_of hL)) d1 d2 d3 d4 i1 i2 i3 u (fun _ _ => Pl.un) W [v0, v1, v2] (good0 W) rfl
    ⟨r0 _ rfl (fun b ⟨i, o, g, h, _⟩ => by simp at h), r1 _, r2 _, trivial⟩
  refine Calls.mono key fun e W' ⟨o, S', pl', ⟨hS, d, ho, hd⟩, hg, _, hout⟩ => ?_
  subst ho; subst hd
  have he : e = .returned (.bool true) := by
    cases e with
    | returned v => simp only [OutRep, Rep] at hout; rw [hout]
    | _ => simp only [OutRep] at hout
  subst he
  have hb : Below W.heap.size W W' := hg.below
  refine ⟨_, rfl, _, _, _, [], p0 ++ (p1 ++ p2), [], hW', ?_, ?_, ?_, hb.frame _, fun h => by cases h⟩
  · exact trodAll_mk1 (shut_bool Tryd.underlying4 _)
  · exact trodAll_mk3 (Below.trod laidOut (by kernel_rfl) (of_decide_eq_true (by kernel_rfl)) h0 hb (fun x hx => hlt x (by simp [hx]))) (Below.trod laidOut (by kernel_rfl) (of_decide_eq_true (by kernel_rfl)) h1 hb (fun x hx => hlt x (by simp [hx]))) (Below.trod laidOut (by kernel_rfl) (of_decide_eq_true (by kernel_rfl)) h2 hb (fun x hx => hlt x (by simp [hx])))
  · rfl

theorem segmentParts_holds : Rows.SegmentPartsSaid :=
  OpenClaim.holds_of_wide 3 Tryd.f3 rfl rfl rfl rfl rfl rfl rfl ⟨rfl, rfl, rfl, rfl, rfl⟩ rfl rfl rfl rfl rfl (by kernel_rfl) Tryd.func3 (by kernel_rfl)
    (of_decide_eq_true (by kernel_rfl)) (by unfold Func.isWrapper; first | (rw [if_pos (by decide +kernel)]; kernel_rfl) | (rw [if_neg (by decide +kernel)]; exact ⟨rfl, rfl⟩))
    (fun os started H enc _ => lifted os started H enc)
end Go.Proofs.YtfnjchgidpljbaaDoor
/-
  The tied card of SegmentParts.
-/
namespace Go.Proofs.YtfnjchgidpljbaaDoor
open Go
set_option maxRecDepth 100000

theorem segmentParts_card : Rows.SegmentPartsCardSaid :=
  Claim7.holds_tied_plain_at .later [] [.data, .pinned] true Rows.segmentPartsCard.stood.harness false
    segmentParts_holds (fun _ h => by cases h) (by kernel_rfl) (fun _ h => by cases h) segmentParts_row_tie rfl ⟨rfl, rfl⟩ (by kernel_rfl) rfl
    (fun f fn hf hfn => by
      obtain rfl : f = 3 := Option.some.inj ((show Tryd.prog.funcNamed Rows.segmentPartsRow.func = some 3 by kernel_rfl).symm.trans hf) |>.symm
      obtain rfl : fn = Tryd.f3 := (Option.some.inj (Tryd.func3.symm.trans hfn)).symm
      exact ⟨by kernel_rfl, fun j t ht => by
        rw [Tryd.params3] at ht
        have hm : t ∈ [25, 27, 28] := by simpa using Array.mem_of_getElem? ht
        have hall : ([25, 27, 28].all fun u => !Tryd.prog.wantsStandIn u) = true := by kernel_rfl
        exact (show Tryd.prog.wantsStandIn t = false by simpa using List.all_eq_true.1 hall t hm)⟩)
    (by kernel_rfl)
end Go.Proofs.YtfnjchgidpljbaaDoor
