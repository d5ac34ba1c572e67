/-
  For every input SegmentParts answers true and its arguments read as before (no condition but the given card's own). Here: Rc, Rd, Re, Rf, Rg, Ma, Mb, Mc, Sa, Sb.
-/
import Derived.Test.YtfnjchgidpljbaaDoorC2
set_option linter.all false
set_option linter.unusedSimpArgs false
set_option linter.unusedVariables false
/-
  Ropes that are joined: Join.
-/
namespace Go.Dv
open Go Go.RowKit Go.Proofs
set_option linter.unusedSimpArgs false
set_option linter.unusedVariables false
set_option maxRecDepth 8000

theorem t_JoinN (hm : Tryd.prog.follows .mixedOrders = true) (W0 : World) : ∀ (n : Nat) (S : List SO) (a b : Rp), a.sz + b.sz ≤ n → a.Ok → b.Ok → Big (bytes a.ls + bytes b.ls) →
    CtP Tryd.prog W0 n_rope_Join [a.enc, b.enc] S (fun d => ∃ c : Rp, d = c.enc ∧ c.Ok ∧ c.ls = a.ls ++ b.ls) := by
  intro n
  induction n with
  | zero => intro S a b h; cases a <;> simp [Rp.sz] at h
  | succ n ih =>
    intro S a b hn ha hb hbig
    have hs1 := ha.ht_lt
    have ht1 := hb.ht_lt
    have hs2 := ha.len_le
    have ht2 := hb.len_le
    unfold Big at hbig
    have wa : IntKind.i64.wrap ((a.ht : Int) + 1) = ((a.ht + 1 : Nat) : Int) := by rw [wrap_id (by omega) (by omega)]; omega
    have wb : IntKind.i64.wrap ((b.ht : Int) + 1) = ((b.ht + 1 : Nat) : Int) := by rw [wrap_id (by omega) (by omega)]; omega
    refine Ct_R k_rope_Join 400 (.mk [.mk a.enc b.enc .junk .junk .junk .junk .junk .junk, .mk .junk .junk .junk .junk .junk .junk .junk .junk, .mk .junk .junk .junk .junk .junk .junk .junk .junk, .mk .junk .junk .junk .junk .junk .junk .junk .junk, .mk .junk .junk .junk .junk .junk .junk .junk .junk, .mk .junk .junk .junk .junk .junk .junk .junk .junk, .mk .junk .junk .junk .junk .junk .junk .junk .junk, .mk .junk .junk .junk .junk .junk .junk .junk .junk, .mk .junk .junk .junk .junk .junk .junk .junk .junk, .mk .junk .junk .junk .junk .junk .junk .junk .junk, .mk .junk .junk .junk .junk .junk .junk .junk .junk] [.junk, .junk, .junk, .junk, .junk, .junk, .junk]) rfl rfl fun r hP hW hpan hret => ?_
    simp only [c_rope_Join, ev,evA,true_and,and_true,and_self,if_true,if_false,reduceIte,ne_eq,forall_const,false_implies,beq_self_eq_true,decide_true,decide_false,Int.cast_ofNat_Int,Nat.reduceAdd,Nat.reduceLT,Nat.reduceLeDiff,Nat.reduceEqDiff,Nat.reduceBEq,Nat.reduceMul,Nat.reduceSub,Int.reduceToNat,Int.reduceEq,Int.reduceNe,Int.reduceLT,Int.reduceLE,Int.reduceBEq,Int.reduceAdd,Int.reduceSub,Int.reduceMul,hP,hW]
    by_cases h1 : b.ht + 1 < a.ht
    · have h1' : decide (((b.ht + 1 : Nat) : Int) < (a.ht : Int)) = true := decide_eq_true (by omega)
      cases a with
      | leaf l => simp [Rp.ht] at h1
      | node a1 a2 =>
        simp only [Rp.ls, bytes_append, Rp.sz] at hbig hn
        obtain ⟨ha1, ha2⟩ := ha
        try simp only [evRp, hm, wb, h1', ev,evA,true_and,and_true,and_self,if_true,if_false,reduceIte,ne_eq,forall_const,false_implies,beq_self_eq_true,decide_true,decide_false,Int.cast_ofNat_Int,Nat.reduceAdd,Nat.reduceLT,Nat.reduceLeDiff,Nat.reduceEqDiff,Nat.reduceBEq,Nat.reduceMul,Nat.reduceSub,Int.reduceToNat,Int.reduceEq,Int.reduceNe,Int.reduceLT,Int.reduceLE,Int.reduceBEq,Int.reduceAdd,Int.reduceSub,Int.reduceMul,hP,hW]

        refine callQ _ (fun S2 => ih S2 a2 b (by omega) ha2 hb (by unfold Big; omega)) ⟨_, .node a2 b, rfl, ⟨ha2, hb⟩, rfl⟩ (by try simp only [ev,evA,true_and,and_true,and_self,if_true,if_false,reduceIte,ne_eq,forall_const,false_implies,beq_self_eq_true,decide_true,decide_false,Int.cast_ofNat_Int,Nat.reduceAdd,Nat.reduceLT,Nat.reduceLeDiff,Nat.reduceEqDiff,Nat.reduceBEq,Nat.reduceMul,Nat.reduceSub,Int.reduceToNat,Int.reduceEq,Int.reduceNe,Int.reduceLT,Int.reduceLE,Int.reduceBEq,Int.reduceAdd,Int.reduceSub,Int.reduceMul,hP,hW]) ?_
        rintro d ⟨c, rfl, hc, hcl⟩
        try simp only [ev,evA,true_and,and_true,and_self,if_true,if_false,reduceIte,ne_eq,forall_const,false_implies,beq_self_eq_true,decide_true,decide_false,Int.cast_ofNat_Int,Nat.reduceAdd,Nat.reduceLT,Nat.reduceLeDiff,Nat.reduceEqDiff,Nat.reduceBEq,Nat.reduceMul,Nat.reduceSub,Int.reduceToNat,Int.reduceEq,Int.reduceNe,Int.reduceLT,Int.reduceLE,Int.reduceBEq,Int.reduceAdd,Int.reduceSub,Int.reduceMul,hP,hW]
        refine callQ _ (fun S2 => t_fix hm W0 S2 (left := false) ha1 hc (by rw [hcl, bytes_append]; unfold Big; omega)) ⟨_, .node a1 c, rfl, ⟨ha1, hc⟩, rfl⟩ (by try simp only [ev,evA,true_and,and_true,and_self,if_true,if_false,reduceIte,ne_eq,forall_const,false_implies,beq_self_eq_true,decide_true,decide_false,Int.cast_ofNat_Int,Nat.reduceAdd,Nat.reduceLT,Nat.reduceLeDiff,Nat.reduceEqDiff,Nat.reduceBEq,Nat.reduceMul,Nat.reduceSub,Int.reduceToNat,Int.reduceEq,Int.reduceNe,Int.reduceLT,Int.reduceLE,Int.reduceBEq,Int.reduceAdd,Int.reduceSub,Int.reduceMul,hP,hW]) ?_
        rintro d ⟨c', rfl, hc', hcl'⟩
        try simp only [ev,evA,true_and,and_true,and_self,if_true,if_false,reduceIte,ne_eq,forall_const,false_implies,beq_self_eq_true,decide_true,decide_false,Int.cast_ofNat_Int,Nat.reduceAdd,Nat.reduceLT,Nat.reduceLeDiff,Nat.reduceEqDiff,Nat.reduceBEq,Nat.reduceMul,Nat.reduceSub,Int.reduceToNat,Int.reduceEq,Int.reduceNe,Int.reduceLT,Int.reduceLE,Int.reduceBEq,Int.reduceAdd,Int.reduceSub,Int.reduceMul,hP,hW]
        refine hret _ _ S.length 5 ?_
        simp only [r_rope_Join, ev,evA,true_and,and_true,and_self,if_true,if_false,reduceIte,ne_eq,forall_const,false_implies,beq_self_eq_true,decide_true,decide_false,Int.cast_ofNat_Int,Nat.reduceAdd,Nat.reduceLT,Nat.reduceLeDiff,Nat.reduceEqDiff,Nat.reduceBEq,Nat.reduceMul,Nat.reduceSub,Int.reduceToNat,Int.reduceEq,Int.reduceNe,Int.reduceLT,Int.reduceLE,Int.reduceBEq,Int.reduceAdd,Int.reduceSub,Int.reduceMul,hP,hW]
        try simp only [evRp, ev,evA,true_and,and_true,and_self,if_true,if_false,reduceIte,ne_eq,forall_const,false_implies,beq_self_eq_true,decide_true,decide_false,Int.cast_ofNat_Int,Nat.reduceAdd,Nat.reduceLT,Nat.reduceLeDiff,Nat.reduceEqDiff,Nat.reduceBEq,Nat.reduceMul,Nat.reduceSub,Int.reduceToNat,Int.reduceEq,Int.reduceNe,Int.reduceLT,Int.reduceLE,Int.reduceBEq,Int.reduceAdd,Int.reduceSub,Int.reduceMul,hP,hW]
        refine ⟨_, rfl, _, rfl, hc', ?_⟩
        rw [hcl', hcl]; simp [cat2, Rp.ls]
    · have h1' : decide (((b.ht + 1 : Nat) : Int) < (a.ht : Int)) = false := decide_eq_false (by omega)
      by_cases h2 : a.ht + 1 < b.ht
      · have h2' : decide (((a.ht + 1 : Nat) : Int) < (b.ht : Int)) = true := decide_eq_true (by omega)
        cases b with
        | leaf l => simp [Rp.ht] at h2
        | node b1 b2 =>
          simp only [Rp.ls, bytes_append, Rp.sz] at hbig hn
          obtain ⟨hb1, hb2⟩ := hb
          try simp only [evRp, hm, wb, wa, h1', h2', ev,evA,true_and,and_true,and_self,if_true,if_false,reduceIte,ne_eq,forall_const,false_implies,beq_self_eq_true,decide_true,decide_false,Int.cast_ofNat_Int,Nat.reduceAdd,Nat.reduceLT,Nat.reduceLeDiff,Nat.reduceEqDiff,Nat.reduceBEq,Nat.reduceMul,Nat.reduceSub,Int.reduceToNat,Int.reduceEq,Int.reduceNe,Int.reduceLT,Int.reduceLE,Int.reduceBEq,Int.reduceAdd,Int.reduceSub,Int.reduceMul,hP,hW]
          refine callQ _ (fun S2 => ih S2 a b1 (by omega) ha hb1 (by unfold Big; omega)) ⟨_, .node a b1, rfl, ⟨ha, hb1⟩, rfl⟩ (by try simp only [ev,evA,true_and,and_true,and_self,if_true,if_false,reduceIte,ne_eq,forall_const,false_implies,beq_self_eq_true,decide_true,decide_false,Int.cast_ofNat_Int,Nat.reduceAdd,Nat.reduceLT,Nat.reduceLeDiff,Nat.reduceEqDiff,Nat.reduceBEq,Nat.reduceMul,Nat.reduceSub,Int.reduceToNat,Int.reduceEq,Int.reduceNe,Int.reduceLT,Int.reduceLE,Int.reduceBEq,Int.reduceAdd,Int.reduceSub,Int.reduceMul,hP,hW]) ?_
          rintro d ⟨c, rfl, hc, hcl⟩
          try simp only [ev,evA,true_and,and_true,and_self,if_true,if_false,reduceIte,ne_eq,forall_const,false_implies,beq_self_eq_true,decide_true,decide_false,Int.cast_ofNat_Int,Nat.reduceAdd,Nat.reduceLT,Nat.reduceLeDiff,Nat.reduceEqDiff,Nat.reduceBEq,Nat.reduceMul,Nat.reduceSub,Int.reduceToNat,Int.reduceEq,Int.reduceNe,Int.reduceLT,Int.reduceLE,Int.reduceBEq,Int.reduceAdd,Int.reduceSub,Int.reduceMul,hP,hW]
          refine callQ _ (fun S2 => t_fix hm W0 S2 (left := true) hb2 hc (by rw [hcl, bytes_append]; unfold Big; omega)) ⟨_, .node c b2, rfl, ⟨hc, hb2⟩, rfl⟩ (by try simp only [ev,evA,true_and,and_true,and_self,if_true,if_false,reduceIte,ne_eq,forall_const,false_implies,beq_self_eq_true,decide_true,decide_false,Int.cast_ofNat_Int,Nat.reduceAdd,Nat.reduceLT,Nat.reduceLeDiff,Nat.reduceEqDiff,Nat.reduceBEq,Nat.reduceMul,Nat.reduceSub,Int.reduceToNat,Int.reduceEq,Int.reduceNe,Int.reduceLT,Int.reduceLE,Int.reduceBEq,Int.reduceAdd,Int.reduceSub,Int.reduceMul,hP,hW]) ?_
          rintro d ⟨c', rfl, hc', hcl'⟩
          try simp only [ev,evA,true_and,and_true,and_self,if_true,if_false,reduceIte,ne_eq,forall_const,false_implies,beq_self_eq_true,decide_true,decide_false,Int.cast_ofNat_Int,Nat.reduceAdd,Nat.reduceLT,Nat.reduceLeDiff,Nat.reduceEqDiff,Nat.reduceBEq,Nat.reduceMul,Nat.reduceSub,Int.reduceToNat,Int.reduceEq,Int.reduceNe,Int.reduceLT,Int.reduceLE,Int.reduceBEq,Int.reduceAdd,Int.reduceSub,Int.reduceMul,hP,hW]
          refine hret _ _ S.length 5 ?_
          simp only [r_rope_Join, ev,evA,true_and,and_true,and_self,if_true,if_false,reduceIte,ne_eq,forall_const,false_implies,beq_self_eq_true,decide_true,decide_false,Int.cast_ofNat_Int,Nat.reduceAdd,Nat.reduceLT,Nat.reduceLeDiff,Nat.reduceEqDiff,Nat.reduceBEq,Nat.reduceMul,Nat.reduceSub,Int.reduceToNat,Int.reduceEq,Int.reduceNe,Int.reduceLT,Int.reduceLE,Int.reduceBEq,Int.reduceAdd,Int.reduceSub,Int.reduceMul,hP,hW]
          try simp only [evRp, ev,evA,true_and,and_true,and_self,if_true,if_false,reduceIte,ne_eq,forall_const,false_implies,beq_self_eq_true,decide_true,decide_false,Int.cast_ofNat_Int,Nat.reduceAdd,Nat.reduceLT,Nat.reduceLeDiff,Nat.reduceEqDiff,Nat.reduceBEq,Nat.reduceMul,Nat.reduceSub,Int.reduceToNat,Int.reduceEq,Int.reduceNe,Int.reduceLT,Int.reduceLE,Int.reduceBEq,Int.reduceAdd,Int.reduceSub,Int.reduceMul,hP,hW]
          refine ⟨_, rfl, _, rfl, hc', ?_⟩
          rw [hcl', hcl]; simp [cat2, Rp.ls]
      · have h2' : decide (((a.ht + 1 : Nat) : Int) < (b.ht : Int)) = false := decide_eq_false (by omega)
        by_cases h3 : a.ht = 0 ∧ b.ht = 0 ∧ bytes a.ls + bytes b.ls ≤ 64
        · obtain ⟨h3, h4, h5⟩ := h3
          cases a with
          | node _ _ => simp [Rp.ht] at h3
          | leaf la =>
            cases b with
            | node _ _ => simp [Rp.ht] at h4
            | leaf lb =>
              have e0 : (((Rp.leaf la).ht : Int) == 0) = true := rfl
              have e1 : (((Rp.leaf lb).ht : Int) == 0) = true := rfl
              simp only [Rp.ls] at h5 hbig
              have h5' : decide (((bytes la : Nat) : Int) + (bytes lb : Int) ≤ 64) = true := decide_eq_true (by omega)
              have w5 : IntKind.i64.wrap ((bytes la : Int) + (bytes lb : Int)) = (bytes la : Int) + (bytes lb : Int) := wrap_id (by omega) (by omega)
              try simp only [evRp, hm, wb, wa, h1', h2', h5', w5, e0, e1, Rp.ls, ← cat_append, ev,evA,true_and,and_true,and_self,if_true,if_false,reduceIte,ne_eq,forall_const,false_implies,beq_self_eq_true,decide_true,decide_false,Int.cast_ofNat_Int,Nat.reduceAdd,Nat.reduceLT,Nat.reduceLeDiff,Nat.reduceEqDiff,Nat.reduceBEq,Nat.reduceMul,Nat.reduceSub,Int.reduceToNat,Int.reduceEq,Int.reduceNe,Int.reduceLT,Int.reduceLE,Int.reduceBEq,Int.reduceAdd,Int.reduceSub,Int.reduceMul,hP,hW]
              refine ⟨by simp only [bytes] at hbig; omega, ?_⟩
              refine callE _ (fun S2 => t_leaf W0 S2 (ha.1.append hb.1) (by rw [bytes_append]; exact hbig)) (by try simp only [ev,evA,true_and,and_true,and_self,if_true,if_false,reduceIte,ne_eq,forall_const,false_implies,beq_self_eq_true,decide_true,decide_false,Int.cast_ofNat_Int,Nat.reduceAdd,Nat.reduceLT,Nat.reduceLeDiff,Nat.reduceEqDiff,Nat.reduceBEq,Nat.reduceMul,Nat.reduceSub,Int.reduceToNat,Int.reduceEq,Int.reduceNe,Int.reduceLT,Int.reduceLE,Int.reduceBEq,Int.reduceAdd,Int.reduceSub,Int.reduceMul,hP,hW]) ?_
              try simp only [ev,evA,true_and,and_true,and_self,if_true,if_false,reduceIte,ne_eq,forall_const,false_implies,beq_self_eq_true,decide_true,decide_false,Int.cast_ofNat_Int,Nat.reduceAdd,Nat.reduceLT,Nat.reduceLeDiff,Nat.reduceEqDiff,Nat.reduceBEq,Nat.reduceMul,Nat.reduceSub,Int.reduceToNat,Int.reduceEq,Int.reduceNe,Int.reduceLT,Int.reduceLE,Int.reduceBEq,Int.reduceAdd,Int.reduceSub,Int.reduceMul,hP,hW]
              refine hret _ _ S.length 5 ?_
              simp only [r_rope_Join, ev,evA,true_and,and_true,and_self,if_true,if_false,reduceIte,ne_eq,forall_const,false_implies,beq_self_eq_true,decide_true,decide_false,Int.cast_ofNat_Int,Nat.reduceAdd,Nat.reduceLT,Nat.reduceLeDiff,Nat.reduceEqDiff,Nat.reduceBEq,Nat.reduceMul,Nat.reduceSub,Int.reduceToNat,Int.reduceEq,Int.reduceNe,Int.reduceLT,Int.reduceLE,Int.reduceBEq,Int.reduceAdd,Int.reduceSub,Int.reduceMul,hP,hW]
              try simp only [evRp, ev,evA,true_and,and_true,and_self,if_true,if_false,reduceIte,ne_eq,forall_const,false_implies,beq_self_eq_true,decide_true,decide_false,Int.cast_ofNat_Int,Nat.reduceAdd,Nat.reduceLT,Nat.reduceLeDiff,Nat.reduceEqDiff,Nat.reduceBEq,Nat.reduceMul,Nat.reduceSub,Int.reduceToNat,Int.reduceEq,Int.reduceNe,Int.reduceLT,Int.reduceLE,Int.reduceBEq,Int.reduceAdd,Int.reduceSub,Int.reduceMul,hP,hW]
              exact ⟨_, rfl, _, rfl, ⟨ha.1.append hb.1, by simp [ha.2]⟩, rfl⟩
        · have w5 : IntKind.i64.wrap ((bytes a.ls : Int) + (bytes b.ls : Int)) = (bytes a.ls : Int) + (bytes b.ls : Int) := wrap_id (by omega) (by omega)
          have e4 : ∀ n : Nat, ((n : Int) == 0) = decide (n = 0) := fun n => by rw [Bool.eq_iff_iff]; simp
          have fin : ∀ d, d = (Rp.node a b).enc → ∃ c : Rp, d = c.enc ∧ c.Ok ∧ c.ls = a.ls ++ b.ls := fun d hd => ⟨_, hd, ⟨ha, hb⟩, rfl⟩
          by_cases h4 : a.ht = 0
          · by_cases h5 : b.ht = 0
            · have h6 : decide (((bytes a.ls : Nat) : Int) + (bytes b.ls : Int) ≤ 64) = false := decide_eq_false (by omega)
              try simp only [evRp, hm, wb, wa, h1', h2', w5, e4, decide_eq_true h4, decide_eq_true h5, h6, ev,evA,true_and,and_true,and_self,if_true,if_false,reduceIte,ne_eq,forall_const,false_implies,beq_self_eq_true,decide_true,decide_false,Int.cast_ofNat_Int,Nat.reduceAdd,Nat.reduceLT,Nat.reduceLeDiff,Nat.reduceEqDiff,Nat.reduceBEq,Nat.reduceMul,Nat.reduceSub,Int.reduceToNat,Int.reduceEq,Int.reduceNe,Int.reduceLT,Int.reduceLE,Int.reduceBEq,Int.reduceAdd,Int.reduceSub,Int.reduceMul,hP,hW]
              refine callE _ (fun S2 => t_node hm W0 S2 ha hb hbig) (by try simp only [ev,evA,true_and,and_true,and_self,if_true,if_false,reduceIte,ne_eq,forall_const,false_implies,beq_self_eq_true,decide_true,decide_false,Int.cast_ofNat_Int,Nat.reduceAdd,Nat.reduceLT,Nat.reduceLeDiff,Nat.reduceEqDiff,Nat.reduceBEq,Nat.reduceMul,Nat.reduceSub,Int.reduceToNat,Int.reduceEq,Int.reduceNe,Int.reduceLT,Int.reduceLE,Int.reduceBEq,Int.reduceAdd,Int.reduceSub,Int.reduceMul,hP,hW]) ?_
              try simp only [ev,evA,true_and,and_true,and_self,if_true,if_false,reduceIte,ne_eq,forall_const,false_implies,beq_self_eq_true,decide_true,decide_false,Int.cast_ofNat_Int,Nat.reduceAdd,Nat.reduceLT,Nat.reduceLeDiff,Nat.reduceEqDiff,Nat.reduceBEq,Nat.reduceMul,Nat.reduceSub,Int.reduceToNat,Int.reduceEq,Int.reduceNe,Int.reduceLT,Int.reduceLE,Int.reduceBEq,Int.reduceAdd,Int.reduceSub,Int.reduceMul,hP,hW]
              refine hret _ _ S.length 5 ?_
              simp only [r_rope_Join, ev,evA,true_and,and_true,and_self,if_true,if_false,reduceIte,ne_eq,forall_const,false_implies,beq_self_eq_true,decide_true,decide_false,Int.cast_ofNat_Int,Nat.reduceAdd,Nat.reduceLT,Nat.reduceLeDiff,Nat.reduceEqDiff,Nat.reduceBEq,Nat.reduceMul,Nat.reduceSub,Int.reduceToNat,Int.reduceEq,Int.reduceNe,Int.reduceLT,Int.reduceLE,Int.reduceBEq,Int.reduceAdd,Int.reduceSub,Int.reduceMul,hP,hW]
              try simp only [evRp, ev,evA,true_and,and_true,and_self,if_true,if_false,reduceIte,ne_eq,forall_const,false_implies,beq_self_eq_true,decide_true,decide_false,Int.cast_ofNat_Int,Nat.reduceAdd,Nat.reduceLT,Nat.reduceLeDiff,Nat.reduceEqDiff,Nat.reduceBEq,Nat.reduceMul,Nat.reduceSub,Int.reduceToNat,Int.reduceEq,Int.reduceNe,Int.reduceLT,Int.reduceLE,Int.reduceBEq,Int.reduceAdd,Int.reduceSub,Int.reduceMul,hP,hW]
              exact ⟨_, rfl, fin _ rfl⟩
            · try simp only [evRp, hm, wb, wa, h1', h2', w5, e4, decide_eq_true h4, decide_eq_false h5, ev,evA,true_and,and_true,and_self,if_true,if_false,reduceIte,ne_eq,forall_const,false_implies,beq_self_eq_true,decide_true,decide_false,Int.cast_ofNat_Int,Nat.reduceAdd,Nat.reduceLT,Nat.reduceLeDiff,Nat.reduceEqDiff,Nat.reduceBEq,Nat.reduceMul,Nat.reduceSub,Int.reduceToNat,Int.reduceEq,Int.reduceNe,Int.reduceLT,Int.reduceLE,Int.reduceBEq,Int.reduceAdd,Int.reduceSub,Int.reduceMul,hP,hW]
              refine callE _ (fun S2 => t_node hm W0 S2 ha hb hbig) (by try simp only [ev,evA,true_and,and_true,and_self,if_true,if_false,reduceIte,ne_eq,forall_const,false_implies,beq_self_eq_true,decide_true,decide_false,Int.cast_ofNat_Int,Nat.reduceAdd,Nat.reduceLT,Nat.reduceLeDiff,Nat.reduceEqDiff,Nat.reduceBEq,Nat.reduceMul,Nat.reduceSub,Int.reduceToNat,Int.reduceEq,Int.reduceNe,Int.reduceLT,Int.reduceLE,Int.reduceBEq,Int.reduceAdd,Int.reduceSub,Int.reduceMul,hP,hW]) ?_
              try simp only [ev,evA,true_and,and_true,and_self,if_true,if_false,reduceIte,ne_eq,forall_const,false_implies,beq_self_eq_true,decide_true,decide_false,Int.cast_ofNat_Int,Nat.reduceAdd,Nat.reduceLT,Nat.reduceLeDiff,Nat.reduceEqDiff,Nat.reduceBEq,Nat.reduceMul,Nat.reduceSub,Int.reduceToNat,Int.reduceEq,Int.reduceNe,Int.reduceLT,Int.reduceLE,Int.reduceBEq,Int.reduceAdd,Int.reduceSub,Int.reduceMul,hP,hW]
              refine hret _ _ S.length 5 ?_
              simp only [r_rope_Join, ev,evA,true_and,and_true,and_self,if_true,if_false,reduceIte,ne_eq,forall_const,false_implies,beq_self_eq_true,decide_true,decide_false,Int.cast_ofNat_Int,Nat.reduceAdd,Nat.reduceLT,Nat.reduceLeDiff,Nat.reduceEqDiff,Nat.reduceBEq,Nat.reduceMul,Nat.reduceSub,Int.reduceToNat,Int.reduceEq,Int.reduceNe,Int.reduceLT,Int.reduceLE,Int.reduceBEq,Int.reduceAdd,Int.reduceSub,Int.reduceMul,hP,hW]
              try simp only [evRp, ev,evA,true_and,and_true,and_self,if_true,if_false,reduceIte,ne_eq,forall_const,false_implies,beq_self_eq_true,decide_true,decide_false,Int.cast_ofNat_Int,Nat.reduceAdd,Nat.reduceLT,Nat.reduceLeDiff,Nat.reduceEqDiff,Nat.reduceBEq,Nat.reduceMul,Nat.reduceSub,Int.reduceToNat,Int.reduceEq,Int.reduceNe,Int.reduceLT,Int.reduceLE,Int.reduceBEq,Int.reduceAdd,Int.reduceSub,Int.reduceMul,hP,hW]
              exact ⟨_, rfl, fin _ rfl⟩
          · try simp only [evRp, hm, wb, wa, h1', h2', w5, e4, decide_eq_false h4, ev,evA,true_and,and_true,and_self,if_true,if_false,reduceIte,ne_eq,forall_const,false_implies,beq_self_eq_true,decide_true,decide_false,Int.cast_ofNat_Int,Nat.reduceAdd,Nat.reduceLT,Nat.reduceLeDiff,Nat.reduceEqDiff,Nat.reduceBEq,Nat.reduceMul,Nat.reduceSub,Int.reduceToNat,Int.reduceEq,Int.reduceNe,Int.reduceLT,Int.reduceLE,Int.reduceBEq,Int.reduceAdd,Int.reduceSub,Int.reduceMul,hP,hW]
            refine callE _ (fun S2 => t_node hm W0 S2 ha hb hbig) (by try simp only [ev,evA,true_and,and_true,and_self,if_true,if_false,reduceIte,ne_eq,forall_const,false_implies,beq_self_eq_true,decide_true,decide_false,Int.cast_ofNat_Int,Nat.reduceAdd,Nat.reduceLT,Nat.reduceLeDiff,Nat.reduceEqDiff,Nat.reduceBEq,Nat.reduceMul,Nat.reduceSub,Int.reduceToNat,Int.reduceEq,Int.reduceNe,Int.reduceLT,Int.reduceLE,Int.reduceBEq,Int.reduceAdd,Int.reduceSub,Int.reduceMul,hP,hW]) ?_
            try simp only [ev,evA,true_and,and_true,and_self,if_true,if_false,reduceIte,ne_eq,forall_const,false_implies,beq_self_eq_true,decide_true,decide_false,Int.cast_ofNat_Int,Nat.reduceAdd,Nat.reduceLT,Nat.reduceLeDiff,Nat.reduceEqDiff,Nat.reduceBEq,Nat.reduceMul,Nat.reduceSub,Int.reduceToNat,Int.reduceEq,Int.reduceNe,Int.reduceLT,Int.reduceLE,Int.reduceBEq,Int.reduceAdd,Int.reduceSub,Int.reduceMul,hP,hW]
            refine hret _ _ S.length 5 ?_
            simp only [r_rope_Join, ev,evA,true_and,and_true,and_self,if_true,if_false,reduceIte,ne_eq,forall_const,false_implies,beq_self_eq_true,decide_true,decide_false,Int.cast_ofNat_Int,Nat.reduceAdd,Nat.reduceLT,Nat.reduceLeDiff,Nat.reduceEqDiff,Nat.reduceBEq,Nat.reduceMul,Nat.reduceSub,Int.reduceToNat,Int.reduceEq,Int.reduceNe,Int.reduceLT,Int.reduceLE,Int.reduceBEq,Int.reduceAdd,Int.reduceSub,Int.reduceMul,hP,hW]
            try simp only [evRp, ev,evA,true_and,and_true,and_self,if_true,if_false,reduceIte,ne_eq,forall_const,false_implies,beq_self_eq_true,decide_true,decide_false,Int.cast_ofNat_Int,Nat.reduceAdd,Nat.reduceLT,Nat.reduceLeDiff,Nat.reduceEqDiff,Nat.reduceBEq,Nat.reduceMul,Nat.reduceSub,Int.reduceToNat,Int.reduceEq,Int.reduceNe,Int.reduceLT,Int.reduceLE,Int.reduceBEq,Int.reduceAdd,Int.reduceSub,Int.reduceMul,hP,hW]
            exact ⟨_, rfl, fin _ rfl⟩
end Go.Dv
/-
  Ropes: joined, split, cut.
-/
namespace Go.Dv
open Go Go.RowKit Go.Proofs
set_option linter.unusedSimpArgs false
set_option linter.unusedVariables false
set_option maxRecDepth 8000

theorem evRo : (∀ r : Option Rp, cellsD (encO r) = some [encO r]) ∧ (∀ r : Option Rp, oneD (encO r) = true) ∧ (∀ (S : List SO) (n k : Nat) (r : Option Rp), fz S n (k + 1) (encO r) = encO r) ∧
    (∀ r : Rp, encO (some r) = r.enc) ∧ (encO none = .raw (.pointer none)) := by
  refine ⟨?_, ?_, ?_, fun _ => rfl, rfl⟩
  · intro r; cases r with
    | none => rfl
    | some r => exact evRp.1 r
  · intro r; cases r with
    | none => rfl
    | some r => exact evRp.2.1 r
  · intro S n k r; cases r with
    | none => rfl
    | some r => exact evRp.2.2.1 S n k r

/-- What joins two. -/
theorem joinW (a b : Option Rp) (ha : OkO a) (hb : OkO b) : ∃ c : Option Rp, OkO c ∧ lsO c = lsO a ++ lsO b := by
  cases a with
  | none => exact ⟨b, hb, rfl⟩
  | some a =>
    cases b with
    | none => exact ⟨some a, ha, by simp [lsO]⟩
    | some b => exact ⟨some (.node a b), ⟨ha, hb⟩, rfl⟩

theorem t_Join (hm : Tryd.prog.follows .mixedOrders = true) (W0 : World) (S : List SO) {a b : Option Rp} (ha : OkO a) (hb : OkO b) (hbig : Big (bytes (lsO a) + bytes (lsO b))) :
    CtP Tryd.prog W0 n_rope_Join [encO a, encO b] S (fun d => ∃ c : Option Rp, d = encO c ∧ OkO c ∧ lsO c = lsO a ++ lsO b) := by
  cases a with
  | none =>
    refine Ct_R k_rope_Join 400 (.mk [.mk (.raw (.pointer none)) (encO b) .junk .junk .junk .junk .junk .junk, .mk .junk .junk .junk .junk .junk .junk .junk .junk, .mk .junk .junk .junk .junk .junk .junk .junk .junk, .mk .junk .junk .junk .junk .junk .junk .junk .junk, .mk .junk .junk .junk .junk .junk .junk .junk .junk, .mk .junk .junk .junk .junk .junk .junk .junk .junk, .mk .junk .junk .junk .junk .junk .junk .junk .junk, .mk .junk .junk .junk .junk .junk .junk .junk .junk, .mk .junk .junk .junk .junk .junk .junk .junk .junk, .mk .junk .junk .junk .junk .junk .junk .junk .junk, .mk .junk .junk .junk .junk .junk .junk .junk .junk] [.junk, .junk, .junk, .junk, .junk, .junk, .junk]) rfl rfl fun r hP hW hpan hret => ?_
    simp only [c_rope_Join, ev,evA,true_and,and_true,and_self,if_true,if_false,reduceIte,ne_eq,forall_const,false_implies,beq_self_eq_true,decide_true,decide_false,Int.cast_ofNat_Int,Nat.reduceAdd,Nat.reduceLT,Nat.reduceLeDiff,Nat.reduceEqDiff,Nat.reduceBEq,Nat.reduceMul,Nat.reduceSub,Int.reduceToNat,Int.reduceEq,Int.reduceNe,Int.reduceLT,Int.reduceLE,Int.reduceBEq,Int.reduceAdd,Int.reduceSub,Int.reduceMul,hP,hW]
    refine hret _ _ S.length 5 ?_
    simp only [r_rope_Join, ev,evA,true_and,and_true,and_self,if_true,if_false,reduceIte,ne_eq,forall_const,false_implies,beq_self_eq_true,decide_true,decide_false,Int.cast_ofNat_Int,Nat.reduceAdd,Nat.reduceLT,Nat.reduceLeDiff,Nat.reduceEqDiff,Nat.reduceBEq,Nat.reduceMul,Nat.reduceSub,Int.reduceToNat,Int.reduceEq,Int.reduceNe,Int.reduceLT,Int.reduceLE,Int.reduceBEq,Int.reduceAdd,Int.reduceSub,Int.reduceMul,hP,hW]
    try simp only [evRo, ev,evA,true_and,and_true,and_self,if_true,if_false,reduceIte,ne_eq,forall_const,false_implies,beq_self_eq_true,decide_true,decide_false,Int.cast_ofNat_Int,Nat.reduceAdd,Nat.reduceLT,Nat.reduceLeDiff,Nat.reduceEqDiff,Nat.reduceBEq,Nat.reduceMul,Nat.reduceSub,Int.reduceToNat,Int.reduceEq,Int.reduceNe,Int.reduceLT,Int.reduceLE,Int.reduceBEq,Int.reduceAdd,Int.reduceSub,Int.reduceMul,hP,hW]
    exact ⟨_, rfl, b, rfl, hb, rfl⟩
  | some a =>
    cases b with
    | none =>
      refine Ct_R k_rope_Join 400 (.mk [.mk a.enc (.raw (.pointer none)) .junk .junk .junk .junk .junk .junk, .mk .junk .junk .junk .junk .junk .junk .junk .junk, .mk .junk .junk .junk .junk .junk .junk .junk .junk, .mk .junk .junk .junk .junk .junk .junk .junk .junk, .mk .junk .junk .junk .junk .junk .junk .junk .junk, .mk .junk .junk .junk .junk .junk .junk .junk .junk, .mk .junk .junk .junk .junk .junk .junk .junk .junk, .mk .junk .junk .junk .junk .junk .junk .junk .junk, .mk .junk .junk .junk .junk .junk .junk .junk .junk, .mk .junk .junk .junk .junk .junk .junk .junk .junk, .mk .junk .junk .junk .junk .junk .junk .junk .junk] [.junk, .junk, .junk, .junk, .junk, .junk, .junk]) rfl rfl fun r hP hW hpan hret => ?_
      simp only [c_rope_Join, ev,evA,true_and,and_true,and_self,if_true,if_false,reduceIte,ne_eq,forall_const,false_implies,beq_self_eq_true,decide_true,decide_false,Int.cast_ofNat_Int,Nat.reduceAdd,Nat.reduceLT,Nat.reduceLeDiff,Nat.reduceEqDiff,Nat.reduceBEq,Nat.reduceMul,Nat.reduceSub,Int.reduceToNat,Int.reduceEq,Int.reduceNe,Int.reduceLT,Int.reduceLE,Int.reduceBEq,Int.reduceAdd,Int.reduceSub,Int.reduceMul,hP,hW]
      try simp only [evRp, ev,evA,true_and,and_true,and_self,if_true,if_false,reduceIte,ne_eq,forall_const,false_implies,beq_self_eq_true,decide_true,decide_false,Int.cast_ofNat_Int,Nat.reduceAdd,Nat.reduceLT,Nat.reduceLeDiff,Nat.reduceEqDiff,Nat.reduceBEq,Nat.reduceMul,Nat.reduceSub,Int.reduceToNat,Int.reduceEq,Int.reduceNe,Int.reduceLT,Int.reduceLE,Int.reduceBEq,Int.reduceAdd,Int.reduceSub,Int.reduceMul,hP,hW]
      refine hret _ _ S.length 5 ?_
      simp only [r_rope_Join, ev,evA,true_and,and_true,and_self,if_true,if_false,reduceIte,ne_eq,forall_const,false_implies,beq_self_eq_true,decide_true,decide_false,Int.cast_ofNat_Int,Nat.reduceAdd,Nat.reduceLT,Nat.reduceLeDiff,Nat.reduceEqDiff,Nat.reduceBEq,Nat.reduceMul,Nat.reduceSub,Int.reduceToNat,Int.reduceEq,Int.reduceNe,Int.reduceLT,Int.reduceLE,Int.reduceBEq,Int.reduceAdd,Int.reduceSub,Int.reduceMul,hP,hW]
      try simp only [evRp, ev,evA,true_and,and_true,and_self,if_true,if_false,reduceIte,ne_eq,forall_const,false_implies,beq_self_eq_true,decide_true,decide_false,Int.cast_ofNat_Int,Nat.reduceAdd,Nat.reduceLT,Nat.reduceLeDiff,Nat.reduceEqDiff,Nat.reduceBEq,Nat.reduceMul,Nat.reduceSub,Int.reduceToNat,Int.reduceEq,Int.reduceNe,Int.reduceLT,Int.reduceLE,Int.reduceBEq,Int.reduceAdd,Int.reduceSub,Int.reduceMul,hP,hW]
      exact ⟨_, rfl, some a, rfl, ha, by simp [lsO]⟩
    | some b =>
      exact (t_JoinN hm W0 _ S a b (Nat.le_refl _) ha hb hbig).mono fun d ⟨c, h1, h2, h3⟩ => ⟨some c, h1, h2, h3⟩

theorem joinQ (a b : Option Rp) (ha : OkO a) (hb : OkO b) : ∃ d, ∃ c : Option Rp, d = encO c ∧ OkO c ∧ lsO c = lsO a ++ lsO b := by
  obtain ⟨c, h1, h2⟩ := joinW a b ha hb; exact ⟨_, c, rfl, h1, h2⟩

theorem t_Len (W0 : World) (S : List SO) (r : Option Rp) : CtP Tryd.prog W0 n_rope_Rope_Len [encO r] S (fun d => d = .raw (.int .i64 (lsO r).length)) := by
  cases r with
  | none =>
    refine Ct_R k_rope_Rope_Len 400 (.mk [.mk (.raw (.pointer none)) .junk .junk .junk .junk .junk .junk .junk] [.junk]) rfl rfl fun r hP hW hpan hret => ?_
    simp only [c_rope_Rope_Len, ev,evA,true_and,and_true,and_self,if_true,if_false,reduceIte,ne_eq,forall_const,false_implies,beq_self_eq_true,decide_true,decide_false,Int.cast_ofNat_Int,Nat.reduceAdd,Nat.reduceLT,Nat.reduceLeDiff,Nat.reduceEqDiff,Nat.reduceBEq,Nat.reduceMul,Nat.reduceSub,Int.reduceToNat,Int.reduceEq,Int.reduceNe,Int.reduceLT,Int.reduceLE,Int.reduceBEq,Int.reduceAdd,Int.reduceSub,Int.reduceMul,hP,hW]
    refine hret _ _ S.length 5 ?_
    simp only [r_rope_Rope_Len, ev,evA,true_and,and_true,and_self,if_true,if_false,reduceIte,ne_eq,forall_const,false_implies,beq_self_eq_true,decide_true,decide_false,Int.cast_ofNat_Int,Nat.reduceAdd,Nat.reduceLT,Nat.reduceLeDiff,Nat.reduceEqDiff,Nat.reduceBEq,Nat.reduceMul,Nat.reduceSub,Int.reduceToNat,Int.reduceEq,Int.reduceNe,Int.reduceLT,Int.reduceLE,Int.reduceBEq,Int.reduceAdd,Int.reduceSub,Int.reduceMul,hP,hW]
    exact ⟨_, rfl, rfl⟩
  | some r =>
    refine Ct_R k_rope_Rope_Len 400 (.mk [.mk r.enc .junk .junk .junk .junk .junk .junk .junk] [.junk]) rfl rfl fun r hP hW hpan hret => ?_
    simp only [c_rope_Rope_Len, ev,evA,true_and,and_true,and_self,if_true,if_false,reduceIte,ne_eq,forall_const,false_implies,beq_self_eq_true,decide_true,decide_false,Int.cast_ofNat_Int,Nat.reduceAdd,Nat.reduceLT,Nat.reduceLeDiff,Nat.reduceEqDiff,Nat.reduceBEq,Nat.reduceMul,Nat.reduceSub,Int.reduceToNat,Int.reduceEq,Int.reduceNe,Int.reduceLT,Int.reduceLE,Int.reduceBEq,Int.reduceAdd,Int.reduceSub,Int.reduceMul,hP,hW]
    try simp only [evRp, ev,evA,true_and,and_true,and_self,if_true,if_false,reduceIte,ne_eq,forall_const,false_implies,beq_self_eq_true,decide_true,decide_false,Int.cast_ofNat_Int,Nat.reduceAdd,Nat.reduceLT,Nat.reduceLeDiff,Nat.reduceEqDiff,Nat.reduceBEq,Nat.reduceMul,Nat.reduceSub,Int.reduceToNat,Int.reduceEq,Int.reduceNe,Int.reduceLT,Int.reduceLE,Int.reduceBEq,Int.reduceAdd,Int.reduceSub,Int.reduceMul,hP,hW]
    refine hret _ _ S.length 5 ?_
    simp only [r_rope_Rope_Len, ev,evA,true_and,and_true,and_self,if_true,if_false,reduceIte,ne_eq,forall_const,false_implies,beq_self_eq_true,decide_true,decide_false,Int.cast_ofNat_Int,Nat.reduceAdd,Nat.reduceLT,Nat.reduceLeDiff,Nat.reduceEqDiff,Nat.reduceBEq,Nat.reduceMul,Nat.reduceSub,Int.reduceToNat,Int.reduceEq,Int.reduceNe,Int.reduceLT,Int.reduceLE,Int.reduceBEq,Int.reduceAdd,Int.reduceSub,Int.reduceMul,hP,hW]
    exact ⟨_, rfl, rfl⟩

theorem t_Bytes (W0 : World) (S : List SO) (r : Option Rp) : CtP Tryd.prog W0 n_rope_Rope_Bytes [encO r] S (fun d => d = .raw (.int .i64 (bytes (lsO r)))) := by
  cases r with
  | none =>
    refine Ct_R k_rope_Rope_Bytes 400 (.mk [.mk (.raw (.pointer none)) .junk .junk .junk .junk .junk .junk .junk] [.junk]) rfl rfl fun r hP hW hpan hret => ?_
    simp only [c_rope_Rope_Bytes, ev,evA,true_and,and_true,and_self,if_true,if_false,reduceIte,ne_eq,forall_const,false_implies,beq_self_eq_true,decide_true,decide_false,Int.cast_ofNat_Int,Nat.reduceAdd,Nat.reduceLT,Nat.reduceLeDiff,Nat.reduceEqDiff,Nat.reduceBEq,Nat.reduceMul,Nat.reduceSub,Int.reduceToNat,Int.reduceEq,Int.reduceNe,Int.reduceLT,Int.reduceLE,Int.reduceBEq,Int.reduceAdd,Int.reduceSub,Int.reduceMul,hP,hW]
    refine hret _ _ S.length 5 ?_
    simp only [r_rope_Rope_Bytes, ev,evA,true_and,and_true,and_self,if_true,if_false,reduceIte,ne_eq,forall_const,false_implies,beq_self_eq_true,decide_true,decide_false,Int.cast_ofNat_Int,Nat.reduceAdd,Nat.reduceLT,Nat.reduceLeDiff,Nat.reduceEqDiff,Nat.reduceBEq,Nat.reduceMul,Nat.reduceSub,Int.reduceToNat,Int.reduceEq,Int.reduceNe,Int.reduceLT,Int.reduceLE,Int.reduceBEq,Int.reduceAdd,Int.reduceSub,Int.reduceMul,hP,hW]
    exact ⟨_, rfl, rfl⟩
  | some r =>
    refine Ct_R k_rope_Rope_Bytes 400 (.mk [.mk r.enc .junk .junk .junk .junk .junk .junk .junk] [.junk]) rfl rfl fun r hP hW hpan hret => ?_
    simp only [c_rope_Rope_Bytes, ev,evA,true_and,and_true,and_self,if_true,if_false,reduceIte,ne_eq,forall_const,false_implies,beq_self_eq_true,decide_true,decide_false,Int.cast_ofNat_Int,Nat.reduceAdd,Nat.reduceLT,Nat.reduceLeDiff,Nat.reduceEqDiff,Nat.reduceBEq,Nat.reduceMul,Nat.reduceSub,Int.reduceToNat,Int.reduceEq,Int.reduceNe,Int.reduceLT,Int.reduceLE,Int.reduceBEq,Int.reduceAdd,Int.reduceSub,Int.reduceMul,hP,hW]
    try simp only [evRp, ev,evA,true_and,and_true,and_self,if_true,if_false,reduceIte,ne_eq,forall_const,false_implies,beq_self_eq_true,decide_true,decide_false,Int.cast_ofNat_Int,Nat.reduceAdd,Nat.reduceLT,Nat.reduceLeDiff,Nat.reduceEqDiff,Nat.reduceBEq,Nat.reduceMul,Nat.reduceSub,Int.reduceToNat,Int.reduceEq,Int.reduceNe,Int.reduceLT,Int.reduceLE,Int.reduceBEq,Int.reduceAdd,Int.reduceSub,Int.reduceMul,hP,hW]
    refine hret _ _ S.length 5 ?_
    simp only [r_rope_Rope_Bytes, ev,evA,true_and,and_true,and_self,if_true,if_false,reduceIte,ne_eq,forall_const,false_implies,beq_self_eq_true,decide_true,decide_false,Int.cast_ofNat_Int,Nat.reduceAdd,Nat.reduceLT,Nat.reduceLeDiff,Nat.reduceEqDiff,Nat.reduceBEq,Nat.reduceMul,Nat.reduceSub,Int.reduceToNat,Int.reduceEq,Int.reduceNe,Int.reduceLT,Int.reduceLE,Int.reduceBEq,Int.reduceAdd,Int.reduceSub,Int.reduceMul,hP,hW]
    exact ⟨_, rfl, rfl⟩

/-- The first letters, and the others. -/
def SplitQ (l : List ByteArray) (k : Nat) (d : DV) : Prop := ∃ a b : Option Rp, d = .tup [encO a, encO b] ∧ OkO a ∧ OkO b ∧ lsO a = l.take k ∧ lsO b = l.drop k

theorem bytes_take (l : List ByteArray) (k : Nat) : bytes (l.take k) ≤ bytes l := by
  have := bytes_append (l.take k) (l.drop k); rw [List.take_append_drop] at this; omega
theorem bytes_drop (l : List ByteArray) (k : Nat) : bytes (l.drop k) ≤ bytes l := by
  have := bytes_append (l.take k) (l.drop k); rw [List.take_append_drop] at this; omega

/-- There is a rope of any letters. -/
theorem ropeW {l : List ByteArray} (h : Ls l) : ∃ r : Option Rp, OkO r ∧ lsO r = l := by
  cases l with
  | nil => exact ⟨none, trivial, rfl⟩
  | cons x l => exact ⟨some (.leaf (x :: l)), ⟨h, by simp⟩, rfl⟩
theorem splitW {l : List ByteArray} (h : Ls l) (k : Nat) : ∃ d, SplitQ l k d := by
  obtain ⟨a, h1, h2⟩ := ropeW (h.take k)
  obtain ⟨b, h3, h4⟩ := ropeW (h.drop k)
  exact ⟨_, a, b, rfl, h1, h3, h2, h4⟩

theorem t_splitN (hm : Tryd.prog.follows .mixedOrders = true) (W0 : World) : ∀ (n : Nat) (x : Rp) (S : List SO) (at_ : Int), x.sz ≤ n → x.Ok → Big (bytes x.ls) → CtP Tryd.prog W0 n_rope_Rope_split [x.enc, .raw (.int .i64 at_)] S (SplitQ x.ls at_.toNat) := by
  intro n
  induction n with
  | zero => intro x S at_ h; cases x <;> simp [Rp.sz] at h
  | succ n ih =>
    intro x S at_ hn hr hbig
    have hl := hr.len_le
    have hlt := hr.ht_lt
    have hbig' := hbig
    unfold Big at hbig'
    refine Ct_R k_rope_Rope_split 400 (.mk [.mk x.enc (.raw (.int .i64 at_)) .junk .junk .junk .junk .junk .junk, .mk .junk .junk .junk .junk .junk .junk .junk .junk, .mk .junk .junk .junk .junk .junk .junk .junk .junk, .mk .junk .junk .junk .junk .junk .junk .junk .junk, .mk .junk .junk .junk .junk .junk .junk .junk .junk, .mk .junk .junk .junk .junk .junk .junk .junk .junk, .mk .junk .junk .junk .junk .junk .junk .junk .junk, .mk .junk .junk .junk .junk .junk .junk .junk .junk, .mk .junk .junk .junk .junk .junk .junk .junk .junk, .mk .junk .junk .junk .junk .junk .junk .junk .junk, .mk .junk .junk .junk .junk .junk .junk .junk .junk, .mk .junk .junk .junk .junk .junk .junk .junk .junk] [.junk, .junk, .junk, .junk, .junk, .junk, .junk]) rfl rfl fun r hP hW hpan hret => ?_
    simp only [c_rope_Rope_split, ev,evA,true_and,and_true,and_self,if_true,if_false,reduceIte,ne_eq,forall_const,false_implies,beq_self_eq_true,decide_true,decide_false,Int.cast_ofNat_Int,Nat.reduceAdd,Nat.reduceLT,Nat.reduceLeDiff,Nat.reduceEqDiff,Nat.reduceBEq,Nat.reduceMul,Nat.reduceSub,Int.reduceToNat,Int.reduceEq,Int.reduceNe,Int.reduceLT,Int.reduceLE,Int.reduceBEq,Int.reduceAdd,Int.reduceSub,Int.reduceMul,hP,hW]
    by_cases h1 : at_ ≤ 0
    · try simp only [evRp, hm, decide_eq_true h1, ev,evA,true_and,and_true,and_self,if_true,if_false,reduceIte,ne_eq,forall_const,false_implies,beq_self_eq_true,decide_true,decide_false,Int.cast_ofNat_Int,Nat.reduceAdd,Nat.reduceLT,Nat.reduceLeDiff,Nat.reduceEqDiff,Nat.reduceBEq,Nat.reduceMul,Nat.reduceSub,Int.reduceToNat,Int.reduceEq,Int.reduceNe,Int.reduceLT,Int.reduceLE,Int.reduceBEq,Int.reduceAdd,Int.reduceSub,Int.reduceMul,hP,hW]
      refine hret _ _ S.length 5 ?_
      simp only [r_rope_Rope_split, ev,evA,true_and,and_true,and_self,if_true,if_false,reduceIte,ne_eq,forall_const,false_implies,beq_self_eq_true,decide_true,decide_false,Int.cast_ofNat_Int,Nat.reduceAdd,Nat.reduceLT,Nat.reduceLeDiff,Nat.reduceEqDiff,Nat.reduceBEq,Nat.reduceMul,Nat.reduceSub,Int.reduceToNat,Int.reduceEq,Int.reduceNe,Int.reduceLT,Int.reduceLE,Int.reduceBEq,Int.reduceAdd,Int.reduceSub,Int.reduceMul,hP,hW]
      try simp only [evRp, ev,evA,true_and,and_true,and_self,if_true,if_false,reduceIte,ne_eq,forall_const,false_implies,beq_self_eq_true,decide_true,decide_false,Int.cast_ofNat_Int,Nat.reduceAdd,Nat.reduceLT,Nat.reduceLeDiff,Nat.reduceEqDiff,Nat.reduceBEq,Nat.reduceMul,Nat.reduceSub,Int.reduceToNat,Int.reduceEq,Int.reduceNe,Int.reduceLT,Int.reduceLE,Int.reduceBEq,Int.reduceAdd,Int.reduceSub,Int.reduceMul,hP,hW]
      refine ⟨_, rfl, none, some x, rfl, trivial, hr, ?_, ?_⟩
      · rw [show at_.toNat = 0 by omega]; rfl
      · rw [show at_.toNat = 0 by omega]; rfl
    · by_cases h2 : (x.ls.length : Int) ≤ at_
      · try simp only [evRp, hm, decide_eq_false h1, decide_eq_true h2, ev,evA,true_and,and_true,and_self,if_true,if_false,reduceIte,ne_eq,forall_const,false_implies,beq_self_eq_true,decide_true,decide_false,Int.cast_ofNat_Int,Nat.reduceAdd,Nat.reduceLT,Nat.reduceLeDiff,Nat.reduceEqDiff,Nat.reduceBEq,Nat.reduceMul,Nat.reduceSub,Int.reduceToNat,Int.reduceEq,Int.reduceNe,Int.reduceLT,Int.reduceLE,Int.reduceBEq,Int.reduceAdd,Int.reduceSub,Int.reduceMul,hP,hW]
        refine hret _ _ S.length 5 ?_
        simp only [r_rope_Rope_split, ev,evA,true_and,and_true,and_self,if_true,if_false,reduceIte,ne_eq,forall_const,false_implies,beq_self_eq_true,decide_true,decide_false,Int.cast_ofNat_Int,Nat.reduceAdd,Nat.reduceLT,Nat.reduceLeDiff,Nat.reduceEqDiff,Nat.reduceBEq,Nat.reduceMul,Nat.reduceSub,Int.reduceToNat,Int.reduceEq,Int.reduceNe,Int.reduceLT,Int.reduceLE,Int.reduceBEq,Int.reduceAdd,Int.reduceSub,Int.reduceMul,hP,hW]
        try simp only [evRp, ev,evA,true_and,and_true,and_self,if_true,if_false,reduceIte,ne_eq,forall_const,false_implies,beq_self_eq_true,decide_true,decide_false,Int.cast_ofNat_Int,Nat.reduceAdd,Nat.reduceLT,Nat.reduceLeDiff,Nat.reduceEqDiff,Nat.reduceBEq,Nat.reduceMul,Nat.reduceSub,Int.reduceToNat,Int.reduceEq,Int.reduceNe,Int.reduceLT,Int.reduceLE,Int.reduceBEq,Int.reduceAdd,Int.reduceSub,Int.reduceMul,hP,hW]
        refine ⟨_, rfl, some x, none, rfl, hr, trivial, ?_, ?_⟩
        · rw [List.take_of_length_le (by omega)]; rfl
        · rw [List.drop_eq_nil_of_le (by omega)]; rfl
      · cases x with
        | leaf l =>
          simp only [Rp.ls] at h2
          have e0 : (((Rp.leaf l).ht : Int) == 0) = true := rfl
          have hle := off_le l at_.toNat
          have e1 : ((0 : Int) ≤ (off l at_.toNat : Int)) = True := by simp
          have e2 : ((off l at_.toNat : Int) ≤ ((cat l).size : Int)) = True := by simp; exact hle
          try simp only [evRp, hm, Rp.ls, decide_eq_false h1, decide_eq_false h2, e0, ev,evA,true_and,and_true,and_self,if_true,if_false,reduceIte,ne_eq,forall_const,false_implies,beq_self_eq_true,decide_true,decide_false,Int.cast_ofNat_Int,Nat.reduceAdd,Nat.reduceLT,Nat.reduceLeDiff,Nat.reduceEqDiff,Nat.reduceBEq,Nat.reduceMul,Nat.reduceSub,Int.reduceToNat,Int.reduceEq,Int.reduceNe,Int.reduceLT,Int.reduceLE,Int.reduceBEq,Int.reduceAdd,Int.reduceSub,Int.reduceMul,hP,hW]
          refine callE _ (fun S2 => t_Byte W0 S2 hr.1 hbig at_) (by try simp only [ev,evA,true_and,and_true,and_self,if_true,if_false,reduceIte,ne_eq,forall_const,false_implies,beq_self_eq_true,decide_true,decide_false,Int.cast_ofNat_Int,Nat.reduceAdd,Nat.reduceLT,Nat.reduceLeDiff,Nat.reduceEqDiff,Nat.reduceBEq,Nat.reduceMul,Nat.reduceSub,Int.reduceToNat,Int.reduceEq,Int.reduceNe,Int.reduceLT,Int.reduceLE,Int.reduceBEq,Int.reduceAdd,Int.reduceSub,Int.reduceMul,hP,hW]) ?_
          try simp only [hm, evRp, e1, e2, Int.toNat_natCast, Int.toNat_zero, extract_to, extract_from, Int.le_refl, ev,evA,true_and,and_true,and_self,if_true,if_false,reduceIte,ne_eq,forall_const,false_implies,beq_self_eq_true,decide_true,decide_false,Int.cast_ofNat_Int,Nat.reduceAdd,Nat.reduceLT,Nat.reduceLeDiff,Nat.reduceEqDiff,Nat.reduceBEq,Nat.reduceMul,Nat.reduceSub,Int.reduceToNat,Int.reduceEq,Int.reduceNe,Int.reduceLT,Int.reduceLE,Int.reduceBEq,Int.reduceAdd,Int.reduceSub,Int.reduceMul,hP,hW]
          have h4 : at_.toNat < l.length := by omega
          refine callE _ (fun S2 => t_leaf W0 S2 (hr.1.take at_.toNat) (by have := bytes_take l at_.toNat; unfold Big at *; simp only [Rp.ls] at hbig; omega)) (by try simp only [ev,evA,true_and,and_true,and_self,if_true,if_false,reduceIte,ne_eq,forall_const,false_implies,beq_self_eq_true,decide_true,decide_false,Int.cast_ofNat_Int,Nat.reduceAdd,Nat.reduceLT,Nat.reduceLeDiff,Nat.reduceEqDiff,Nat.reduceBEq,Nat.reduceMul,Nat.reduceSub,Int.reduceToNat,Int.reduceEq,Int.reduceNe,Int.reduceLT,Int.reduceLE,Int.reduceBEq,Int.reduceAdd,Int.reduceSub,Int.reduceMul,hP,hW]) ?_
          try simp only [hm, evRp, e1, e2, Int.toNat_natCast, Int.toNat_zero, extract_to, extract_from, Int.le_refl, ev,evA,true_and,and_true,and_self,if_true,if_false,reduceIte,ne_eq,forall_const,false_implies,beq_self_eq_true,decide_true,decide_false,Int.cast_ofNat_Int,Nat.reduceAdd,Nat.reduceLT,Nat.reduceLeDiff,Nat.reduceEqDiff,Nat.reduceBEq,Nat.reduceMul,Nat.reduceSub,Int.reduceToNat,Int.reduceEq,Int.reduceNe,Int.reduceLT,Int.reduceLE,Int.reduceBEq,Int.reduceAdd,Int.reduceSub,Int.reduceMul,hP,hW]
          refine callE _ (fun S2 => t_leaf W0 S2 (hr.1.drop at_.toNat) (by have := bytes_drop l at_.toNat; unfold Big at *; simp only [Rp.ls] at hbig; omega)) (by try simp only [ev,evA,true_and,and_true,and_self,if_true,if_false,reduceIte,ne_eq,forall_const,false_implies,beq_self_eq_true,decide_true,decide_false,Int.cast_ofNat_Int,Nat.reduceAdd,Nat.reduceLT,Nat.reduceLeDiff,Nat.reduceEqDiff,Nat.reduceBEq,Nat.reduceMul,Nat.reduceSub,Int.reduceToNat,Int.reduceEq,Int.reduceNe,Int.reduceLT,Int.reduceLE,Int.reduceBEq,Int.reduceAdd,Int.reduceSub,Int.reduceMul,hP,hW]) ?_
          try simp only [ev,evA,true_and,and_true,and_self,if_true,if_false,reduceIte,ne_eq,forall_const,false_implies,beq_self_eq_true,decide_true,decide_false,Int.cast_ofNat_Int,Nat.reduceAdd,Nat.reduceLT,Nat.reduceLeDiff,Nat.reduceEqDiff,Nat.reduceBEq,Nat.reduceMul,Nat.reduceSub,Int.reduceToNat,Int.reduceEq,Int.reduceNe,Int.reduceLT,Int.reduceLE,Int.reduceBEq,Int.reduceAdd,Int.reduceSub,Int.reduceMul,hP,hW]
          refine hret _ _ S.length 5 ?_
          simp only [r_rope_Rope_split, ev,evA,true_and,and_true,and_self,if_true,if_false,reduceIte,ne_eq,forall_const,false_implies,beq_self_eq_true,decide_true,decide_false,Int.cast_ofNat_Int,Nat.reduceAdd,Nat.reduceLT,Nat.reduceLeDiff,Nat.reduceEqDiff,Nat.reduceBEq,Nat.reduceMul,Nat.reduceSub,Int.reduceToNat,Int.reduceEq,Int.reduceNe,Int.reduceLT,Int.reduceLE,Int.reduceBEq,Int.reduceAdd,Int.reduceSub,Int.reduceMul,hP,hW]
          try simp only [evRp, ev,evA,true_and,and_true,and_self,if_true,if_false,reduceIte,ne_eq,forall_const,false_implies,beq_self_eq_true,decide_true,decide_false,Int.cast_ofNat_Int,Nat.reduceAdd,Nat.reduceLT,Nat.reduceLeDiff,Nat.reduceEqDiff,Nat.reduceBEq,Nat.reduceMul,Nat.reduceSub,Int.reduceToNat,Int.reduceEq,Int.reduceNe,Int.reduceLT,Int.reduceLE,Int.reduceBEq,Int.reduceAdd,Int.reduceSub,Int.reduceMul,hP,hW]
          refine ⟨_, rfl, some (.leaf (l.take at_.toNat)), some (.leaf (l.drop at_.toNat)), rfl, ⟨hr.1.take _, ?_⟩, ⟨hr.1.drop _, ?_⟩, rfl, rfl⟩
          · intro e; have := congrArg List.length e; simp at this; rcases this with h | h
            · omega
            · exact hr.2 h
          · intro e; have := congrArg List.length e; simp at this; omega
        | node a b =>
          have e0 : (((Rp.node a b).ht : Int) == 0) = false := by simp [Rp.ht]; omega
          have w0 : ((Rp.node a b).ls.length : Int) = (a.ls.length : Int) + (b.ls.length : Int) := by simp [Rp.ls]
          rw [w0] at h2
          simp only [Rp.ls, List.length_append, Rp.sz, bytes_append] at hl hn hbig'
          by_cases h3 : at_ < (a.ls.length : Int)
          · try simp only [evRp, hm, decide_eq_false h1, w0, decide_eq_false h2, e0, decide_eq_true h3, ev,evA,true_and,and_true,and_self,if_true,if_false,reduceIte,ne_eq,forall_const,false_implies,beq_self_eq_true,decide_true,decide_false,Int.cast_ofNat_Int,Nat.reduceAdd,Nat.reduceLT,Nat.reduceLeDiff,Nat.reduceEqDiff,Nat.reduceBEq,Nat.reduceMul,Nat.reduceSub,Int.reduceToNat,Int.reduceEq,Int.reduceNe,Int.reduceLT,Int.reduceLE,Int.reduceBEq,Int.reduceAdd,Int.reduceSub,Int.reduceMul,hP,hW]
            refine callQ _ (fun S2 => ih a S2 at_ (by omega) hr.1 (by unfold Big; omega)) (splitW hr.1.Ls _) (by try simp only [ev,evA,true_and,and_true,and_self,if_true,if_false,reduceIte,ne_eq,forall_const,false_implies,beq_self_eq_true,decide_true,decide_false,Int.cast_ofNat_Int,Nat.reduceAdd,Nat.reduceLT,Nat.reduceLeDiff,Nat.reduceEqDiff,Nat.reduceBEq,Nat.reduceMul,Nat.reduceSub,Int.reduceToNat,Int.reduceEq,Int.reduceNe,Int.reduceLT,Int.reduceLE,Int.reduceBEq,Int.reduceAdd,Int.reduceSub,Int.reduceMul,hP,hW]) ?_
            rintro d ⟨p, q, rfl, hp, hq, hpl, hql⟩
            try simp only [evRp, hm, ev,evA,true_and,and_true,and_self,if_true,if_false,reduceIte,ne_eq,forall_const,false_implies,beq_self_eq_true,decide_true,decide_false,Int.cast_ofNat_Int,Nat.reduceAdd,Nat.reduceLT,Nat.reduceLeDiff,Nat.reduceEqDiff,Nat.reduceBEq,Nat.reduceMul,Nat.reduceSub,Int.reduceToNat,Int.reduceEq,Int.reduceNe,Int.reduceLT,Int.reduceLE,Int.reduceBEq,Int.reduceAdd,Int.reduceSub,Int.reduceMul,hP,hW]
            refine callQ _ (fun S2 => t_Join hm W0 S2 (b := some b) hq hr.2 ?_) (joinQ q (some b) hq hr.2) (by try simp only [ev,evA,true_and,and_true,and_self,if_true,if_false,reduceIte,ne_eq,forall_const,false_implies,beq_self_eq_true,decide_true,decide_false,Int.cast_ofNat_Int,Nat.reduceAdd,Nat.reduceLT,Nat.reduceLeDiff,Nat.reduceEqDiff,Nat.reduceBEq,Nat.reduceMul,Nat.reduceSub,Int.reduceToNat,Int.reduceEq,Int.reduceNe,Int.reduceLT,Int.reduceLE,Int.reduceBEq,Int.reduceAdd,Int.reduceSub,Int.reduceMul,hP,hW]) ?_
            · rw [hql]; have := bytes_drop a.ls at_.toNat; unfold Big; simp only [lsO]; omega
            rintro d ⟨c, rfl, hc, hcl⟩
            try simp only [ev,evA,true_and,and_true,and_self,if_true,if_false,reduceIte,ne_eq,forall_const,false_implies,beq_self_eq_true,decide_true,decide_false,Int.cast_ofNat_Int,Nat.reduceAdd,Nat.reduceLT,Nat.reduceLeDiff,Nat.reduceEqDiff,Nat.reduceBEq,Nat.reduceMul,Nat.reduceSub,Int.reduceToNat,Int.reduceEq,Int.reduceNe,Int.reduceLT,Int.reduceLE,Int.reduceBEq,Int.reduceAdd,Int.reduceSub,Int.reduceMul,hP,hW]
            refine hret _ _ S.length 5 ?_
            simp only [r_rope_Rope_split, ev,evA,true_and,and_true,and_self,if_true,if_false,reduceIte,ne_eq,forall_const,false_implies,beq_self_eq_true,decide_true,decide_false,Int.cast_ofNat_Int,Nat.reduceAdd,Nat.reduceLT,Nat.reduceLeDiff,Nat.reduceEqDiff,Nat.reduceBEq,Nat.reduceMul,Nat.reduceSub,Int.reduceToNat,Int.reduceEq,Int.reduceNe,Int.reduceLT,Int.reduceLE,Int.reduceBEq,Int.reduceAdd,Int.reduceSub,Int.reduceMul,hP,hW]
            try simp only [evRo, ev,evA,true_and,and_true,and_self,if_true,if_false,reduceIte,ne_eq,forall_const,false_implies,beq_self_eq_true,decide_true,decide_false,Int.cast_ofNat_Int,Nat.reduceAdd,Nat.reduceLT,Nat.reduceLeDiff,Nat.reduceEqDiff,Nat.reduceBEq,Nat.reduceMul,Nat.reduceSub,Int.reduceToNat,Int.reduceEq,Int.reduceNe,Int.reduceLT,Int.reduceLE,Int.reduceBEq,Int.reduceAdd,Int.reduceSub,Int.reduceMul,hP,hW]
            refine ⟨_, rfl, p, c, rfl, hp, hc, ?_, ?_⟩
            · rw [hpl, Rp.ls, List.take_append_of_le_length (by omega)]
            · rw [hcl, hql, Rp.ls, List.drop_append_of_le_length (by omega)]; rfl
          · have w1 : IntKind.i64.wrap (at_ - (a.ls.length : Int)) = at_ - (a.ls.length : Int) := wrap_id (by omega) (by omega)
            try simp only [evRp, hm, decide_eq_false h1, w0, decide_eq_false h2, e0, decide_eq_false h3, w1, ev,evA,true_and,and_true,and_self,if_true,if_false,reduceIte,ne_eq,forall_const,false_implies,beq_self_eq_true,decide_true,decide_false,Int.cast_ofNat_Int,Nat.reduceAdd,Nat.reduceLT,Nat.reduceLeDiff,Nat.reduceEqDiff,Nat.reduceBEq,Nat.reduceMul,Nat.reduceSub,Int.reduceToNat,Int.reduceEq,Int.reduceNe,Int.reduceLT,Int.reduceLE,Int.reduceBEq,Int.reduceAdd,Int.reduceSub,Int.reduceMul,hP,hW]
            refine callQ _ (fun S2 => ih b S2 (at_ - (a.ls.length : Int)) (by omega) hr.2 (by unfold Big; omega)) (splitW hr.2.Ls _) (by try simp only [ev,evA,true_and,and_true,and_self,if_true,if_false,reduceIte,ne_eq,forall_const,false_implies,beq_self_eq_true,decide_true,decide_false,Int.cast_ofNat_Int,Nat.reduceAdd,Nat.reduceLT,Nat.reduceLeDiff,Nat.reduceEqDiff,Nat.reduceBEq,Nat.reduceMul,Nat.reduceSub,Int.reduceToNat,Int.reduceEq,Int.reduceNe,Int.reduceLT,Int.reduceLE,Int.reduceBEq,Int.reduceAdd,Int.reduceSub,Int.reduceMul,hP,hW]) ?_
            rintro d ⟨p, q, rfl, hp, hq, hpl, hql⟩
            try simp only [evRp, hm, ev,evA,true_and,and_true,and_self,if_true,if_false,reduceIte,ne_eq,forall_const,false_implies,beq_self_eq_true,decide_true,decide_false,Int.cast_ofNat_Int,Nat.reduceAdd,Nat.reduceLT,Nat.reduceLeDiff,Nat.reduceEqDiff,Nat.reduceBEq,Nat.reduceMul,Nat.reduceSub,Int.reduceToNat,Int.reduceEq,Int.reduceNe,Int.reduceLT,Int.reduceLE,Int.reduceBEq,Int.reduceAdd,Int.reduceSub,Int.reduceMul,hP,hW]
            refine callQ _ (fun S2 => t_Join hm W0 S2 (a := some a) hr.1 hp ?_) (joinQ (some a) p hr.1 hp) (by try simp only [ev,evA,true_and,and_true,and_self,if_true,if_false,reduceIte,ne_eq,forall_const,false_implies,beq_self_eq_true,decide_true,decide_false,Int.cast_ofNat_Int,Nat.reduceAdd,Nat.reduceLT,Nat.reduceLeDiff,Nat.reduceEqDiff,Nat.reduceBEq,Nat.reduceMul,Nat.reduceSub,Int.reduceToNat,Int.reduceEq,Int.reduceNe,Int.reduceLT,Int.reduceLE,Int.reduceBEq,Int.reduceAdd,Int.reduceSub,Int.reduceMul,hP,hW]) ?_
            · rw [hpl]; have := bytes_take b.ls (at_ - (a.ls.length : Int)).toNat; unfold Big; simp only [lsO]; omega
            rintro d ⟨c, rfl, hc, hcl⟩
            try simp only [ev,evA,true_and,and_true,and_self,if_true,if_false,reduceIte,ne_eq,forall_const,false_implies,beq_self_eq_true,decide_true,decide_false,Int.cast_ofNat_Int,Nat.reduceAdd,Nat.reduceLT,Nat.reduceLeDiff,Nat.reduceEqDiff,Nat.reduceBEq,Nat.reduceMul,Nat.reduceSub,Int.reduceToNat,Int.reduceEq,Int.reduceNe,Int.reduceLT,Int.reduceLE,Int.reduceBEq,Int.reduceAdd,Int.reduceSub,Int.reduceMul,hP,hW]
            refine hret _ _ S.length 5 ?_
            simp only [r_rope_Rope_split, ev,evA,true_and,and_true,and_self,if_true,if_false,reduceIte,ne_eq,forall_const,false_implies,beq_self_eq_true,decide_true,decide_false,Int.cast_ofNat_Int,Nat.reduceAdd,Nat.reduceLT,Nat.reduceLeDiff,Nat.reduceEqDiff,Nat.reduceBEq,Nat.reduceMul,Nat.reduceSub,Int.reduceToNat,Int.reduceEq,Int.reduceNe,Int.reduceLT,Int.reduceLE,Int.reduceBEq,Int.reduceAdd,Int.reduceSub,Int.reduceMul,hP,hW]
            try simp only [evRo, ev,evA,true_and,and_true,and_self,if_true,if_false,reduceIte,ne_eq,forall_const,false_implies,beq_self_eq_true,decide_true,decide_false,Int.cast_ofNat_Int,Nat.reduceAdd,Nat.reduceLT,Nat.reduceLeDiff,Nat.reduceEqDiff,Nat.reduceBEq,Nat.reduceMul,Nat.reduceSub,Int.reduceToNat,Int.reduceEq,Int.reduceNe,Int.reduceLT,Int.reduceLE,Int.reduceBEq,Int.reduceAdd,Int.reduceSub,Int.reduceMul,hP,hW]
            have e5 : at_.toNat = a.ls.length + (at_ - (a.ls.length : Int)).toNat := by omega
            refine ⟨_, rfl, c, q, rfl, hc, hq, ?_, ?_⟩
            · rw [hcl, hpl, Rp.ls, e5, List.take_length_add_append]; rfl
            · rw [hql, Rp.ls, e5, List.drop_length_add_append]
end Go.Dv
/-
  Ropes: Cut, Put, Drop.
-/
namespace Go.Dv
open Go Go.RowKit Go.Proofs
set_option linter.unusedSimpArgs false
set_option linter.unusedVariables false
set_option maxRecDepth 8000

theorem t_split (hm : Tryd.prog.follows .mixedOrders = true) (W0 : World) (S : List SO) {x : Option Rp} (at_ : Int) (hx : OkO x) (hbig : Big (bytes (lsO x))) : CtP Tryd.prog W0 n_rope_Rope_split [encO x, .raw (.int .i64 at_)] S (SplitQ (lsO x) at_.toNat) := by
  cases x with
  | some x => exact t_splitN hm W0 _ x S at_ (Nat.le_refl _) hx hbig
  | none =>
    refine Ct_R k_rope_Rope_split 400 (.mk [.mk (.raw (.pointer none)) (.raw (.int .i64 at_)) .junk .junk .junk .junk .junk .junk, .mk .junk .junk .junk .junk .junk .junk .junk .junk, .mk .junk .junk .junk .junk .junk .junk .junk .junk, .mk .junk .junk .junk .junk .junk .junk .junk .junk, .mk .junk .junk .junk .junk .junk .junk .junk .junk, .mk .junk .junk .junk .junk .junk .junk .junk .junk, .mk .junk .junk .junk .junk .junk .junk .junk .junk, .mk .junk .junk .junk .junk .junk .junk .junk .junk, .mk .junk .junk .junk .junk .junk .junk .junk .junk, .mk .junk .junk .junk .junk .junk .junk .junk .junk, .mk .junk .junk .junk .junk .junk .junk .junk .junk, .mk .junk .junk .junk .junk .junk .junk .junk .junk] [.junk, .junk, .junk, .junk, .junk, .junk, .junk]) rfl rfl fun r hP hW hpan hret => ?_
    simp only [c_rope_Rope_split, ev,evA,true_and,and_true,and_self,if_true,if_false,reduceIte,ne_eq,forall_const,false_implies,beq_self_eq_true,decide_true,decide_false,Int.cast_ofNat_Int,Nat.reduceAdd,Nat.reduceLT,Nat.reduceLeDiff,Nat.reduceEqDiff,Nat.reduceBEq,Nat.reduceMul,Nat.reduceSub,Int.reduceToNat,Int.reduceEq,Int.reduceNe,Int.reduceLT,Int.reduceLE,Int.reduceBEq,Int.reduceAdd,Int.reduceSub,Int.reduceMul,hP,hW]
    refine hret _ _ S.length 5 ?_
    simp only [r_rope_Rope_split, ev,evA,true_and,and_true,and_self,if_true,if_false,reduceIte,ne_eq,forall_const,false_implies,beq_self_eq_true,decide_true,decide_false,Int.cast_ofNat_Int,Nat.reduceAdd,Nat.reduceLT,Nat.reduceLeDiff,Nat.reduceEqDiff,Nat.reduceBEq,Nat.reduceMul,Nat.reduceSub,Int.reduceToNat,Int.reduceEq,Int.reduceNe,Int.reduceLT,Int.reduceLE,Int.reduceBEq,Int.reduceAdd,Int.reduceSub,Int.reduceMul,hP,hW]
    exact ⟨_, rfl, none, none, rfl, trivial, trivial, by simp [lsO], by simp [lsO]⟩

/-- A rope of these letters. -/
def RopeQ (l : List ByteArray) (d : DV) : Prop := ∃ c : Option Rp, d = encO c ∧ OkO c ∧ lsO c = l
theorem ropeQ {l : List ByteArray} (h : Ls l) : ∃ d, RopeQ l d := by obtain ⟨c, h1, h2⟩ := ropeW h; exact ⟨_, c, rfl, h1, h2⟩

theorem t_Cut (hm : Tryd.prog.follows .mixedOrders = true) (W0 : World) (S : List SO) {x : Option Rp} (fr to : Int) (hx : OkO x) (hbig : Big (bytes (lsO x))) :
    CtP Tryd.prog W0 n_rope_Rope_Cut [encO x, .raw (.int .i64 fr), .raw (.int .i64 to)] S (RopeQ (((lsO x).take to.toNat).drop fr.toNat)) := by
  have e0 : max fr 0 = (fr.toNat : Int) := by omega
  refine Ct_R k_rope_Rope_Cut 400 (.mk [.mk (encO x) (.raw (.int .i64 fr)) (.raw (.int .i64 to)) .junk .junk .junk .junk .junk, .mk .junk .junk .junk .junk .junk .junk .junk .junk, .mk .junk .junk .junk .junk .junk .junk .junk .junk] [.junk, .junk, .junk, .junk, .junk]) rfl rfl fun r hP hW hpan hret => ?_
  simp only [c_rope_Rope_Cut, ev,evA,true_and,and_true,and_self,if_true,if_false,reduceIte,ne_eq,forall_const,false_implies,beq_self_eq_true,decide_true,decide_false,Int.cast_ofNat_Int,Nat.reduceAdd,Nat.reduceLT,Nat.reduceLeDiff,Nat.reduceEqDiff,Nat.reduceBEq,Nat.reduceMul,Nat.reduceSub,Int.reduceToNat,Int.reduceEq,Int.reduceNe,Int.reduceLT,Int.reduceLE,Int.reduceBEq,Int.reduceAdd,Int.reduceSub,Int.reduceMul,hP,hW]
  try simp only [e0, ev,evA,true_and,and_true,and_self,if_true,if_false,reduceIte,ne_eq,forall_const,false_implies,beq_self_eq_true,decide_true,decide_false,Int.cast_ofNat_Int,Nat.reduceAdd,Nat.reduceLT,Nat.reduceLeDiff,Nat.reduceEqDiff,Nat.reduceBEq,Nat.reduceMul,Nat.reduceSub,Int.reduceToNat,Int.reduceEq,Int.reduceNe,Int.reduceLT,Int.reduceLE,Int.reduceBEq,Int.reduceAdd,Int.reduceSub,Int.reduceMul,hP,hW]
  refine Gc_dec (fun hc => ?_) (fun hc => ?_)
  · try simp only [ev,evA,true_and,and_true,and_self,if_true,if_false,reduceIte,ne_eq,forall_const,false_implies,beq_self_eq_true,decide_true,decide_false,Int.cast_ofNat_Int,Nat.reduceAdd,Nat.reduceLT,Nat.reduceLeDiff,Nat.reduceEqDiff,Nat.reduceBEq,Nat.reduceMul,Nat.reduceSub,Int.reduceToNat,Int.reduceEq,Int.reduceNe,Int.reduceLT,Int.reduceLE,Int.reduceBEq,Int.reduceAdd,Int.reduceSub,Int.reduceMul,hP,hW]
    refine hret _ _ S.length 5 ?_
    simp only [r_rope_Rope_Cut, ev,evA,true_and,and_true,and_self,if_true,if_false,reduceIte,ne_eq,forall_const,false_implies,beq_self_eq_true,decide_true,decide_false,Int.cast_ofNat_Int,Nat.reduceAdd,Nat.reduceLT,Nat.reduceLeDiff,Nat.reduceEqDiff,Nat.reduceBEq,Nat.reduceMul,Nat.reduceSub,Int.reduceToNat,Int.reduceEq,Int.reduceNe,Int.reduceLT,Int.reduceLE,Int.reduceBEq,Int.reduceAdd,Int.reduceSub,Int.reduceMul,hP,hW]
    refine ⟨_, rfl, none, rfl, trivial, ?_⟩
    rw [List.drop_eq_nil_of_le (by simp; omega)]; rfl
  · try simp only [ev,evA,true_and,and_true,and_self,if_true,if_false,reduceIte,ne_eq,forall_const,false_implies,beq_self_eq_true,decide_true,decide_false,Int.cast_ofNat_Int,Nat.reduceAdd,Nat.reduceLT,Nat.reduceLeDiff,Nat.reduceEqDiff,Nat.reduceBEq,Nat.reduceMul,Nat.reduceSub,Int.reduceToNat,Int.reduceEq,Int.reduceNe,Int.reduceLT,Int.reduceLE,Int.reduceBEq,Int.reduceAdd,Int.reduceSub,Int.reduceMul,hP,hW]
    refine callQ _ (fun S2 => t_split hm W0 S2 to hx hbig) (splitW hx.Ls _) (by try simp only [ev,evA,true_and,and_true,and_self,if_true,if_false,reduceIte,ne_eq,forall_const,false_implies,beq_self_eq_true,decide_true,decide_false,Int.cast_ofNat_Int,Nat.reduceAdd,Nat.reduceLT,Nat.reduceLeDiff,Nat.reduceEqDiff,Nat.reduceBEq,Nat.reduceMul,Nat.reduceSub,Int.reduceToNat,Int.reduceEq,Int.reduceNe,Int.reduceLT,Int.reduceLE,Int.reduceBEq,Int.reduceAdd,Int.reduceSub,Int.reduceMul,hP,hW]) ?_
    rintro d ⟨p, q, rfl, hp, hq, hpl, hql⟩
    try simp only [ev,evA,true_and,and_true,and_self,if_true,if_false,reduceIte,ne_eq,forall_const,false_implies,beq_self_eq_true,decide_true,decide_false,Int.cast_ofNat_Int,Nat.reduceAdd,Nat.reduceLT,Nat.reduceLeDiff,Nat.reduceEqDiff,Nat.reduceBEq,Nat.reduceMul,Nat.reduceSub,Int.reduceToNat,Int.reduceEq,Int.reduceNe,Int.reduceLT,Int.reduceLE,Int.reduceBEq,Int.reduceAdd,Int.reduceSub,Int.reduceMul,hP,hW]
    refine callQ _ (fun S2 => t_split hm W0 S2 (fr.toNat : Int) hp (by rw [hpl]; have := bytes_take (lsO x) to.toNat; unfold Big at *; omega)) (splitW hp.Ls _) (by try simp only [ev,evA,true_and,and_true,and_self,if_true,if_false,reduceIte,ne_eq,forall_const,false_implies,beq_self_eq_true,decide_true,decide_false,Int.cast_ofNat_Int,Nat.reduceAdd,Nat.reduceLT,Nat.reduceLeDiff,Nat.reduceEqDiff,Nat.reduceBEq,Nat.reduceMul,Nat.reduceSub,Int.reduceToNat,Int.reduceEq,Int.reduceNe,Int.reduceLT,Int.reduceLE,Int.reduceBEq,Int.reduceAdd,Int.reduceSub,Int.reduceMul,hP,hW]) ?_
    rintro d ⟨p', q', rfl, hp', hq', hpl', hql'⟩
    try simp only [ev,evA,true_and,and_true,and_self,if_true,if_false,reduceIte,ne_eq,forall_const,false_implies,beq_self_eq_true,decide_true,decide_false,Int.cast_ofNat_Int,Nat.reduceAdd,Nat.reduceLT,Nat.reduceLeDiff,Nat.reduceEqDiff,Nat.reduceBEq,Nat.reduceMul,Nat.reduceSub,Int.reduceToNat,Int.reduceEq,Int.reduceNe,Int.reduceLT,Int.reduceLE,Int.reduceBEq,Int.reduceAdd,Int.reduceSub,Int.reduceMul,hP,hW]
    refine hret _ _ S.length 5 ?_
    simp only [r_rope_Rope_Cut, evRo, ev,evA,true_and,and_true,and_self,if_true,if_false,reduceIte,ne_eq,forall_const,false_implies,beq_self_eq_true,decide_true,decide_false,Int.cast_ofNat_Int,Nat.reduceAdd,Nat.reduceLT,Nat.reduceLeDiff,Nat.reduceEqDiff,Nat.reduceBEq,Nat.reduceMul,Nat.reduceSub,Int.reduceToNat,Int.reduceEq,Int.reduceNe,Int.reduceLT,Int.reduceLE,Int.reduceBEq,Int.reduceAdd,Int.reduceSub,Int.reduceMul,hP,hW]
    exact ⟨_, rfl, q', rfl, hq', by rw [hql', hpl, Int.toNat_natCast]⟩

theorem t_Put (hm : Tryd.prog.follows .mixedOrders = true) (W0 : World) (S : List SO) {x y : Option Rp} (at_ : Int) (hx : OkO x) (hy : OkO y) (hbig : Big (bytes (lsO x) + bytes (lsO y))) :
    CtP Tryd.prog W0 n_rope_Rope_Put [encO x, .raw (.int .i64 at_), encO y] S (RopeQ ((lsO x).take at_.toNat ++ lsO y ++ (lsO x).drop at_.toNat)) := by
  unfold Big at hbig
  have h0 := bytes_append ((lsO x).take at_.toNat) ((lsO x).drop at_.toNat)
  rw [List.take_append_drop] at h0
  refine Ct_R k_rope_Rope_Put 400 (.mk [.mk (encO x) (.raw (.int .i64 at_)) (encO y) .junk .junk .junk .junk .junk, .mk .junk .junk .junk .junk .junk .junk .junk .junk] [.junk, .junk, .junk, .junk]) rfl rfl fun r hP hW hpan hret => ?_
  simp only [c_rope_Rope_Put, ev,evA,true_and,and_true,and_self,if_true,if_false,reduceIte,ne_eq,forall_const,false_implies,beq_self_eq_true,decide_true,decide_false,Int.cast_ofNat_Int,Nat.reduceAdd,Nat.reduceLT,Nat.reduceLeDiff,Nat.reduceEqDiff,Nat.reduceBEq,Nat.reduceMul,Nat.reduceSub,Int.reduceToNat,Int.reduceEq,Int.reduceNe,Int.reduceLT,Int.reduceLE,Int.reduceBEq,Int.reduceAdd,Int.reduceSub,Int.reduceMul,hP,hW]
  refine callQ _ (fun S2 => t_split hm W0 S2 at_ hx (by unfold Big; omega)) (splitW hx.Ls _) (by try simp only [ev,evA,true_and,and_true,and_self,if_true,if_false,reduceIte,ne_eq,forall_const,false_implies,beq_self_eq_true,decide_true,decide_false,Int.cast_ofNat_Int,Nat.reduceAdd,Nat.reduceLT,Nat.reduceLeDiff,Nat.reduceEqDiff,Nat.reduceBEq,Nat.reduceMul,Nat.reduceSub,Int.reduceToNat,Int.reduceEq,Int.reduceNe,Int.reduceLT,Int.reduceLE,Int.reduceBEq,Int.reduceAdd,Int.reduceSub,Int.reduceMul,hP,hW]) ?_
  rintro d ⟨p, q, rfl, hp, hq, hpl, hql⟩
  try simp only [hm, ev,evA,true_and,and_true,and_self,if_true,if_false,reduceIte,ne_eq,forall_const,false_implies,beq_self_eq_true,decide_true,decide_false,Int.cast_ofNat_Int,Nat.reduceAdd,Nat.reduceLT,Nat.reduceLeDiff,Nat.reduceEqDiff,Nat.reduceBEq,Nat.reduceMul,Nat.reduceSub,Int.reduceToNat,Int.reduceEq,Int.reduceNe,Int.reduceLT,Int.reduceLE,Int.reduceBEq,Int.reduceAdd,Int.reduceSub,Int.reduceMul,hP,hW]
  refine callQ _ (fun S2 => t_Join hm W0 S2 hp hy (by rw [hpl]; unfold Big; omega)) (joinQ p y hp hy) (by try simp only [ev,evA,true_and,and_true,and_self,if_true,if_false,reduceIte,ne_eq,forall_const,false_implies,beq_self_eq_true,decide_true,decide_false,Int.cast_ofNat_Int,Nat.reduceAdd,Nat.reduceLT,Nat.reduceLeDiff,Nat.reduceEqDiff,Nat.reduceBEq,Nat.reduceMul,Nat.reduceSub,Int.reduceToNat,Int.reduceEq,Int.reduceNe,Int.reduceLT,Int.reduceLE,Int.reduceBEq,Int.reduceAdd,Int.reduceSub,Int.reduceMul,hP,hW]) ?_
  rintro d ⟨c, rfl, hc, hcl⟩
  try simp only [hm, ev,evA,true_and,and_true,and_self,if_true,if_false,reduceIte,ne_eq,forall_const,false_implies,beq_self_eq_true,decide_true,decide_false,Int.cast_ofNat_Int,Nat.reduceAdd,Nat.reduceLT,Nat.reduceLeDiff,Nat.reduceEqDiff,Nat.reduceBEq,Nat.reduceMul,Nat.reduceSub,Int.reduceToNat,Int.reduceEq,Int.reduceNe,Int.reduceLT,Int.reduceLE,Int.reduceBEq,Int.reduceAdd,Int.reduceSub,Int.reduceMul,hP,hW]
  refine callQ _ (fun S2 => t_Join hm W0 S2 hc hq (by rw [hcl, hql, hpl, bytes_append]; unfold Big; omega)) (joinQ c q hc hq) (by try simp only [ev,evA,true_and,and_true,and_self,if_true,if_false,reduceIte,ne_eq,forall_const,false_implies,beq_self_eq_true,decide_true,decide_false,Int.cast_ofNat_Int,Nat.reduceAdd,Nat.reduceLT,Nat.reduceLeDiff,Nat.reduceEqDiff,Nat.reduceBEq,Nat.reduceMul,Nat.reduceSub,Int.reduceToNat,Int.reduceEq,Int.reduceNe,Int.reduceLT,Int.reduceLE,Int.reduceBEq,Int.reduceAdd,Int.reduceSub,Int.reduceMul,hP,hW]) ?_
  rintro d ⟨c', rfl, hc', hcl'⟩
  try simp only [hm, ev,evA,true_and,and_true,and_self,if_true,if_false,reduceIte,ne_eq,forall_const,false_implies,beq_self_eq_true,decide_true,decide_false,Int.cast_ofNat_Int,Nat.reduceAdd,Nat.reduceLT,Nat.reduceLeDiff,Nat.reduceEqDiff,Nat.reduceBEq,Nat.reduceMul,Nat.reduceSub,Int.reduceToNat,Int.reduceEq,Int.reduceNe,Int.reduceLT,Int.reduceLE,Int.reduceBEq,Int.reduceAdd,Int.reduceSub,Int.reduceMul,hP,hW]
  refine hret _ _ S.length 5 ?_
  simp only [r_rope_Rope_Put, evRo, ev,evA,true_and,and_true,and_self,if_true,if_false,reduceIte,ne_eq,forall_const,false_implies,beq_self_eq_true,decide_true,decide_false,Int.cast_ofNat_Int,Nat.reduceAdd,Nat.reduceLT,Nat.reduceLeDiff,Nat.reduceEqDiff,Nat.reduceBEq,Nat.reduceMul,Nat.reduceSub,Int.reduceToNat,Int.reduceEq,Int.reduceNe,Int.reduceLT,Int.reduceLE,Int.reduceBEq,Int.reduceAdd,Int.reduceSub,Int.reduceMul,hP,hW]
  exact ⟨_, rfl, c', rfl, hc', by rw [hcl', hcl, hpl, hql, List.append_assoc]⟩

theorem t_Drop (hm : Tryd.prog.follows .mixedOrders = true) (W0 : World) (S : List SO) {x : Option Rp} (fr to : Int) (hx : OkO x) (hbig : Big (bytes (lsO x))) :
    CtP Tryd.prog W0 n_rope_Rope_Drop [encO x, .raw (.int .i64 fr), .raw (.int .i64 to)] S (RopeQ (if to ≤ (fr.toNat : Int) then lsO x else (lsO x).take fr.toNat ++ (lsO x).drop to.toNat)) := by
  have e0 : max fr 0 = (fr.toNat : Int) := by omega
  refine Ct_R k_rope_Rope_Drop 400 (.mk [.mk (encO x) (.raw (.int .i64 fr)) (.raw (.int .i64 to)) .junk .junk .junk .junk .junk, .mk .junk .junk .junk .junk .junk .junk .junk .junk, .mk .junk .junk .junk .junk .junk .junk .junk .junk, .mk .junk .junk .junk .junk .junk .junk .junk .junk] []) rfl rfl fun r hP hW hpan hret => ?_
  simp only [c_rope_Rope_Drop, ev,evA,true_and,and_true,and_self,if_true,if_false,reduceIte,ne_eq,forall_const,false_implies,beq_self_eq_true,decide_true,decide_false,Int.cast_ofNat_Int,Nat.reduceAdd,Nat.reduceLT,Nat.reduceLeDiff,Nat.reduceEqDiff,Nat.reduceBEq,Nat.reduceMul,Nat.reduceSub,Int.reduceToNat,Int.reduceEq,Int.reduceNe,Int.reduceLT,Int.reduceLE,Int.reduceBEq,Int.reduceAdd,Int.reduceSub,Int.reduceMul,hP,hW]
  try simp only [e0, ev,evA,true_and,and_true,and_self,if_true,if_false,reduceIte,ne_eq,forall_const,false_implies,beq_self_eq_true,decide_true,decide_false,Int.cast_ofNat_Int,Nat.reduceAdd,Nat.reduceLT,Nat.reduceLeDiff,Nat.reduceEqDiff,Nat.reduceBEq,Nat.reduceMul,Nat.reduceSub,Int.reduceToNat,Int.reduceEq,Int.reduceNe,Int.reduceLT,Int.reduceLE,Int.reduceBEq,Int.reduceAdd,Int.reduceSub,Int.reduceMul,hP,hW]
  refine Gc_dec (fun hc => ?_) (fun hc => ?_)
  · try simp only [ev,evA,true_and,and_true,and_self,if_true,if_false,reduceIte,ne_eq,forall_const,false_implies,beq_self_eq_true,decide_true,decide_false,Int.cast_ofNat_Int,Nat.reduceAdd,Nat.reduceLT,Nat.reduceLeDiff,Nat.reduceEqDiff,Nat.reduceBEq,Nat.reduceMul,Nat.reduceSub,Int.reduceToNat,Int.reduceEq,Int.reduceNe,Int.reduceLT,Int.reduceLE,Int.reduceBEq,Int.reduceAdd,Int.reduceSub,Int.reduceMul,hP,hW]
    refine hret _ _ S.length 5 ?_
    simp only [r_rope_Rope_Drop, evRo, ev,evA,true_and,and_true,and_self,if_true,if_false,reduceIte,ne_eq,forall_const,false_implies,beq_self_eq_true,decide_true,decide_false,Int.cast_ofNat_Int,Nat.reduceAdd,Nat.reduceLT,Nat.reduceLeDiff,Nat.reduceEqDiff,Nat.reduceBEq,Nat.reduceMul,Nat.reduceSub,Int.reduceToNat,Int.reduceEq,Int.reduceNe,Int.reduceLT,Int.reduceLE,Int.reduceBEq,Int.reduceAdd,Int.reduceSub,Int.reduceMul,hP,hW]
    exact ⟨_, rfl, x, rfl, hx, by rw [if_pos hc]⟩
  · try simp only [ev,evA,true_and,and_true,and_self,if_true,if_false,reduceIte,ne_eq,forall_const,false_implies,beq_self_eq_true,decide_true,decide_false,Int.cast_ofNat_Int,Nat.reduceAdd,Nat.reduceLT,Nat.reduceLeDiff,Nat.reduceEqDiff,Nat.reduceBEq,Nat.reduceMul,Nat.reduceSub,Int.reduceToNat,Int.reduceEq,Int.reduceNe,Int.reduceLT,Int.reduceLE,Int.reduceBEq,Int.reduceAdd,Int.reduceSub,Int.reduceMul,hP,hW]
    refine callQ _ (fun S2 => t_split hm W0 S2 (fr.toNat : Int) hx hbig) (splitW hx.Ls _) (by try simp only [ev,evA,true_and,and_true,and_self,if_true,if_false,reduceIte,ne_eq,forall_const,false_implies,beq_self_eq_true,decide_true,decide_false,Int.cast_ofNat_Int,Nat.reduceAdd,Nat.reduceLT,Nat.reduceLeDiff,Nat.reduceEqDiff,Nat.reduceBEq,Nat.reduceMul,Nat.reduceSub,Int.reduceToNat,Int.reduceEq,Int.reduceNe,Int.reduceLT,Int.reduceLE,Int.reduceBEq,Int.reduceAdd,Int.reduceSub,Int.reduceMul,hP,hW]) ?_
    rintro d ⟨p, q, rfl, hp, hq, hpl, hql⟩
    try simp only [ev,evA,true_and,and_true,and_self,if_true,if_false,reduceIte,ne_eq,forall_const,false_implies,beq_self_eq_true,decide_true,decide_false,Int.cast_ofNat_Int,Nat.reduceAdd,Nat.reduceLT,Nat.reduceLeDiff,Nat.reduceEqDiff,Nat.reduceBEq,Nat.reduceMul,Nat.reduceSub,Int.reduceToNat,Int.reduceEq,Int.reduceNe,Int.reduceLT,Int.reduceLE,Int.reduceBEq,Int.reduceAdd,Int.reduceSub,Int.reduceMul,hP,hW]
    refine callQ _ (fun S2 => t_split hm W0 S2 to hx hbig) (splitW hx.Ls _) (by try simp only [ev,evA,true_and,and_true,and_self,if_true,if_false,reduceIte,ne_eq,forall_const,false_implies,beq_self_eq_true,decide_true,decide_false,Int.cast_ofNat_Int,Nat.reduceAdd,Nat.reduceLT,Nat.reduceLeDiff,Nat.reduceEqDiff,Nat.reduceBEq,Nat.reduceMul,Nat.reduceSub,Int.reduceToNat,Int.reduceEq,Int.reduceNe,Int.reduceLT,Int.reduceLE,Int.reduceBEq,Int.reduceAdd,Int.reduceSub,Int.reduceMul,hP,hW]) ?_
    rintro d ⟨p', q', rfl, hp', hq', hpl', hql'⟩
    try simp only [ev,evA,true_and,and_true,and_self,if_true,if_false,reduceIte,ne_eq,forall_const,false_implies,beq_self_eq_true,decide_true,decide_false,Int.cast_ofNat_Int,Nat.reduceAdd,Nat.reduceLT,Nat.reduceLeDiff,Nat.reduceEqDiff,Nat.reduceBEq,Nat.reduceMul,Nat.reduceSub,Int.reduceToNat,Int.reduceEq,Int.reduceNe,Int.reduceLT,Int.reduceLE,Int.reduceBEq,Int.reduceAdd,Int.reduceSub,Int.reduceMul,hP,hW]
    refine callQ _ (fun S2 => t_Join hm W0 S2 hp hq' ?_) (joinQ p q' hp hq') (by try simp only [ev,evA,true_and,and_true,and_self,if_true,if_false,reduceIte,ne_eq,forall_const,false_implies,beq_self_eq_true,decide_true,decide_false,Int.cast_ofNat_Int,Nat.reduceAdd,Nat.reduceLT,Nat.reduceLeDiff,Nat.reduceEqDiff,Nat.reduceBEq,Nat.reduceMul,Nat.reduceSub,Int.reduceToNat,Int.reduceEq,Int.reduceNe,Int.reduceLT,Int.reduceLE,Int.reduceBEq,Int.reduceAdd,Int.reduceSub,Int.reduceMul,hP,hW]) ?_
    · rw [hpl, hql', Int.toNat_natCast]
      have h1 := bytes_append ((lsO x).take to.toNat) ((lsO x).drop to.toNat)
      rw [List.take_append_drop] at h1
      have h2 : bytes ((lsO x).take fr.toNat) ≤ bytes ((lsO x).take to.toNat) := by
        have := bytes_take ((lsO x).take to.toNat) fr.toNat
        rwa [List.take_take, Nat.min_eq_left (by omega)] at this
      unfold Big at *; omega
    rintro d ⟨c, rfl, hc1, hcl⟩
    try simp only [ev,evA,true_and,and_true,and_self,if_true,if_false,reduceIte,ne_eq,forall_const,false_implies,beq_self_eq_true,decide_true,decide_false,Int.cast_ofNat_Int,Nat.reduceAdd,Nat.reduceLT,Nat.reduceLeDiff,Nat.reduceEqDiff,Nat.reduceBEq,Nat.reduceMul,Nat.reduceSub,Int.reduceToNat,Int.reduceEq,Int.reduceNe,Int.reduceLT,Int.reduceLE,Int.reduceBEq,Int.reduceAdd,Int.reduceSub,Int.reduceMul,hP,hW]
    refine hret _ _ S.length 5 ?_
    simp only [r_rope_Rope_Drop, evRo, ev,evA,true_and,and_true,and_self,if_true,if_false,reduceIte,ne_eq,forall_const,false_implies,beq_self_eq_true,decide_true,decide_false,Int.cast_ofNat_Int,Nat.reduceAdd,Nat.reduceLT,Nat.reduceLeDiff,Nat.reduceEqDiff,Nat.reduceBEq,Nat.reduceMul,Nat.reduceSub,Int.reduceToNat,Int.reduceEq,Int.reduceNe,Int.reduceLT,Int.reduceLE,Int.reduceBEq,Int.reduceAdd,Int.reduceSub,Int.reduceMul,hP,hW]
    exact ⟨_, rfl, c, rfl, hc1, by rw [if_neg hc, hcl, hpl, hql', Int.toNat_natCast]⟩
end Go.Dv
/-
  Ropes: their parts, their text.
-/
namespace Go.Dv
open Go Go.RowKit Go.Proofs
set_option linter.unusedSimpArgs false
set_option linter.unusedVariables false
set_option maxRecDepth 8000

def Rp.parts : Rp → List ByteArray
  | .leaf l => [cat l]
  | .node a b => a.parts ++ b.parts
def partsO : Option Rp → List ByteArray
  | none => []
  | some x => x.parts
def strs (l : List ByteArray) : List (List DV) := l.map fun t => [DV.raw (.string t)]
theorem strs_len (l : List ByteArray) : (strs l).length = l.length := by simp [strs]
theorem strs_app (a b : List ByteArray) : strs (a ++ b) = strs a ++ strs b := by simp [strs]
theorem strs_one (l : List ByteArray) : oneLL (strs l) = true := by
  simp only [oneLL, strs, List.all_map, List.all_eq_true]
  intro x _; rfl
theorem parts_cat : ∀ x : Rp, cat x.parts = cat x.ls
  | .leaf l => cat_one _
  | .node a b => by simp only [Rp.parts, Rp.ls, cat_append, parts_cat a, parts_cat b]
theorem parts_le : ∀ {x : Rp}, x.Ok → x.parts.length ≤ bytes x.ls
  | .leaf l, h => by have := h.1.size_pos h.2; simp only [Rp.parts, bytes, Rp.ls, List.length_singleton]; omega
  | .node a b, h => by
    have := parts_le h.1
    have := parts_le h.2
    simp only [Rp.parts, Rp.ls, bytes_append, List.length_append]; omega

/-- A row of texts, made in the call. -/
def PartsQ (S : List SO) (l : List ByteArray) (o : Out) (S' : List SO) : Prop := ∃ j g, o = .ret (.row j g 1 0 l.length) ∧ S'.take S.length = S ∧ S.length ≤ j ∧ S'[j]? = some (.row g 1 (strs l))

theorem partsQ_fz {S S' : List SO} {l : List ByteArray} {o : Out} (h : PartsQ S l o S') : S'.take S.length = S ∧ ∃ d, o = .ret d ∧ fz S' S.length 3 d = .lst 1 false (strs l) := by
  obtain ⟨j, g, rfl, h1, h2, h3⟩ := h
  refine ⟨h1, _, rfl, ?_⟩
  simp only [fz, if_neg (Nat.not_lt.2 h2), h3, strs_len, Nat.zero_add, Nat.le_refl, and_self, if_true, List.drop_zero]
  rw [List.take_of_length_le (by rw [strs_len]; exact Nat.le_refl _)]
  simp [strs, fz]

theorem t_PartsR (hm : Tryd.prog.follows .mixedOrders = true) (W0 : World) : ∀ (x : Rp) (S : List SO), x.Ok → Big (bytes x.ls) → Ct Tryd.prog W0 n_rope_Rope_Parts [x.enc] S (PartsQ S x.parts) := by
  intro x
  induction x with
  | leaf l =>
    intro S hx hbig
    have e0 : (((Rp.leaf l).ht : Int) == 0) = true := rfl
    refine Ct_R k_rope_Rope_Parts 400 (.mk [.mk ((Rp.leaf l).enc) .junk .junk .junk .junk .junk .junk .junk, .mk .junk .junk .junk .junk .junk .junk .junk .junk, .mk .junk .junk .junk .junk .junk .junk .junk .junk] [.junk, .junk, .junk, .junk]) rfl rfl fun r hP hW hpan hret => ?_
    simp only [c_rope_Rope_Parts, ev,evA,true_and,and_true,and_self,if_true,if_false,reduceIte,ne_eq,forall_const,false_implies,beq_self_eq_true,decide_true,decide_false,Int.cast_ofNat_Int,Nat.reduceAdd,Nat.reduceLT,Nat.reduceLeDiff,Nat.reduceEqDiff,Nat.reduceBEq,Nat.reduceMul,Nat.reduceSub,Int.reduceToNat,Int.reduceEq,Int.reduceNe,Int.reduceLT,Int.reduceLE,Int.reduceBEq,Int.reduceAdd,Int.reduceSub,Int.reduceMul,hP,hW]
    try simp only [evRp, e0, ev,evA,true_and,and_true,and_self,if_true,if_false,reduceIte,ne_eq,forall_const,false_implies,beq_self_eq_true,decide_true,decide_false,Int.cast_ofNat_Int,Nat.reduceAdd,Nat.reduceLT,Nat.reduceLeDiff,Nat.reduceEqDiff,Nat.reduceBEq,Nat.reduceMul,Nat.reduceSub,Int.reduceToNat,Int.reduceEq,Int.reduceNe,Int.reduceLT,Int.reduceLE,Int.reduceBEq,Int.reduceAdd,Int.reduceSub,Int.reduceMul,hP,hW]
    intro g
    try simp only [evRp, ev,evA,true_and,and_true,and_self,if_true,if_false,reduceIte,ne_eq,forall_const,false_implies,beq_self_eq_true,decide_true,decide_false,Int.cast_ofNat_Int,Nat.reduceAdd,Nat.reduceLT,Nat.reduceLeDiff,Nat.reduceEqDiff,Nat.reduceBEq,Nat.reduceMul,Nat.reduceSub,Int.reduceToNat,Int.reduceEq,Int.reduceNe,Int.reduceLT,Int.reduceLE,Int.reduceBEq,Int.reduceAdd,Int.reduceSub,Int.reduceMul,hP,hW]
    refine hret _ _  (S.length + 1)  0 ?_
    simp only [r_rope_Rope_Parts, ev,evA,true_and,and_true,and_self,if_true,if_false,reduceIte,ne_eq,forall_const,false_implies,beq_self_eq_true,decide_true,decide_false,Int.cast_ofNat_Int,Nat.reduceAdd,Nat.reduceLT,Nat.reduceLeDiff,Nat.reduceEqDiff,Nat.reduceBEq,Nat.reduceMul,Nat.reduceSub,Int.reduceToNat,Int.reduceEq,Int.reduceNe,Int.reduceLT,Int.reduceLE,Int.reduceBEq,Int.reduceAdd,Int.reduceSub,Int.reduceMul,hP,hW]
    refine ⟨S.length, g 0, by simp [fz, Rp.parts], ?_, Nat.le_refl _, ?_⟩
    · rw [List.take_take, Nat.min_eq_left (by omega)]; simp
    · rw [take_all (by simp)]; simp [strs, Rp.parts]
  | node a b iha ihb =>
    intro S hx hbig
    have e0 : (((Rp.node a b).ht : Int) == 0) = false := by simp [Rp.ht]; omega
    simp only [Rp.ls, bytes_append] at hbig
    have hpa := parts_le hx.1
    have hpb := parts_le hx.2
    unfold Big at hbig
    refine Ct_R k_rope_Rope_Parts 400 (.mk [.mk ((Rp.node a b).enc) .junk .junk .junk .junk .junk .junk .junk, .mk .junk .junk .junk .junk .junk .junk .junk .junk, .mk .junk .junk .junk .junk .junk .junk .junk .junk] [.junk, .junk, .junk, .junk]) rfl rfl fun r hP hW hpan hret => ?_
    simp only [c_rope_Rope_Parts, ev,evA,true_and,and_true,and_self,if_true,if_false,reduceIte,ne_eq,forall_const,false_implies,beq_self_eq_true,decide_true,decide_false,Int.cast_ofNat_Int,Nat.reduceAdd,Nat.reduceLT,Nat.reduceLeDiff,Nat.reduceEqDiff,Nat.reduceBEq,Nat.reduceMul,Nat.reduceSub,Int.reduceToNat,Int.reduceEq,Int.reduceNe,Int.reduceLT,Int.reduceLE,Int.reduceBEq,Int.reduceAdd,Int.reduceSub,Int.reduceMul,hP,hW]
    try simp only [evRp, e0, hm, ev,evA,true_and,and_true,and_self,if_true,if_false,reduceIte,ne_eq,forall_const,false_implies,beq_self_eq_true,decide_true,decide_false,Int.cast_ofNat_Int,Nat.reduceAdd,Nat.reduceLT,Nat.reduceLeDiff,Nat.reduceEqDiff,Nat.reduceBEq,Nat.reduceMul,Nat.reduceSub,Int.reduceToNat,Int.reduceEq,Int.reduceNe,Int.reduceLT,Int.reduceLE,Int.reduceBEq,Int.reduceAdd,Int.reduceSub,Int.reduceMul,hP,hW]
    intro g
    try simp only [evRp, ev,evA,true_and,and_true,and_self,if_true,if_false,reduceIte,ne_eq,forall_const,false_implies,beq_self_eq_true,decide_true,decide_false,Int.cast_ofNat_Int,Nat.reduceAdd,Nat.reduceLT,Nat.reduceLeDiff,Nat.reduceEqDiff,Nat.reduceBEq,Nat.reduceMul,Nat.reduceSub,Int.reduceToNat,Int.reduceEq,Int.reduceNe,Int.reduceLT,Int.reduceLE,Int.reduceBEq,Int.reduceAdd,Int.reduceSub,Int.reduceMul,hP,hW]
    refine callG (PartsQ _ a.parts) (iha _ hx.1 (by unfold Big; omega)) (fun _ => ⟨_, (S ++ [SO.pend (g 0)]) ++ [.row 0 1 (strs a.parts)], (S ++ [SO.pend (g 0)]).length, 0, rfl, List.take_left, Nat.le_refl _, by rw [List.getElem?_append_right (Nat.le_refl _)]; simp⟩) (by try simp only [ev,evA,true_and,and_true,and_self,if_true,if_false,reduceIte,ne_eq,forall_const,false_implies,beq_self_eq_true,decide_true,decide_false,Int.cast_ofNat_Int,Nat.reduceAdd,Nat.reduceLT,Nat.reduceLeDiff,Nat.reduceEqDiff,Nat.reduceBEq,Nat.reduceMul,Nat.reduceSub,Int.reduceToNat,Int.reduceEq,Int.reduceNe,Int.reduceLT,Int.reduceLE,Int.reduceBEq,Int.reduceAdd,Int.reduceSub,Int.reduceMul,hP,hW]) ?_ ?_
    · rintro d S1 ⟨j, g1, hd, h1, h2, h3⟩
      cases hd
      try simp only [evRp, ev,evA,true_and,and_true,and_self,if_true,if_false,reduceIte,ne_eq,forall_const,false_implies,beq_self_eq_true,decide_true,decide_false,Int.cast_ofNat_Int,Nat.reduceAdd,Nat.reduceLT,Nat.reduceLeDiff,Nat.reduceEqDiff,Nat.reduceBEq,Nat.reduceMul,Nat.reduceSub,Int.reduceToNat,Int.reduceEq,Int.reduceNe,Int.reduceLT,Int.reduceLE,Int.reduceBEq,Int.reduceAdd,Int.reduceSub,Int.reduceMul,hP,hW]
      refine callQ (fun d => d = .lst 1 false (strs b.parts)) (fun S2 => CtP.of_Ct (ihb S2 hx.2 (by unfold Big; omega)) 3 (fun o S' h => by obtain ⟨k1, d, k2, k3⟩ := partsQ_fz h; exact ⟨k1, d, k2, k3⟩)) ⟨_, rfl⟩ (by try simp only [ev,evA,true_and,and_true,and_self,if_true,if_false,reduceIte,ne_eq,forall_const,false_implies,beq_self_eq_true,decide_true,decide_false,Int.cast_ofNat_Int,Nat.reduceAdd,Nat.reduceLT,Nat.reduceLeDiff,Nat.reduceEqDiff,Nat.reduceBEq,Nat.reduceMul,Nat.reduceSub,Int.reduceToNat,Int.reduceEq,Int.reduceNe,Int.reduceLT,Int.reduceLE,Int.reduceBEq,Int.reduceAdd,Int.reduceSub,Int.reduceMul,hP,hW]) ?_
      rintro d rfl
      try simp only [h3, strs_one, ev,evA,true_and,and_true,and_self,if_true,if_false,reduceIte,ne_eq,forall_const,false_implies,beq_self_eq_true,decide_true,decide_false,Int.cast_ofNat_Int,Nat.reduceAdd,Nat.reduceLT,Nat.reduceLeDiff,Nat.reduceEqDiff,Nat.reduceBEq,Nat.reduceMul,Nat.reduceSub,Int.reduceToNat,Int.reduceEq,Int.reduceNe,Int.reduceLT,Int.reduceLE,Int.reduceBEq,Int.reduceAdd,Int.reduceSub,Int.reduceMul,hP,hW]
      refine ⟨⟨⟨by rw [strs_len]; omega, by rw [strs_len]; omega⟩, by rw [strs_len]; exact Nat.le_refl _⟩, fun g2 => ?_⟩
      try simp only [ev,evA,true_and,and_true,and_self,if_true,if_false,reduceIte,ne_eq,forall_const,false_implies,beq_self_eq_true,decide_true,decide_false,Int.cast_ofNat_Int,Nat.reduceAdd,Nat.reduceLT,Nat.reduceLeDiff,Nat.reduceEqDiff,Nat.reduceBEq,Nat.reduceMul,Nat.reduceSub,Int.reduceToNat,Int.reduceEq,Int.reduceNe,Int.reduceLT,Int.reduceLE,Int.reduceBEq,Int.reduceAdd,Int.reduceSub,Int.reduceMul,hP,hW]
      refine hret _ _  S1.length  0 ?_
      simp only [r_rope_Rope_Parts, ev,evA,true_and,and_true,and_self,if_true,if_false,reduceIte,ne_eq,forall_const,false_implies,beq_self_eq_true,decide_true,decide_false,Int.cast_ofNat_Int,Nat.reduceAdd,Nat.reduceLT,Nat.reduceLeDiff,Nat.reduceEqDiff,Nat.reduceBEq,Nat.reduceMul,Nat.reduceSub,Int.reduceToNat,Int.reduceEq,Int.reduceNe,Int.reduceLT,Int.reduceLE,Int.reduceBEq,Int.reduceAdd,Int.reduceSub,Int.reduceMul,hP,hW]
      have hj : S.length ≤ j := by simp at h2; omega
      have hlt := (List.getElem?_eq_some_iff.1 h3).1
      have htk : List.take S.length S1 = S := by
        have := congrArg (List.take S.length) h1
        rwa [List.take_take, Nat.min_eq_left (by simp), List.take_left] at this
      refine ⟨j, g2, by simp [fz, strs_len, Rp.parts], ?_, hj, ?_⟩
      · rw [List.take_take, Nat.min_eq_left (by omega), List.take_set_of_le hj, htk]
      · rw [take_all (by simp), List.getElem?_set_self hlt]
        simp only [Rp.parts, strs_app]
        rw [List.take_of_length_le (by rw [strs_len]; exact Nat.le_refl _)]
    · rintro d S1 ⟨j, g1, hd, h1⟩
      cases hd

/-- What other proofs know of Go's library. -/
structure LibOk (W0 : World) : Prop where
  mixed : Tryd.prog.follows .mixedOrders = true
  valid : ∀ (S : List SO) (s : ByteArray), s.size ≤ 9223372036854775807 → CtP Tryd.prog W0 n_unicode_utf8_ValidString [.raw (.string s)] S (fun d => d = .raw (.bool (vld s 0)))
  join : ∀ (S : List SO) (f : Bool) (xs : List ByteArray), Big (cat xs).size → Big xs.length → CtP Tryd.prog W0 n_strings_Join [.lst 1 f (strs xs), .raw (.string "".toUTF8)] S (fun d => d = .raw (.string (cat xs)))
  sort0 : ∀ (S : List SO) (f : Bool), CtP Tryd.prog W0 n_slices_SortFunc_Lapi_Site_api_Site [.lst 2 f [], .fn (.func n_marks_compare) [] []] S (fun d => d = .tup [])

theorem t_Text (W0 : World) (L : LibOk W0) (S : List SO) {x : Option Rp} (hx : OkO x) (hbig : Big (bytes (lsO x))) : CtP Tryd.prog W0 n_rope_Rope_Text [encO x] S (fun d => d = .raw (.string (cat (lsO x)))) := by
  cases x with
  | none =>
    refine Ct_R k_rope_Rope_Text 400 (.mk [] [(.raw (.pointer none)), .junk, .junk, .junk, .junk, .junk]) rfl rfl fun r hP hW hpan hret => ?_
    simp only [c_rope_Rope_Text, ev,evA,true_and,and_true,and_self,if_true,if_false,reduceIte,ne_eq,forall_const,false_implies,beq_self_eq_true,decide_true,decide_false,Int.cast_ofNat_Int,Nat.reduceAdd,Nat.reduceLT,Nat.reduceLeDiff,Nat.reduceEqDiff,Nat.reduceBEq,Nat.reduceMul,Nat.reduceSub,Int.reduceToNat,Int.reduceEq,Int.reduceNe,Int.reduceLT,Int.reduceLE,Int.reduceBEq,Int.reduceAdd,Int.reduceSub,Int.reduceMul,hP,hW]
    refine callE (.raw (.slice none 0 0)) (fun S2 => ?_) (by try simp only [ev,evA,true_and,and_true,and_self,if_true,if_false,reduceIte,ne_eq,forall_const,false_implies,beq_self_eq_true,decide_true,decide_false,Int.cast_ofNat_Int,Nat.reduceAdd,Nat.reduceLT,Nat.reduceLeDiff,Nat.reduceEqDiff,Nat.reduceBEq,Nat.reduceMul,Nat.reduceSub,Int.reduceToNat,Int.reduceEq,Int.reduceNe,Int.reduceLT,Int.reduceLE,Int.reduceBEq,Int.reduceAdd,Int.reduceSub,Int.reduceMul,hP,hW]) ?_
    · refine Ct_R k_rope_Rope_Parts 400 (.mk [.mk (.raw (.pointer none)) .junk .junk .junk .junk .junk .junk .junk, .mk .junk .junk .junk .junk .junk .junk .junk .junk, .mk .junk .junk .junk .junk .junk .junk .junk .junk] [.junk, .junk, .junk, .junk]) rfl rfl fun r hP hW hpan hret => ?_
      simp only [c_rope_Rope_Parts, ev,evA,true_and,and_true,and_self,if_true,if_false,reduceIte,ne_eq,forall_const,false_implies,beq_self_eq_true,decide_true,decide_false,Int.cast_ofNat_Int,Nat.reduceAdd,Nat.reduceLT,Nat.reduceLeDiff,Nat.reduceEqDiff,Nat.reduceBEq,Nat.reduceMul,Nat.reduceSub,Int.reduceToNat,Int.reduceEq,Int.reduceNe,Int.reduceLT,Int.reduceLE,Int.reduceBEq,Int.reduceAdd,Int.reduceSub,Int.reduceMul,hP,hW]
      refine hret _ _  S2.length 5 ?_
      simp only [r_rope_Rope_Parts, ev,evA,true_and,and_true,and_self,if_true,if_false,reduceIte,ne_eq,forall_const,false_implies,beq_self_eq_true,decide_true,decide_false,Int.cast_ofNat_Int,Nat.reduceAdd,Nat.reduceLT,Nat.reduceLeDiff,Nat.reduceEqDiff,Nat.reduceBEq,Nat.reduceMul,Nat.reduceSub,Int.reduceToNat,Int.reduceEq,Int.reduceNe,Int.reduceLT,Int.reduceLE,Int.reduceBEq,Int.reduceAdd,Int.reduceSub,Int.reduceMul,hP,hW]
      exact ⟨_, rfl, rfl⟩
    try simp only [ev,evA,true_and,and_true,and_self,if_true,if_false,reduceIte,ne_eq,forall_const,false_implies,beq_self_eq_true,decide_true,decide_false,Int.cast_ofNat_Int,Nat.reduceAdd,Nat.reduceLT,Nat.reduceLeDiff,Nat.reduceEqDiff,Nat.reduceBEq,Nat.reduceMul,Nat.reduceSub,Int.reduceToNat,Int.reduceEq,Int.reduceNe,Int.reduceLT,Int.reduceLE,Int.reduceBEq,Int.reduceAdd,Int.reduceSub,Int.reduceMul,hP,hW]
    refine callE (.raw (.string ByteArray.empty)) (fun S2 => (L.join S2 false [] (by simp [Big, cat]) (by simp [Big])).args (by simp [leL, DV.le, strs])) (by try simp only [ev,evA,true_and,and_true,and_self,if_true,if_false,reduceIte,ne_eq,forall_const,false_implies,beq_self_eq_true,decide_true,decide_false,Int.cast_ofNat_Int,Nat.reduceAdd,Nat.reduceLT,Nat.reduceLeDiff,Nat.reduceEqDiff,Nat.reduceBEq,Nat.reduceMul,Nat.reduceSub,Int.reduceToNat,Int.reduceEq,Int.reduceNe,Int.reduceLT,Int.reduceLE,Int.reduceBEq,Int.reduceAdd,Int.reduceSub,Int.reduceMul,hP,hW]) ?_
    try simp only [ev,evA,true_and,and_true,and_self,if_true,if_false,reduceIte,ne_eq,forall_const,false_implies,beq_self_eq_true,decide_true,decide_false,Int.cast_ofNat_Int,Nat.reduceAdd,Nat.reduceLT,Nat.reduceLeDiff,Nat.reduceEqDiff,Nat.reduceBEq,Nat.reduceMul,Nat.reduceSub,Int.reduceToNat,Int.reduceEq,Int.reduceNe,Int.reduceLT,Int.reduceLE,Int.reduceBEq,Int.reduceAdd,Int.reduceSub,Int.reduceMul,hP,hW]
    refine hret _ _ S.length 5 ?_
    simp only [r_rope_Rope_Text, ev,evA,true_and,and_true,and_self,if_true,if_false,reduceIte,ne_eq,forall_const,false_implies,beq_self_eq_true,decide_true,decide_false,Int.cast_ofNat_Int,Nat.reduceAdd,Nat.reduceLT,Nat.reduceLeDiff,Nat.reduceEqDiff,Nat.reduceBEq,Nat.reduceMul,Nat.reduceSub,Int.reduceToNat,Int.reduceEq,Int.reduceNe,Int.reduceLT,Int.reduceLE,Int.reduceBEq,Int.reduceAdd,Int.reduceSub,Int.reduceMul,hP,hW]
    exact ⟨_, rfl, rfl⟩
  | some x =>
    refine Ct_R k_rope_Rope_Text 400 (.mk [] [x.enc, .junk, .junk, .junk, .junk, .junk]) rfl rfl fun r hP hW hpan hret => ?_
    simp only [c_rope_Rope_Text, ev,evA,true_and,and_true,and_self,if_true,if_false,reduceIte,ne_eq,forall_const,false_implies,beq_self_eq_true,decide_true,decide_false,Int.cast_ofNat_Int,Nat.reduceAdd,Nat.reduceLT,Nat.reduceLeDiff,Nat.reduceEqDiff,Nat.reduceBEq,Nat.reduceMul,Nat.reduceSub,Int.reduceToNat,Int.reduceEq,Int.reduceNe,Int.reduceLT,Int.reduceLE,Int.reduceBEq,Int.reduceAdd,Int.reduceSub,Int.reduceMul,hP,hW]
    refine callQ (fun d => d = .lst 1 false (strs x.parts)) (fun S2 => CtP.of_Ct (t_PartsR L.mixed W0 x S2 hx hbig) 3 (fun o S' h => by obtain ⟨k1, d, k2, k3⟩ := partsQ_fz h; exact ⟨k1, d, k2, k3⟩)) ⟨_, rfl⟩ (by try simp only [ev,evA,true_and,and_true,and_self,if_true,if_false,reduceIte,ne_eq,forall_const,false_implies,beq_self_eq_true,decide_true,decide_false,Int.cast_ofNat_Int,Nat.reduceAdd,Nat.reduceLT,Nat.reduceLeDiff,Nat.reduceEqDiff,Nat.reduceBEq,Nat.reduceMul,Nat.reduceSub,Int.reduceToNat,Int.reduceEq,Int.reduceNe,Int.reduceLT,Int.reduceLE,Int.reduceBEq,Int.reduceAdd,Int.reduceSub,Int.reduceMul,hP,hW]) ?_
    rintro d rfl
    try simp only [ev,evA,true_and,and_true,and_self,if_true,if_false,reduceIte,ne_eq,forall_const,false_implies,beq_self_eq_true,decide_true,decide_false,Int.cast_ofNat_Int,Nat.reduceAdd,Nat.reduceLT,Nat.reduceLeDiff,Nat.reduceEqDiff,Nat.reduceBEq,Nat.reduceMul,Nat.reduceSub,Int.reduceToNat,Int.reduceEq,Int.reduceNe,Int.reduceLT,Int.reduceLE,Int.reduceBEq,Int.reduceAdd,Int.reduceSub,Int.reduceMul,hP,hW]
    have hp := parts_le hx
    have hc := parts_cat x
    refine callE _ (fun S2 => L.join S2 false x.parts (by rw [hc]; exact hbig) (by unfold Big at *; simp only [lsO] at hbig; omega)) (by try simp only [ev,evA,true_and,and_true,and_self,if_true,if_false,reduceIte,ne_eq,forall_const,false_implies,beq_self_eq_true,decide_true,decide_false,Int.cast_ofNat_Int,Nat.reduceAdd,Nat.reduceLT,Nat.reduceLeDiff,Nat.reduceEqDiff,Nat.reduceBEq,Nat.reduceMul,Nat.reduceSub,Int.reduceToNat,Int.reduceEq,Int.reduceNe,Int.reduceLT,Int.reduceLE,Int.reduceBEq,Int.reduceAdd,Int.reduceSub,Int.reduceMul,hP,hW]) ?_
    try simp only [ev,evA,true_and,and_true,and_self,if_true,if_false,reduceIte,ne_eq,forall_const,false_implies,beq_self_eq_true,decide_true,decide_false,Int.cast_ofNat_Int,Nat.reduceAdd,Nat.reduceLT,Nat.reduceLeDiff,Nat.reduceEqDiff,Nat.reduceBEq,Nat.reduceMul,Nat.reduceSub,Int.reduceToNat,Int.reduceEq,Int.reduceNe,Int.reduceLT,Int.reduceLE,Int.reduceBEq,Int.reduceAdd,Int.reduceSub,Int.reduceMul,hP,hW]
    refine hret _ _ S.length 5 ?_
    simp only [r_rope_Rope_Text, ev,evA,true_and,and_true,and_self,if_true,if_false,reduceIte,ne_eq,forall_const,false_implies,beq_self_eq_true,decide_true,decide_false,Int.cast_ofNat_Int,Nat.reduceAdd,Nat.reduceLT,Nat.reduceLeDiff,Nat.reduceEqDiff,Nat.reduceBEq,Nat.reduceMul,Nat.reduceSub,Int.reduceToNat,Int.reduceEq,Int.reduceNe,Int.reduceLT,Int.reduceLE,Int.reduceBEq,Int.reduceAdd,Int.reduceSub,Int.reduceMul,hP,hW]
    exact ⟨_, rfl, by rw [hc]; rfl⟩
end Go.Dv
/-
  Ropes of texts.
-/
namespace Go.Dv
open Go Go.RowKit Go.Proofs
set_option linter.unusedSimpArgs false
set_option linter.unusedVariables false
set_option maxRecDepth 8000

def encs (l : List Rp) : List (List DV) := l.map fun x => [x.enc]
def lss (l : List Rp) : List ByteArray := l.flatMap Rp.ls
theorem encs_len (l : List Rp) : (encs l).length = l.length := by simp [encs]
theorem lss_append (a b : List Rp) : lss (a ++ b) = lss a ++ lss b := by simp [lss]
theorem bytes_lss (l : List Rp) (k : Nat) : bytes (lss l) = bytes (lss (l.take k)) + bytes (lss (l.drop k)) := by rw [← bytes_append, ← lss_append, List.take_append_drop]
theorem lssLs : ∀ {l : List Rp}, (∀ x ∈ l, x.Ok) → Ls (lss l)
  | [], _ => Ls.nil
  | x :: l, h => by
    rw [show lss (x :: l) = x.ls ++ lss l from rfl]
    exact (h x (by simp)).Ls.append (lssLs fun y hy => h y (by simp [hy]))
theorem len_lss : ∀ {l : List Rp}, (∀ x ∈ l, x.Ok) → l.length ≤ bytes (lss l)
  | [], _ => by simp
  | x :: l, h => by
    rw [show lss (x :: l) = x.ls ++ lss l from rfl, bytes_append]
    have h1 := (h x (by simp)).ht_lt
    have h2 := (h x (by simp)).len_le
    have := len_lss (l := l) fun y hy => h y (by simp [hy])
    simp only [List.length_cons]; omega

theorem t_build (hm : Tryd.prog.follows .mixedOrders = true) (W0 : World) : ∀ (n : Nat) (S : List SO) (f : Bool) (l : List Rp), l.length ≤ n → (∀ x ∈ l, x.Ok) → Big (bytes (lss l)) →
    CtP Tryd.prog W0 n_rope_build [.lst 1 f (encs l)] S (RopeQ (lss l)) := by
  intro n
  induction n with
  | zero =>
    intro S f l hl hx hbig
    obtain rfl : l = [] := List.eq_nil_of_length_eq_zero (by omega)
    refine Ct_R k_rope_build 400 (.mk [.mk (.lst 1 f []) .junk .junk .junk .junk .junk .junk .junk, .mk .junk .junk .junk .junk .junk .junk .junk .junk, .mk .junk .junk .junk .junk .junk .junk .junk .junk] [.junk]) rfl rfl fun r hP hW hpan hret => ?_
    simp only [c_rope_build, ev,evA,true_and,and_true,and_self,if_true,if_false,reduceIte,ne_eq,forall_const,false_implies,beq_self_eq_true,decide_true,decide_false,Int.cast_ofNat_Int,Nat.reduceAdd,Nat.reduceLT,Nat.reduceLeDiff,Nat.reduceEqDiff,Nat.reduceBEq,Nat.reduceMul,Nat.reduceSub,Int.reduceToNat,Int.reduceEq,Int.reduceNe,Int.reduceLT,Int.reduceLE,Int.reduceBEq,Int.reduceAdd,Int.reduceSub,Int.reduceMul,hP,hW]
    refine hret _ _ S.length 5 ?_
    simp only [r_rope_build, ev,evA,true_and,and_true,and_self,if_true,if_false,reduceIte,ne_eq,forall_const,false_implies,beq_self_eq_true,decide_true,decide_false,Int.cast_ofNat_Int,Nat.reduceAdd,Nat.reduceLT,Nat.reduceLeDiff,Nat.reduceEqDiff,Nat.reduceBEq,Nat.reduceMul,Nat.reduceSub,Int.reduceToNat,Int.reduceEq,Int.reduceNe,Int.reduceLT,Int.reduceLE,Int.reduceBEq,Int.reduceAdd,Int.reduceSub,Int.reduceMul,hP,hW]
    exact ⟨_, rfl, none, rfl, trivial, rfl⟩
  | succ n ih =>
    intro S f l hl hx hbig
    have hll := len_lss hx
    unfold Big at hbig
    have e1 : ((encs l).length : Int) = (l.length : Int) := by rw [encs_len]
    refine Ct_R k_rope_build 400 (.mk [.mk (.lst 1 f (encs l)) .junk .junk .junk .junk .junk .junk .junk, .mk .junk .junk .junk .junk .junk .junk .junk .junk, .mk .junk .junk .junk .junk .junk .junk .junk .junk] [.junk]) rfl rfl fun r hP hW hpan hret => ?_
    simp only [c_rope_build, ev,evA,true_and,and_true,and_self,if_true,if_false,reduceIte,ne_eq,forall_const,false_implies,beq_self_eq_true,decide_true,decide_false,Int.cast_ofNat_Int,Nat.reduceAdd,Nat.reduceLT,Nat.reduceLeDiff,Nat.reduceEqDiff,Nat.reduceBEq,Nat.reduceMul,Nat.reduceSub,Int.reduceToNat,Int.reduceEq,Int.reduceNe,Int.reduceLT,Int.reduceLE,Int.reduceBEq,Int.reduceAdd,Int.reduceSub,Int.reduceMul,hP,hW]
    try simp only [e1, ev,evA,true_and,and_true,and_self,if_true,if_false,reduceIte,ne_eq,forall_const,false_implies,beq_self_eq_true,decide_true,decide_false,Int.cast_ofNat_Int,Nat.reduceAdd,Nat.reduceLT,Nat.reduceLeDiff,Nat.reduceEqDiff,Nat.reduceBEq,Nat.reduceMul,Nat.reduceSub,Int.reduceToNat,Int.reduceEq,Int.reduceNe,Int.reduceLT,Int.reduceLE,Int.reduceBEq,Int.reduceAdd,Int.reduceSub,Int.reduceMul,hP,hW]
    by_cases h0 : l.length = 0
    · obtain rfl : l = [] := List.eq_nil_of_length_eq_zero h0
      try simp only [ev,evA,true_and,and_true,and_self,if_true,if_false,reduceIte,ne_eq,forall_const,false_implies,beq_self_eq_true,decide_true,decide_false,Int.cast_ofNat_Int,Nat.reduceAdd,Nat.reduceLT,Nat.reduceLeDiff,Nat.reduceEqDiff,Nat.reduceBEq,Nat.reduceMul,Nat.reduceSub,Int.reduceToNat,Int.reduceEq,Int.reduceNe,Int.reduceLT,Int.reduceLE,Int.reduceBEq,Int.reduceAdd,Int.reduceSub,Int.reduceMul,hP,hW]
      refine hret _ _ S.length 5 ?_
      simp only [r_rope_build, ev,evA,true_and,and_true,and_self,if_true,if_false,reduceIte,ne_eq,forall_const,false_implies,beq_self_eq_true,decide_true,decide_false,Int.cast_ofNat_Int,Nat.reduceAdd,Nat.reduceLT,Nat.reduceLeDiff,Nat.reduceEqDiff,Nat.reduceBEq,Nat.reduceMul,Nat.reduceSub,Int.reduceToNat,Int.reduceEq,Int.reduceNe,Int.reduceLT,Int.reduceLE,Int.reduceBEq,Int.reduceAdd,Int.reduceSub,Int.reduceMul,hP,hW]
      exact ⟨_, rfl, none, rfl, trivial, rfl⟩
    · have b0 : ((l.length : Int) == 0) = false := by simp; exact fun e => h0 (by simp [e])
      try simp only [b0, ev,evA,true_and,and_true,and_self,if_true,if_false,reduceIte,ne_eq,forall_const,false_implies,beq_self_eq_true,decide_true,decide_false,Int.cast_ofNat_Int,Nat.reduceAdd,Nat.reduceLT,Nat.reduceLeDiff,Nat.reduceEqDiff,Nat.reduceBEq,Nat.reduceMul,Nat.reduceSub,Int.reduceToNat,Int.reduceEq,Int.reduceNe,Int.reduceLT,Int.reduceLE,Int.reduceBEq,Int.reduceAdd,Int.reduceSub,Int.reduceMul,hP,hW]
      by_cases h1 : l.length = 1
      · match l, h1 with
        | [x], _ =>
          try simp only [encs, List.length_singleton, Int.natCast_one, List.map_cons, List.map_nil, ev,evA,true_and,and_true,and_self,if_true,if_false,reduceIte,ne_eq,forall_const,false_implies,beq_self_eq_true,decide_true,decide_false,Int.cast_ofNat_Int,Nat.reduceAdd,Nat.reduceLT,Nat.reduceLeDiff,Nat.reduceEqDiff,Nat.reduceBEq,Nat.reduceMul,Nat.reduceSub,Int.reduceToNat,Int.reduceEq,Int.reduceNe,Int.reduceLT,Int.reduceLE,Int.reduceBEq,Int.reduceAdd,Int.reduceSub,Int.reduceMul,hP,hW]
          refine hret _ _ S.length 5 ?_
          simp only [r_rope_build, evRp, ev,evA,true_and,and_true,and_self,if_true,if_false,reduceIte,ne_eq,forall_const,false_implies,beq_self_eq_true,decide_true,decide_false,Int.cast_ofNat_Int,Nat.reduceAdd,Nat.reduceLT,Nat.reduceLeDiff,Nat.reduceEqDiff,Nat.reduceBEq,Nat.reduceMul,Nat.reduceSub,Int.reduceToNat,Int.reduceEq,Int.reduceNe,Int.reduceLT,Int.reduceLE,Int.reduceBEq,Int.reduceAdd,Int.reduceSub,Int.reduceMul,hP,hW]
          exact ⟨_, rfl, some x, rfl, hx x (by simp), by simp [lss, lsO]⟩
      · have b1 : ((l.length : Int) == 1) = false := by simp; omega
        have wd : IntKind.i64.wrap ((l.length : Int).tdiv 2) = ((l.length / 2 : Nat) : Int) := by rw [Int.tdiv_eq_ediv_of_nonneg (by omega), wrap_id (by omega) (by omega)]; omega
        have et : (encs l).take (l.length / 2) = encs (l.take (l.length / 2)) := by simp [encs, List.map_take]
        have ed : (encs l).drop (l.length / 2) = encs (l.drop (l.length / 2)) := by simp [encs, List.map_drop]
        have hb := bytes_lss l (l.length / 2)
        have k1 : ∀ x ∈ l.take (l.length / 2), x.Ok := fun x h => hx x (List.mem_of_mem_take h)
        have k2 : ∀ x ∈ l.drop (l.length / 2), x.Ok := fun x h => hx x (List.mem_of_mem_drop h)
        try simp only [b1, wd, hm, e1, et, ed, ev,evA,true_and,and_true,and_self,if_true,if_false,reduceIte,ne_eq,forall_const,false_implies,beq_self_eq_true,decide_true,decide_false,Int.cast_ofNat_Int,Nat.reduceAdd,Nat.reduceLT,Nat.reduceLeDiff,Nat.reduceEqDiff,Nat.reduceBEq,Nat.reduceMul,Nat.reduceSub,Int.reduceToNat,Int.reduceEq,Int.reduceNe,Int.reduceLT,Int.reduceLE,Int.reduceBEq,Int.reduceAdd,Int.reduceSub,Int.reduceMul,hP,hW]
        refine ⟨by omega, ?_⟩
        refine callQ _ (fun S2 => ih S2 _ _ (by simp; omega) k1 (by unfold Big; omega)) (ropeQ (lssLs k1)) (by try simp only [ev,evA,true_and,and_true,and_self,if_true,if_false,reduceIte,ne_eq,forall_const,false_implies,beq_self_eq_true,decide_true,decide_false,Int.cast_ofNat_Int,Nat.reduceAdd,Nat.reduceLT,Nat.reduceLeDiff,Nat.reduceEqDiff,Nat.reduceBEq,Nat.reduceMul,Nat.reduceSub,Int.reduceToNat,Int.reduceEq,Int.reduceNe,Int.reduceLT,Int.reduceLE,Int.reduceBEq,Int.reduceAdd,Int.reduceSub,Int.reduceMul,hP,hW]) ?_
        rintro d ⟨p, rfl, hp, hpl⟩
        try simp only [b1, wd, hm, e1, et, ed, ev,evA,true_and,and_true,and_self,if_true,if_false,reduceIte,ne_eq,forall_const,false_implies,beq_self_eq_true,decide_true,decide_false,Int.cast_ofNat_Int,Nat.reduceAdd,Nat.reduceLT,Nat.reduceLeDiff,Nat.reduceEqDiff,Nat.reduceBEq,Nat.reduceMul,Nat.reduceSub,Int.reduceToNat,Int.reduceEq,Int.reduceNe,Int.reduceLT,Int.reduceLE,Int.reduceBEq,Int.reduceAdd,Int.reduceSub,Int.reduceMul,hP,hW]
        refine ⟨by omega, ?_⟩
        refine callQ _ (fun S2 => ih S2 _ _ (by simp; omega) k2 (by unfold Big; omega)) (ropeQ (lssLs k2)) (by try simp only [ev,evA,true_and,and_true,and_self,if_true,if_false,reduceIte,ne_eq,forall_const,false_implies,beq_self_eq_true,decide_true,decide_false,Int.cast_ofNat_Int,Nat.reduceAdd,Nat.reduceLT,Nat.reduceLeDiff,Nat.reduceEqDiff,Nat.reduceBEq,Nat.reduceMul,Nat.reduceSub,Int.reduceToNat,Int.reduceEq,Int.reduceNe,Int.reduceLT,Int.reduceLE,Int.reduceBEq,Int.reduceAdd,Int.reduceSub,Int.reduceMul,hP,hW]) ?_
        rintro d ⟨q, rfl, hq, hql⟩
        try simp only [ev,evA,true_and,and_true,and_self,if_true,if_false,reduceIte,ne_eq,forall_const,false_implies,beq_self_eq_true,decide_true,decide_false,Int.cast_ofNat_Int,Nat.reduceAdd,Nat.reduceLT,Nat.reduceLeDiff,Nat.reduceEqDiff,Nat.reduceBEq,Nat.reduceMul,Nat.reduceSub,Int.reduceToNat,Int.reduceEq,Int.reduceNe,Int.reduceLT,Int.reduceLE,Int.reduceBEq,Int.reduceAdd,Int.reduceSub,Int.reduceMul,hP,hW]
        refine callQ _ (fun S2 => t_Join hm W0 S2 hp hq (by rw [hpl, hql]; unfold Big; omega)) (joinQ p q hp hq) (by try simp only [ev,evA,true_and,and_true,and_self,if_true,if_false,reduceIte,ne_eq,forall_const,false_implies,beq_self_eq_true,decide_true,decide_false,Int.cast_ofNat_Int,Nat.reduceAdd,Nat.reduceLT,Nat.reduceLeDiff,Nat.reduceEqDiff,Nat.reduceBEq,Nat.reduceMul,Nat.reduceSub,Int.reduceToNat,Int.reduceEq,Int.reduceNe,Int.reduceLT,Int.reduceLE,Int.reduceBEq,Int.reduceAdd,Int.reduceSub,Int.reduceMul,hP,hW]) ?_
        rintro d ⟨c, rfl, hc, hcl⟩
        try simp only [ev,evA,true_and,and_true,and_self,if_true,if_false,reduceIte,ne_eq,forall_const,false_implies,beq_self_eq_true,decide_true,decide_false,Int.cast_ofNat_Int,Nat.reduceAdd,Nat.reduceLT,Nat.reduceLeDiff,Nat.reduceEqDiff,Nat.reduceBEq,Nat.reduceMul,Nat.reduceSub,Int.reduceToNat,Int.reduceEq,Int.reduceNe,Int.reduceLT,Int.reduceLE,Int.reduceBEq,Int.reduceAdd,Int.reduceSub,Int.reduceMul,hP,hW]
        refine hret _ _ S.length 5 ?_
        simp only [r_rope_build, evRo, ev,evA,true_and,and_true,and_self,if_true,if_false,reduceIte,ne_eq,forall_const,false_implies,beq_self_eq_true,decide_true,decide_false,Int.cast_ofNat_Int,Nat.reduceAdd,Nat.reduceLT,Nat.reduceLeDiff,Nat.reduceEqDiff,Nat.reduceBEq,Nat.reduceMul,Nat.reduceSub,Int.reduceToNat,Int.reduceEq,Int.reduceNe,Int.reduceLT,Int.reduceLE,Int.reduceBEq,Int.reduceAdd,Int.reduceSub,Int.reduceMul,hP,hW]
        exact ⟨_, rfl, c, rfl, hc, by rw [hcl, hpl, hql, ← lss_append, List.take_append_drop]⟩

theorem vld_ls {l : List ByteArray} (h : Ls l) : vld (cat l) 0 = true := (vld_iff _).2 ⟨l, h, rfl⟩

theorem t_lettersRight (W0 : World) (L : LibOk W0) (S : List SO) (s : ByteArray) (hs : s.size ≤ 9223372036854775807) : CtP Tryd.prog W0 n_letters_Right [.raw (.string s)] S (fun d => d = .raw (.bool (vld s 0))) := by
  refine Ct_R k_letters_Right 400 (.mk [] [(.raw (.string s)), .junk, .junk, .junk, .junk]) rfl rfl fun r hP hW hpan hret => ?_
  simp only [c_letters_Right, ev,evA,true_and,and_true,and_self,if_true,if_false,reduceIte,ne_eq,forall_const,false_implies,beq_self_eq_true,decide_true,decide_false,Int.cast_ofNat_Int,Nat.reduceAdd,Nat.reduceLT,Nat.reduceLeDiff,Nat.reduceEqDiff,Nat.reduceBEq,Nat.reduceMul,Nat.reduceSub,Int.reduceToNat,Int.reduceEq,Int.reduceNe,Int.reduceLT,Int.reduceLE,Int.reduceBEq,Int.reduceAdd,Int.reduceSub,Int.reduceMul,hP,hW]
  refine callE _ (fun S2 => L.valid S2 s hs) (by try simp only [ev,evA,true_and,and_true,and_self,if_true,if_false,reduceIte,ne_eq,forall_const,false_implies,beq_self_eq_true,decide_true,decide_false,Int.cast_ofNat_Int,Nat.reduceAdd,Nat.reduceLT,Nat.reduceLeDiff,Nat.reduceEqDiff,Nat.reduceBEq,Nat.reduceMul,Nat.reduceSub,Int.reduceToNat,Int.reduceEq,Int.reduceNe,Int.reduceLT,Int.reduceLE,Int.reduceBEq,Int.reduceAdd,Int.reduceSub,Int.reduceMul,hP,hW]) ?_
  try simp only [ev,evA,true_and,and_true,and_self,if_true,if_false,reduceIte,ne_eq,forall_const,false_implies,beq_self_eq_true,decide_true,decide_false,Int.cast_ofNat_Int,Nat.reduceAdd,Nat.reduceLT,Nat.reduceLeDiff,Nat.reduceEqDiff,Nat.reduceBEq,Nat.reduceMul,Nat.reduceSub,Int.reduceToNat,Int.reduceEq,Int.reduceNe,Int.reduceLT,Int.reduceLE,Int.reduceBEq,Int.reduceAdd,Int.reduceSub,Int.reduceMul,hP,hW]
  refine hret _ _ S.length 5 ?_
  simp only [r_letters_Right, ev,evA,true_and,and_true,and_self,if_true,if_false,reduceIte,ne_eq,forall_const,false_implies,beq_self_eq_true,decide_true,decide_false,Int.cast_ofNat_Int,Nat.reduceAdd,Nat.reduceLT,Nat.reduceLeDiff,Nat.reduceEqDiff,Nat.reduceBEq,Nat.reduceMul,Nat.reduceSub,Int.reduceToNat,Int.reduceEq,Int.reduceNe,Int.reduceLT,Int.reduceLE,Int.reduceBEq,Int.reduceAdd,Int.reduceSub,Int.reduceMul,hP,hW]
  exact ⟨_, rfl, rfl⟩

theorem t_NewBad (W0 : World) (L : LibOk W0) (S : List SO) (s : ByteArray) (hs : s.size ≤ 9223372036854775807) (hv : vld s 0 = false) : CtP Tryd.prog W0 n_rope_New [.raw (.string s)] S (fun d => d = .tup [encO none, .raw (.bool false)]) := by
  refine Ct_R k_rope_New 400 (.mk [.mk (.raw (.string s)) .junk .junk .junk .junk .junk .junk .junk, .mk .junk .junk .junk .junk .junk .junk .junk .junk, .mk .junk .junk .junk .junk .junk .junk .junk .junk, .mk .junk .junk .junk .junk .junk .junk .junk .junk, .mk .junk .junk .junk .junk .junk .junk .junk .junk] [.junk, .junk, .junk, .junk, .junk, .junk, .junk]) rfl rfl fun r hP hW hpan hret => ?_
  simp only [c_rope_New, ev,evA,true_and,and_true,and_self,if_true,if_false,reduceIte,ne_eq,forall_const,false_implies,beq_self_eq_true,decide_true,decide_false,Int.cast_ofNat_Int,Nat.reduceAdd,Nat.reduceLT,Nat.reduceLeDiff,Nat.reduceEqDiff,Nat.reduceBEq,Nat.reduceMul,Nat.reduceSub,Int.reduceToNat,Int.reduceEq,Int.reduceNe,Int.reduceLT,Int.reduceLE,Int.reduceBEq,Int.reduceAdd,Int.reduceSub,Int.reduceMul,hP,hW]
  refine callE _ (fun S2 => t_lettersRight W0 L S2 s hs) (by try simp only [ev,evA,true_and,and_true,and_self,if_true,if_false,reduceIte,ne_eq,forall_const,false_implies,beq_self_eq_true,decide_true,decide_false,Int.cast_ofNat_Int,Nat.reduceAdd,Nat.reduceLT,Nat.reduceLeDiff,Nat.reduceEqDiff,Nat.reduceBEq,Nat.reduceMul,Nat.reduceSub,Int.reduceToNat,Int.reduceEq,Int.reduceNe,Int.reduceLT,Int.reduceLE,Int.reduceBEq,Int.reduceAdd,Int.reduceSub,Int.reduceMul,hP,hW]) ?_
  try simp only [hv, ev,evA,true_and,and_true,and_self,if_true,if_false,reduceIte,ne_eq,forall_const,false_implies,beq_self_eq_true,decide_true,decide_false,Int.cast_ofNat_Int,Nat.reduceAdd,Nat.reduceLT,Nat.reduceLeDiff,Nat.reduceEqDiff,Nat.reduceBEq,Nat.reduceMul,Nat.reduceSub,Int.reduceToNat,Int.reduceEq,Int.reduceNe,Int.reduceLT,Int.reduceLE,Int.reduceBEq,Int.reduceAdd,Int.reduceSub,Int.reduceMul,hP,hW]
  refine hret _ _ S.length 5 ?_
  simp only [r_rope_New, ev,evA,true_and,and_true,and_self,if_true,if_false,reduceIte,ne_eq,forall_const,false_implies,beq_self_eq_true,decide_true,decide_false,Int.cast_ofNat_Int,Nat.reduceAdd,Nat.reduceLT,Nat.reduceLeDiff,Nat.reduceEqDiff,Nat.reduceBEq,Nat.reduceMul,Nat.reduceSub,Int.reduceToNat,Int.reduceEq,Int.reduceNe,Int.reduceLT,Int.reduceLE,Int.reduceBEq,Int.reduceAdd,Int.reduceSub,Int.reduceMul,hP,hW]
  exact ⟨_, rfl, rfl⟩

theorem t_New (W0 : World) (L : LibOk W0) (S : List SO) {ls : List ByteArray} (h : Ls ls) (hbig : Big (bytes ls)) : CtP Tryd.prog W0 n_rope_New [.raw (.string (cat ls))] S (fun d => ∃ c : Option Rp, d = .tup [encO c, .raw (.bool true)] ∧ OkO c ∧ lsO c = ls) := by
  have hl := h.len_le
  unfold Big bytes at hbig
  refine Ct_R k_rope_New 400 (.mk [.mk (.raw (.string (cat ls))) .junk .junk .junk .junk .junk .junk .junk, .mk .junk .junk .junk .junk .junk .junk .junk .junk, .mk .junk .junk .junk .junk .junk .junk .junk .junk, .mk .junk .junk .junk .junk .junk .junk .junk .junk, .mk .junk .junk .junk .junk .junk .junk .junk .junk] [.junk, .junk, .junk, .junk, .junk, .junk, .junk]) rfl rfl fun r hP hW hpan hret => ?_
  simp only [c_rope_New, ev,evA,true_and,and_true,and_self,if_true,if_false,reduceIte,ne_eq,forall_const,false_implies,beq_self_eq_true,decide_true,decide_false,Int.cast_ofNat_Int,Nat.reduceAdd,Nat.reduceLT,Nat.reduceLeDiff,Nat.reduceEqDiff,Nat.reduceBEq,Nat.reduceMul,Nat.reduceSub,Int.reduceToNat,Int.reduceEq,Int.reduceNe,Int.reduceLT,Int.reduceLE,Int.reduceBEq,Int.reduceAdd,Int.reduceSub,Int.reduceMul,hP,hW]
  refine callE _ (fun S2 => t_lettersRight W0 L S2 _ (by omega)) (by try simp only [ev,evA,true_and,and_true,and_self,if_true,if_false,reduceIte,ne_eq,forall_const,false_implies,beq_self_eq_true,decide_true,decide_false,Int.cast_ofNat_Int,Nat.reduceAdd,Nat.reduceLT,Nat.reduceLeDiff,Nat.reduceEqDiff,Nat.reduceBEq,Nat.reduceMul,Nat.reduceSub,Int.reduceToNat,Int.reduceEq,Int.reduceNe,Int.reduceLT,Int.reduceLE,Int.reduceBEq,Int.reduceAdd,Int.reduceSub,Int.reduceMul,hP,hW]) ?_
  try simp only [vld_ls h, ev,evA,true_and,and_true,and_self,if_true,if_false,reduceIte,ne_eq,forall_const,false_implies,beq_self_eq_true,decide_true,decide_false,Int.cast_ofNat_Int,Nat.reduceAdd,Nat.reduceLT,Nat.reduceLeDiff,Nat.reduceEqDiff,Nat.reduceBEq,Nat.reduceMul,Nat.reduceSub,Int.reduceToNat,Int.reduceEq,Int.reduceNe,Int.reduceLT,Int.reduceLE,Int.reduceBEq,Int.reduceAdd,Int.reduceSub,Int.reduceMul,hP,hW]
  intro g
  refine SX_cutB 0 (fun e S' => Cv W0 e S' fun e S' => ∃ (g0 g1 m : Nat) (l : List Rp), m ≤ ls.length ∧ (∀ x ∈ l, x.Ok) ∧ lss l = ls.take m ∧ e = (.mk [.mk (.raw (.string (cat ls))) .junk .junk .junk (.row (S.length + 1) g1 1 0 l.length) (.raw (.int .i64 (off ls m))) .junk .junk, .mk .junk .junk .junk .junk .junk .junk .junk .junk, .mk .junk .junk .junk .junk .junk .junk .junk .junk, .mk .junk .junk .junk .junk .junk .junk .junk .junk, .mk .junk .junk .junk .junk .junk .junk .junk .junk] [.junk, .junk, .junk, .junk, .junk, .junk, .junk]) ∧ S' = S ++ [.other g0 (.stringIter (cat ls) (cat ls).size), .row g1 1 (encs l)]) ?_ ?_
  · refine SX_lp (α := Nat × Nat × List Rp × Nat) (fun (k, m, l, g1) => m ≤ k ∧ k ≤ ls.length ∧ (∀ x ∈ l, x.Ok) ∧ lss l = ls.take m)
      (fun (k, m, l, g1) => (.mk [.mk (.raw (.string (cat ls))) .junk .junk .junk (.row (S.length + 1) g1 1 0 l.length) (.raw (.int .i64 (off ls m))) .junk .junk, .mk .junk .junk .junk .junk (.loc S.length (g 0) 0) .junk .junk .junk, .mk .junk .junk .junk .junk .junk .junk .junk .junk, .mk .junk .junk .junk .junk .junk .junk .junk .junk, .mk .junk .junk .junk .junk .junk .junk .junk .junk] [.junk, .junk, .junk, .junk, .junk, .junk, .junk]))
      (fun (k, m, l, g1) => S ++ [.other (g 0) (.stringIter (cat ls) (off ls k)), .row g1 1 (encs l)]) (fun (k, _) => ls.length - k) 100 ?_ ?_
    · refine Cv.ex (S.length + 1) (.mk [.mk (.raw (.string (cat ls))) .junk .junk .junk (.raw (.slice none 0 0)) (.raw (.int .i64 0)) .junk .junk, .mk .junk .junk .junk .junk (.loc S.length (g 0) 0) .junk .junk .junk, .mk .junk .junk .junk .junk .junk .junk .junk .junk, .mk .junk .junk .junk .junk .junk .junk .junk .junk, .mk .junk .junk .junk .junk .junk .junk .junk .junk] [.junk, .junk, .junk, .junk, .junk, .junk, .junk]) _ ?_ (take_all (by simp)) ?_
      · simp [rlE, rlRs, rlR, rlL, DV.le]
      · refine Cv.nil 1 (fun g1 => (.mk [.mk (.raw (.string (cat ls))) .junk .junk .junk (.row (S.length + 1) g1 1 0 0) (.raw (.int .i64 0)) .junk .junk, .mk .junk .junk .junk .junk (.loc S.length (g 0) 0) .junk .junk .junk, .mk .junk .junk .junk .junk .junk .junk .junk .junk, .mk .junk .junk .junk .junk .junk .junk .junk .junk, .mk .junk .junk .junk .junk .junk .junk .junk .junk] [.junk, .junk, .junk, .junk, .junk, .junk, .junk])) (fun g1 => _) ?_ (fun g1 => rlS_refl _) (fun g1 => Cv.done ⟨(0, 0, [], g1), ⟨Nat.le_refl _, Nat.zero_le _, by simp, by simp [lss]⟩, ?_, ?_⟩)
        · intro g1; simp [rlE, rlRs, rlR, rlL, nlD]
        · simp [off_zero]
        · simp [off_zero, encs]
    · rintro ⟨k, m, l, g1⟩ ⟨hmk, hk, hlok, hll⟩
      by_cases hlt : k < ls.length
      · have h1 := off_lt h hlt
        have h2 := width_at h hlt
        have hmono := off_mono ls hmk
        have hle := off_le ls (k + 1)
        have hA : IntKind.i64.wrap ((off ls k : Int) + ((Utf8.encode ((Utf8.decode (cat ls) (off ls k)).1 : Nat)).size : Int)) = (off ls (k + 1) : Int) := by
          rw [enc_width (okAt_at h hlt), ← h2, wrap_id (by omega) (by omega)]; omega
        have hB : IntKind.i64.wrap ((off ls (k + 1) : Int) - (off ls m : Int)) = (off ls (k + 1) : Int) - (off ls m : Int) := wrap_id (by omega) (by omega)
        try simp only [h1, h2, hA, hB, ev,evA,true_and,and_true,and_self,if_true,if_false,reduceIte,ne_eq,forall_const,false_implies,beq_self_eq_true,decide_true,decide_false,Int.cast_ofNat_Int,Nat.reduceAdd,Nat.reduceLT,Nat.reduceLeDiff,Nat.reduceEqDiff,Nat.reduceBEq,Nat.reduceMul,Nat.reduceSub,Int.reduceToNat,Int.reduceEq,Int.reduceNe,Int.reduceLT,Int.reduceLE,Int.reduceBEq,Int.reduceAdd,Int.reduceSub,Int.reduceMul,hP,hW]
        refine Gc_dec (fun hc => ?_) (fun hc => ?_)
        · have hm : m < k := by
            rcases Nat.lt_or_ge m k with h4 | h4
            · exact h4
            · have : m = k := by omega
              subst this
              have := width_le (cat ls) (off ls m)
              omega
          have e1 : ((off ls m : Int) ≤ (off ls k : Int)) = True := by simp; exact hmono
          have e2 : ((off ls k : Int) ≤ ((cat ls).size : Int)) = True := by simp; exact off_le ls k
          have e3 : ((0 : Int) ≤ (off ls m : Int)) = True := by simp
          try simp only [e1, e2, e3, extract_off ls hmk, ev,evA,true_and,and_true,and_self,if_true,if_false,reduceIte,ne_eq,forall_const,false_implies,beq_self_eq_true,decide_true,decide_false,Int.cast_ofNat_Int,Nat.reduceAdd,Nat.reduceLT,Nat.reduceLeDiff,Nat.reduceEqDiff,Nat.reduceBEq,Nat.reduceMul,Nat.reduceSub,Int.reduceToNat,Int.reduceEq,Int.reduceNe,Int.reduceLT,Int.reduceLE,Int.reduceBEq,Int.reduceAdd,Int.reduceSub,Int.reduceMul,hP,hW]
          intro g2
          try simp only [e1, e2, e3, extract_off ls hmk, ev,evA,true_and,and_true,and_self,if_true,if_false,reduceIte,ne_eq,forall_const,false_implies,beq_self_eq_true,decide_true,decide_false,Int.cast_ofNat_Int,Nat.reduceAdd,Nat.reduceLT,Nat.reduceLeDiff,Nat.reduceEqDiff,Nat.reduceBEq,Nat.reduceMul,Nat.reduceSub,Int.reduceToNat,Int.reduceEq,Int.reduceNe,Int.reduceLT,Int.reduceLE,Int.reduceBEq,Int.reduceAdd,Int.reduceSub,Int.reduceMul,hP,hW]
          have hlf : (Rp.leaf ((ls.take k).drop m)).Ok := ⟨(h.take k).drop m, by intro e; have := congrArg List.length e; simp at this; omega⟩
          refine callE _ (fun S2 => t_leaf W0 S2 hlf.1 ?_) (by try simp only [ev,evA,true_and,and_true,and_self,if_true,if_false,reduceIte,ne_eq,forall_const,false_implies,beq_self_eq_true,decide_true,decide_false,Int.cast_ofNat_Int,Nat.reduceAdd,Nat.reduceLT,Nat.reduceLeDiff,Nat.reduceEqDiff,Nat.reduceBEq,Nat.reduceMul,Nat.reduceSub,Int.reduceToNat,Int.reduceEq,Int.reduceNe,Int.reduceLT,Int.reduceLE,Int.reduceBEq,Int.reduceAdd,Int.reduceSub,Int.reduceMul,hP,hW]) ?_
          · have h5 := bytes_drop (ls.take k) m
            have h6 := bytes_take ls k
            unfold Big; unfold bytes at *; omega
          try simp only [evRp, ev,evA,true_and,and_true,and_self,if_true,if_false,reduceIte,ne_eq,forall_const,false_implies,beq_self_eq_true,decide_true,decide_false,Int.cast_ofNat_Int,Nat.reduceAdd,Nat.reduceLT,Nat.reduceLeDiff,Nat.reduceEqDiff,Nat.reduceBEq,Nat.reduceMul,Nat.reduceSub,Int.reduceToNat,Int.reduceEq,Int.reduceNe,Int.reduceLT,Int.reduceLE,Int.reduceBEq,Int.reduceAdd,Int.reduceSub,Int.reduceMul,hP,hW]
          refine ⟨⟨⟨by have := len_lss hlok; rw [hll] at this; have := bytes_take ls m; unfold bytes at *; simp; omega, by have := len_lss hlok; rw [hll] at this; have := bytes_take ls m; unfold bytes at *; simp; omega⟩, by rw [encs_len]; exact Nat.le_refl _⟩, fun g3 => ?_⟩
          try simp only [evRp, ev,evA,true_and,and_true,and_self,if_true,if_false,reduceIte,ne_eq,forall_const,false_implies,beq_self_eq_true,decide_true,decide_false,Int.cast_ofNat_Int,Nat.reduceAdd,Nat.reduceLT,Nat.reduceLeDiff,Nat.reduceEqDiff,Nat.reduceBEq,Nat.reduceMul,Nat.reduceSub,Int.reduceToNat,Int.reduceEq,Int.reduceNe,Int.reduceLT,Int.reduceLE,Int.reduceBEq,Int.reduceAdd,Int.reduceSub,Int.reduceMul,hP,hW]
          refine Cv.ex (S.length + 2) _ _ ?_ ?_ (Cv.done ⟨(k + 1, k, l ++ [Rp.leaf ((ls.take k).drop m)], g3), ⟨by simp only; omega, hlt, ?_, ?_⟩, by simp only; omega, rfl, rfl⟩)
          · simp [rlE, rlRs, rlR, rlL, DV.le]
          · have e9 : (encs l).take l.length = encs l := List.take_of_length_le (by rw [encs_len]; exact Nat.le_refl _)
            rw [e9, take_append2]; simp [encs]
          · intro x hx
            rcases List.mem_append.1 hx with hx | hx
            · exact hlok x hx
            · simp at hx; subst hx; exact hlf
          · rw [lss_append, hll]
            simp only [lss, List.flatMap_cons, List.flatMap_nil, List.append_nil, Rp.ls]
            have := List.take_append_drop m (ls.take k)
            rwa [List.take_take, Nat.min_eq_left hmk] at this
        · try simp only [ev,evA,true_and,and_true,and_self,if_true,if_false,reduceIte,ne_eq,forall_const,false_implies,beq_self_eq_true,decide_true,decide_false,Int.cast_ofNat_Int,Nat.reduceAdd,Nat.reduceLT,Nat.reduceLeDiff,Nat.reduceEqDiff,Nat.reduceBEq,Nat.reduceMul,Nat.reduceSub,Int.reduceToNat,Int.reduceEq,Int.reduceNe,Int.reduceLT,Int.reduceLE,Int.reduceBEq,Int.reduceAdd,Int.reduceSub,Int.reduceMul,hP,hW]
          refine Cv.ex (S.length + 2) _ _ ?_ (take_all (by simp)) (Cv.done ⟨(k + 1, m, l, g1), ⟨by simp only; omega, hlt, hlok, hll⟩, by simp only; omega, rfl, rfl⟩)
          simp [rlE, rlRs, rlR, rlL, DV.le]
      · have hk' : k = ls.length := by omega
        subst hk'
        have h1 : ¬ off ls ls.length < (cat ls).size := by rw [off_all (Nat.le_refl _)]; omega
        try simp only [h1, ev,evA,true_and,and_true,and_self,if_true,if_false,reduceIte,ne_eq,forall_const,false_implies,beq_self_eq_true,decide_true,decide_false,Int.cast_ofNat_Int,Nat.reduceAdd,Nat.reduceLT,Nat.reduceLeDiff,Nat.reduceEqDiff,Nat.reduceBEq,Nat.reduceMul,Nat.reduceSub,Int.reduceToNat,Int.reduceEq,Int.reduceNe,Int.reduceLT,Int.reduceLE,Int.reduceBEq,Int.reduceAdd,Int.reduceSub,Int.reduceMul,hP,hW]
        refine Cv.ex (S.length + 2) _ _ ?_ (take_all (by simp)) (Cv.done ⟨g 0, g1, m, l, hmk, hlok, hll, rfl, by rw [off_all (Nat.le_refl _)]⟩)
        simp [rlE, rlRs, rlR, rlL, DV.le]
  · intro e S' hcv
    refine SX_cv (by rw [hW]; exact hcv) ?_
    rintro e S' ⟨g0, g1, m, l, hm, hlok, hll, rfl, rfl⟩
    have hlm := off_le ls m
    have tail : ∀ (l : List Rp) (n : Nat), n = l.length → (∀ x ∈ l, x.Ok) → lss l = ls → ∀ (S1 : List SO) (g1 : Nat), S1[S.length + 1]? = some (.row g1 1 (encs l)) → S1.take S.length = S →
        Ct Tryd.prog W0 n_rope_build [.row (S.length + 1) g1 1 0 n] S1 (fun o S' => S' = S ∧ ∃ d, o = .ret d ∧ RopeQ ls d) := by
      intro l n hn hlok hl S1 g1 h1 h2
      refine (CtP.fzA S.length 3 (q := RopeQ ls) ?_).mono (fun o S' ⟨k1, k2⟩ => ⟨by rw [k1, h2], k2⟩)
      rw [List.map_cons, List.map_nil, fz_row h1 (by omega) ?_ _ (by rw [encs_len, hn]), h2, ← hl]
      · exact t_build L.mixed W0 _ S false l (Nat.le_refl _) hlok (by rw [hl]; exact hbig)
      · intro e he d hd
        simp only [encs, List.mem_map] at he
        obtain ⟨x, _, rfl⟩ := he
        simp at hd
        subst hd
        exact evRp.2.2.1 S1 S.length 1 x
    refine SX_of_G 100 ?_
    try simp only [ev,evA,true_and,and_true,and_self,if_true,if_false,reduceIte,ne_eq,forall_const,false_implies,beq_self_eq_true,decide_true,decide_false,Int.cast_ofNat_Int,Nat.reduceAdd,Nat.reduceLT,Nat.reduceLeDiff,Nat.reduceEqDiff,Nat.reduceBEq,Nat.reduceMul,Nat.reduceSub,Int.reduceToNat,Int.reduceEq,Int.reduceNe,Int.reduceLT,Int.reduceLE,Int.reduceBEq,Int.reduceAdd,Int.reduceSub,Int.reduceMul,hP,hW]
    refine Gc_dec (fun hc => ?_) (fun hc => ?_)
    · have e1 : ((0 : Int) ≤ (off ls m : Int)) = True := by simp
      have e2 : ((off ls m : Int) ≤ ((cat ls).size : Int)) = True := by simp; exact off_le ls m
      have hlt : m < ls.length := by
        rcases Nat.lt_or_ge m ls.length with h4 | h4
        · exact h4
        · rw [off_all h4] at hc; omega
      have hlf : (Rp.leaf (ls.drop m)).Ok := ⟨h.drop m, by intro e; have := congrArg List.length e; simp at this; omega⟩
      try simp only [ev,evA,true_and,and_true,and_self,if_true,if_false,reduceIte,ne_eq,forall_const,false_implies,beq_self_eq_true,decide_true,decide_false,Int.cast_ofNat_Int,Nat.reduceAdd,Nat.reduceLT,Nat.reduceLeDiff,Nat.reduceEqDiff,Nat.reduceBEq,Nat.reduceMul,Nat.reduceSub,Int.reduceToNat,Int.reduceEq,Int.reduceNe,Int.reduceLT,Int.reduceLE,Int.reduceBEq,Int.reduceAdd,Int.reduceSub,Int.reduceMul,hP,hW]
      intro g2
      try simp only [e1, e2, extract_from ls m, ev,evA,true_and,and_true,and_self,if_true,if_false,reduceIte,ne_eq,forall_const,false_implies,beq_self_eq_true,decide_true,decide_false,Int.cast_ofNat_Int,Nat.reduceAdd,Nat.reduceLT,Nat.reduceLeDiff,Nat.reduceEqDiff,Nat.reduceBEq,Nat.reduceMul,Nat.reduceSub,Int.reduceToNat,Int.reduceEq,Int.reduceNe,Int.reduceLT,Int.reduceLE,Int.reduceBEq,Int.reduceAdd,Int.reduceSub,Int.reduceMul,hP,hW]
      refine callE _ (fun S2 => t_leaf W0 S2 hlf.1 ?_) (by try simp only [ev,evA,true_and,and_true,and_self,if_true,if_false,reduceIte,ne_eq,forall_const,false_implies,beq_self_eq_true,decide_true,decide_false,Int.cast_ofNat_Int,Nat.reduceAdd,Nat.reduceLT,Nat.reduceLeDiff,Nat.reduceEqDiff,Nat.reduceBEq,Nat.reduceMul,Nat.reduceSub,Int.reduceToNat,Int.reduceEq,Int.reduceNe,Int.reduceLT,Int.reduceLE,Int.reduceBEq,Int.reduceAdd,Int.reduceSub,Int.reduceMul,hP,hW]) ?_
      · have h5 := bytes_drop ls m
        unfold Big; unfold bytes at *; omega
      try simp only [evRp, ev,evA,true_and,and_true,and_self,if_true,if_false,reduceIte,ne_eq,forall_const,false_implies,beq_self_eq_true,decide_true,decide_false,Int.cast_ofNat_Int,Nat.reduceAdd,Nat.reduceLT,Nat.reduceLeDiff,Nat.reduceEqDiff,Nat.reduceBEq,Nat.reduceMul,Nat.reduceSub,Int.reduceToNat,Int.reduceEq,Int.reduceNe,Int.reduceLT,Int.reduceLE,Int.reduceBEq,Int.reduceAdd,Int.reduceSub,Int.reduceMul,hP,hW]
      refine ⟨⟨⟨by have := len_lss hlok; rw [hll] at this; have := bytes_take ls m; unfold bytes at *; simp; omega, by have := len_lss hlok; rw [hll] at this; have := bytes_take ls m; unfold bytes at *; simp; omega⟩, by rw [encs_len]; exact Nat.le_refl _⟩, fun g3 => ?_⟩
      try simp only [evRp, ev,evA,true_and,and_true,and_self,if_true,if_false,reduceIte,ne_eq,forall_const,false_implies,beq_self_eq_true,decide_true,decide_false,Int.cast_ofNat_Int,Nat.reduceAdd,Nat.reduceLT,Nat.reduceLeDiff,Nat.reduceEqDiff,Nat.reduceBEq,Nat.reduceMul,Nat.reduceSub,Int.reduceToNat,Int.reduceEq,Int.reduceNe,Int.reduceLT,Int.reduceLE,Int.reduceBEq,Int.reduceAdd,Int.reduceSub,Int.reduceMul,hP,hW]
      refine callG _ (tail (l ++ [Rp.leaf (ls.drop m)]) _ (by simp) ?_ ?_ _ g3 ?_ ?_) (fun _ => ?_) (by try simp only [ev,evA,true_and,and_true,and_self,if_true,if_false,reduceIte,ne_eq,forall_const,false_implies,beq_self_eq_true,decide_true,decide_false,Int.cast_ofNat_Int,Nat.reduceAdd,Nat.reduceLT,Nat.reduceLeDiff,Nat.reduceEqDiff,Nat.reduceBEq,Nat.reduceMul,Nat.reduceSub,Int.reduceToNat,Int.reduceEq,Int.reduceNe,Int.reduceLT,Int.reduceLE,Int.reduceBEq,Int.reduceAdd,Int.reduceSub,Int.reduceMul,hP,hW]) ?_ ?_
      · intro x hx
        rcases List.mem_append.1 hx with hx | hx
        · exact hlok x hx
        · simp at hx; subst hx; exact hlf
      · rw [lss_append, hll]; simp [lss, Rp.ls]
      · have e9 : (encs l).take l.length = encs l := List.take_of_length_le (by rw [encs_len]; exact Nat.le_refl _)
        rw [e9]; simp [encs]
      · simp
      · obtain ⟨d, hd⟩ := ropeQ h; exact ⟨d, S, rfl, d, rfl, hd⟩
      · rintro d S' ⟨hS, d', hd, c, rfl, hcok, hcl⟩
        rw [hS]
        cases hd
        try simp only [ev,evA,true_and,and_true,and_self,if_true,if_false,reduceIte,ne_eq,forall_const,false_implies,beq_self_eq_true,decide_true,decide_false,Int.cast_ofNat_Int,Nat.reduceAdd,Nat.reduceLT,Nat.reduceLeDiff,Nat.reduceEqDiff,Nat.reduceBEq,Nat.reduceMul,Nat.reduceSub,Int.reduceToNat,Int.reduceEq,Int.reduceNe,Int.reduceLT,Int.reduceLE,Int.reduceBEq,Int.reduceAdd,Int.reduceSub,Int.reduceMul,hP,hW]
        refine hret _ _ S.length 5 ?_
        simp only [r_rope_New, evRo, ev,evA,true_and,and_true,and_self,if_true,if_false,reduceIte,ne_eq,forall_const,false_implies,beq_self_eq_true,decide_true,decide_false,Int.cast_ofNat_Int,Nat.reduceAdd,Nat.reduceLT,Nat.reduceLeDiff,Nat.reduceEqDiff,Nat.reduceBEq,Nat.reduceMul,Nat.reduceSub,Int.reduceToNat,Int.reduceEq,Int.reduceNe,Int.reduceLT,Int.reduceLE,Int.reduceBEq,Int.reduceAdd,Int.reduceSub,Int.reduceMul,hP,hW]
        exact ⟨_, rfl, c, rfl, hcok, hcl⟩
      · rintro d S' ⟨rfl, d', hd, _⟩; cases hd
    · have hle : ls.length ≤ m := by
        rcases Nat.lt_or_ge m ls.length with h4 | h4
        · have := off_lt h h4; omega
        · exact h4
      have hls : lss l = ls := by rw [hll, List.take_of_length_le hle]
      try simp only [ev,evA,true_and,and_true,and_self,if_true,if_false,reduceIte,ne_eq,forall_const,false_implies,beq_self_eq_true,decide_true,decide_false,Int.cast_ofNat_Int,Nat.reduceAdd,Nat.reduceLT,Nat.reduceLeDiff,Nat.reduceEqDiff,Nat.reduceBEq,Nat.reduceMul,Nat.reduceSub,Int.reduceToNat,Int.reduceEq,Int.reduceNe,Int.reduceLT,Int.reduceLE,Int.reduceBEq,Int.reduceAdd,Int.reduceSub,Int.reduceMul,hP,hW]
      refine callG _ (tail l _ rfl hlok hls _ g1 ?_ ?_) (fun _ => ?_) (by try simp only [ev,evA,true_and,and_true,and_self,if_true,if_false,reduceIte,ne_eq,forall_const,false_implies,beq_self_eq_true,decide_true,decide_false,Int.cast_ofNat_Int,Nat.reduceAdd,Nat.reduceLT,Nat.reduceLeDiff,Nat.reduceEqDiff,Nat.reduceBEq,Nat.reduceMul,Nat.reduceSub,Int.reduceToNat,Int.reduceEq,Int.reduceNe,Int.reduceLT,Int.reduceLE,Int.reduceBEq,Int.reduceAdd,Int.reduceSub,Int.reduceMul,hP,hW]) ?_ ?_
      · simp
      · simp
      · obtain ⟨d, hd⟩ := ropeQ h; exact ⟨d, S, rfl, d, rfl, hd⟩
      · rintro d S' ⟨hS, d', hd, c, rfl, hcok, hcl⟩
        rw [hS]
        cases hd
        try simp only [ev,evA,true_and,and_true,and_self,if_true,if_false,reduceIte,ne_eq,forall_const,false_implies,beq_self_eq_true,decide_true,decide_false,Int.cast_ofNat_Int,Nat.reduceAdd,Nat.reduceLT,Nat.reduceLeDiff,Nat.reduceEqDiff,Nat.reduceBEq,Nat.reduceMul,Nat.reduceSub,Int.reduceToNat,Int.reduceEq,Int.reduceNe,Int.reduceLT,Int.reduceLE,Int.reduceBEq,Int.reduceAdd,Int.reduceSub,Int.reduceMul,hP,hW]
        refine hret _ _ S.length 5 ?_
        simp only [r_rope_New, evRo, ev,evA,true_and,and_true,and_self,if_true,if_false,reduceIte,ne_eq,forall_const,false_implies,beq_self_eq_true,decide_true,decide_false,Int.cast_ofNat_Int,Nat.reduceAdd,Nat.reduceLT,Nat.reduceLeDiff,Nat.reduceEqDiff,Nat.reduceBEq,Nat.reduceMul,Nat.reduceSub,Int.reduceToNat,Int.reduceEq,Int.reduceNe,Int.reduceLT,Int.reduceLE,Int.reduceBEq,Int.reduceAdd,Int.reduceSub,Int.reduceMul,hP,hW]
        exact ⟨_, rfl, c, rfl, hcok, hcl⟩
      · rintro d S' ⟨rfl, d', hd, _⟩; cases hd
end Go.Dv
/-
  Marks in memory; add.
-/
namespace Go.Dv
open Go Go.RowKit Go.Proofs
set_option linter.unusedSimpArgs false
set_option linter.unusedVariables false
set_option maxRecDepth 8000

abbrev I (n : Int) : DV := .raw (.int .i64 n)
def Sp.c (s : Sp) : List DV := [.raw (.int .i64 s.m), .raw (.int .i64 s.f), .raw (.int .i64 s.t)]
def Si.c (s : Si) : List DV := [.raw (.int .i64 s.m), .raw (.int .i64 s.a)]
def encSp (l : List Sp) : List (List DV) := l.map Sp.c
def encSi (l : List Si) : List (List DV) := l.map Si.c
theorem encSp_len (l : List Sp) : (encSp l).length = l.length := by simp [encSp]
theorem encSi_len (l : List Si) : (encSi l).length = l.length := by simp [encSi]
theorem encSp_app (a b : List Sp) : encSp (a ++ b) = encSp a ++ encSp b := by simp [encSp]
theorem encSi_app (a b : List Si) : encSi (a ++ b) = encSi a ++ encSi b := by simp [encSi]
theorem encSp_nil : encSp [] = [] := rfl
theorem encSi_nil : encSi [] = [] := rfl
theorem encSp_take (l : List Sp) (n : Nat) : (encSp l).take n = encSp (l.take n) := by simp [encSp, List.map_take]
theorem encSi_take (l : List Si) (n : Nat) : (encSi l).take n = encSi (l.take n) := by simp [encSi, List.map_take]
theorem atE_sp {l : List Sp} {k : Nat} (h : k < l.length) : atE (encSp l) k = [.raw (.int .i64 l[k].m), .raw (.int .i64 l[k].f), .raw (.int .i64 l[k].t)] := by
  unfold atE encSp
  rw [List.getD_eq_getElem?_getD, List.getElem?_map, List.getElem?_eq_getElem h]; rfl
theorem atE_si {l : List Si} {k : Nat} (h : k < l.length) : atE (encSi l) k = [.raw (.int .i64 l[k].m), .raw (.int .i64 l[k].a)] := by
  unfold atE encSi
  rw [List.getD_eq_getElem?_getD, List.getElem?_map, List.getElem?_eq_getElem h]; rfl
theorem getD_sp {l : List Sp} {k : Nat} (h : k < l.length) : (encSp l).getD k [] = [.raw (.int .i64 l[k].m), .raw (.int .i64 l[k].f), .raw (.int .i64 l[k].t)] := atE_sp h
theorem getD_si {l : List Si} {k : Nat} (h : k < l.length) : (encSi l).getD k [] = [.raw (.int .i64 l[k].m), .raw (.int .i64 l[k].a)] := atE_si h
theorem encSp_fz (S : List SO) (n k : Nat) (l : List Sp) : ∀ e ∈ encSp l, ∀ d ∈ e, fz S n (k + 1) d = d := by
  intro e he d hd
  simp only [encSp, List.mem_map] at he
  obtain ⟨x, _, rfl⟩ := he
  simp only [Sp.c, List.mem_cons, List.not_mem_nil, or_false] at hd
  rcases hd with rfl | rfl | rfl <;> rfl
theorem encSi_fz (S : List SO) (n k : Nat) (l : List Si) : ∀ e ∈ encSi l, ∀ d ∈ e, fz S n (k + 1) d = d := by
  intro e he d hd
  simp only [encSi, List.mem_map] at he
  obtain ⟨x, _, rfl⟩ := he
  simp only [Si.c, List.mem_cons, List.not_mem_nil, or_false] at hd
  rcases hd with rfl | rfl <;> rfl

theorem encSp_map (S : List SO) (n k : Nat) (l : List Sp) : (encSp l).map (fun e => e.map (fz S n (k + 1))) = encSp l :=
  (List.map_congr_left fun e h => (List.map_congr_left fun d hd => encSp_fz S n k l e h d hd).trans (List.map_id _)).trans (List.map_id _)
theorem encSi_map (S : List SO) (n k : Nat) (l : List Si) : (encSi l).map (fun e => e.map (fz S n (k + 1))) = encSi l :=
  (List.map_congr_left fun e h => (List.map_congr_left fun d hd => encSi_fz S n k l e h d hd).trans (List.map_id _)).trans (List.map_id _)
theorem evMk : type_of% (And.intro encSp_len (And.intro encSi_len (And.intro encSp_take (And.intro encSi_take (And.intro encSp_map encSi_map))))) := And.intro encSp_len (And.intro encSi_len (And.intro encSp_take (And.intro encSi_take (And.intro encSp_map encSi_map))))

/-- Numbers that are far from their ends. -/
def Sm (n : Int) : Prop := -4611686018427387904 ≤ n ∧ n ≤ 4611686018427387904

theorem get_app {S ext : List SO} {i : Nat} {o : SO} (h : S[i]? = some o) : (S ++ ext)[i]? = some o := by
  rw [List.getElem?_append_left (List.getElem?_eq_some_iff.1 h).1]; exact h
theorem set_app {S ext : List SO} {i : Nat} {o : SO} (h : S[i]? = some o) (x : SO) : (S ++ ext).set i x = S.set i x ++ ext := by
  rw [List.set_append_left _ _ (List.getElem?_eq_some_iff.1 h).1]

theorem take_set {S ext : List SO} {i : Nat} {x : SO} (h : i < S.length) : (S.set i x ++ ext).take S.length = S.set i x := by
  have : (S.set i x).length = S.length := by simp
  rw [← this]; exact List.take_left

theorem t_add (hm : Tryd.prog.follows .mixedOrders = true) (W0 : World) (S : List SO) {i g : Nat} {l : List Sp} (hS : S[i]? = some (.row g 3 (encSp l))) (hl : l.length ≤ 1099511627776) (s : Sp) :
    Ct Tryd.prog W0 n_marks_add [.row i g 3 0 l.length, .agg (Sp.c s)] S (fun o S' => ∃ g', S' = S.set i (.row g' 3 (encSp (addS l s))) ∧ o = .ret (.row i g' 3 0 (addS l s).length)) := by
  have hi := (List.getElem?_eq_some_iff.1 hS).1
  have hself : S.set i (.row g 3 (encSp l)) = S := by
    have := (List.getElem?_eq_some_iff.1 hS).2
    rw [← this]; exact List.set_getElem_self hi
  refine Ct_R k_marks_add 400 (.mk [.mk (.row i g 3 0 l.length) (.agg (Sp.c s)) .junk .junk .junk .junk .junk .junk, .mk .junk .junk .junk .junk .junk .junk .junk .junk, .mk .junk .junk .junk .junk .junk .junk .junk .junk, .mk .junk .junk .junk .junk .junk .junk .junk .junk, .mk .junk .junk .junk .junk .junk .junk .junk .junk, .mk .junk .junk .junk .junk .junk .junk .junk .junk] [.junk, .junk]) rfl rfl fun r hP hW hpan hret => ?_
  simp only [c_marks_add, ev,evA,true_and,and_true,and_self,if_true,if_false,reduceIte,ne_eq,forall_const,false_implies,beq_self_eq_true,decide_true,decide_false,Int.cast_ofNat_Int,Nat.reduceAdd,Nat.reduceLT,Nat.reduceLeDiff,Nat.reduceEqDiff,Nat.reduceBEq,Nat.reduceMul,Nat.reduceSub,Int.reduceToNat,Int.reduceEq,Int.reduceNe,Int.reduceLT,Int.reduceLE,Int.reduceBEq,Int.reduceAdd,Int.reduceSub,Int.reduceMul,hP,hW]
  intro g0
  try simp only [Sp.c, ev,evA,true_and,and_true,and_self,if_true,if_false,reduceIte,ne_eq,forall_const,false_implies,beq_self_eq_true,decide_true,decide_false,Int.cast_ofNat_Int,Nat.reduceAdd,Nat.reduceLT,Nat.reduceLeDiff,Nat.reduceEqDiff,Nat.reduceBEq,Nat.reduceMul,Nat.reduceSub,Int.reduceToNat,Int.reduceEq,Int.reduceNe,Int.reduceLT,Int.reduceLE,Int.reduceBEq,Int.reduceAdd,Int.reduceSub,Int.reduceMul,hP,hW]
  refine Gc_dec (fun hc => ?_) (fun hc => ?_)
  · try simp only [ev,evA,true_and,and_true,and_self,if_true,if_false,reduceIte,ne_eq,forall_const,false_implies,beq_self_eq_true,decide_true,decide_false,Int.cast_ofNat_Int,Nat.reduceAdd,Nat.reduceLT,Nat.reduceLeDiff,Nat.reduceEqDiff,Nat.reduceBEq,Nat.reduceMul,Nat.reduceSub,Int.reduceToNat,Int.reduceEq,Int.reduceNe,Int.reduceLT,Int.reduceLE,Int.reduceBEq,Int.reduceAdd,Int.reduceSub,Int.reduceMul,hP,hW]
    refine hret _ _  S.length  0 ?_
    simp only [r_marks_add, ev,evA,true_and,and_true,and_self,if_true,if_false,reduceIte,ne_eq,forall_const,false_implies,beq_self_eq_true,decide_true,decide_false,Int.cast_ofNat_Int,Nat.reduceAdd,Nat.reduceLT,Nat.reduceLeDiff,Nat.reduceEqDiff,Nat.reduceBEq,Nat.reduceMul,Nat.reduceSub,Int.reduceToNat,Int.reduceEq,Int.reduceNe,Int.reduceLT,Int.reduceLE,Int.reduceBEq,Int.reduceAdd,Int.reduceSub,Int.reduceMul,hP,hW]
    exact ⟨g, by rw [addS_skip hc, hself], by rw [addS_skip hc]⟩
  · try simp only [hm, ev,evA,true_and,and_true,and_self,if_true,if_false,reduceIte,ne_eq,forall_const,false_implies,beq_self_eq_true,decide_true,decide_false,Int.cast_ofNat_Int,Nat.reduceAdd,Nat.reduceLT,Nat.reduceLeDiff,Nat.reduceEqDiff,Nat.reduceBEq,Nat.reduceMul,Nat.reduceSub,Int.reduceToNat,Int.reduceEq,Int.reduceNe,Int.reduceLT,Int.reduceLE,Int.reduceBEq,Int.reduceAdd,Int.reduceSub,Int.reduceMul,hP,hW]
    rcases List.eq_nil_or_concat l with rfl | ⟨l0, q, hlq⟩
    · try simp only [ev,evA,true_and,and_true,and_self,if_true,if_false,reduceIte,ne_eq,forall_const,false_implies,beq_self_eq_true,decide_true,decide_false,Int.cast_ofNat_Int,Nat.reduceAdd,Nat.reduceLT,Nat.reduceLeDiff,Nat.reduceEqDiff,Nat.reduceBEq,Nat.reduceMul,Nat.reduceSub,Int.reduceToNat,Int.reduceEq,Int.reduceNe,Int.reduceLT,Int.reduceLE,Int.reduceBEq,Int.reduceAdd,Int.reduceSub,Int.reduceMul,hP,hW]
      intro g1
      try simp only [get_app hS, encSp_nil, ev,evA,true_and,and_true,and_self,if_true,if_false,reduceIte,ne_eq,forall_const,false_implies,beq_self_eq_true,decide_true,decide_false,Int.cast_ofNat_Int,Nat.reduceAdd,Nat.reduceLT,Nat.reduceLeDiff,Nat.reduceEqDiff,Nat.reduceBEq,Nat.reduceMul,Nat.reduceSub,Int.reduceToNat,Int.reduceEq,Int.reduceNe,Int.reduceLT,Int.reduceLE,Int.reduceBEq,Int.reduceAdd,Int.reduceSub,Int.reduceMul,hP,hW]
      intro g2
      try simp only [set_app hS, ev,evA,true_and,and_true,and_self,if_true,if_false,reduceIte,ne_eq,forall_const,false_implies,beq_self_eq_true,decide_true,decide_false,Int.cast_ofNat_Int,Nat.reduceAdd,Nat.reduceLT,Nat.reduceLeDiff,Nat.reduceEqDiff,Nat.reduceBEq,Nat.reduceMul,Nat.reduceSub,Int.reduceToNat,Int.reduceEq,Int.reduceNe,Int.reduceLT,Int.reduceLE,Int.reduceBEq,Int.reduceAdd,Int.reduceSub,Int.reduceMul,hP,hW]
      refine hret _ _  S.length  0 ?_
      simp only [r_marks_add, ev,evA,true_and,and_true,and_self,if_true,if_false,reduceIte,ne_eq,forall_const,false_implies,beq_self_eq_true,decide_true,decide_false,Int.cast_ofNat_Int,Nat.reduceAdd,Nat.reduceLT,Nat.reduceLeDiff,Nat.reduceEqDiff,Nat.reduceBEq,Nat.reduceMul,Nat.reduceSub,Int.reduceToNat,Int.reduceEq,Int.reduceNe,Int.reduceLT,Int.reduceLE,Int.reduceBEq,Int.reduceAdd,Int.reduceSub,Int.reduceMul,hP,hW]
      have ea : addS [] s = [s] := by unfold addS; rw [if_neg (by omega)]; rfl
      refine ⟨g2, by rw [take_set hi, ea]; rfl, by rw [ea]; rfl⟩
    · rw [List.concat_eq_append] at hlq
      subst hlq
      have hll : l0.length < 1099511627776 := by simp at hl; omega
      have e1 : decide ((0 : Int) < ((l0.length + 1 : Nat) : Int)) = true := decide_eq_true (by omega)
      have e2 : IntKind.i64.wrap (((l0.length + 1 : Nat) : Int) - 1) = (l0.length : Int) := by rw [wrap_id (by omega) (by omega)]; omega
      have e3 : atE (encSp (l0 ++ [q])) l0.length = [.raw (.int .i64 q.m), .raw (.int .i64 q.f), .raw (.int .i64 q.t)] := by rw [atE_sp (by simp)]; simp
      have e4 : (0 ≤ (l0.length : Int) ∧ (l0.length : Int) < ((l0.length + 1 : Nat) : Int)) = True := by simp; omega
      have e5 : (l0.length < (encSp (l0 ++ [q])).length) = True := by simp [encSp_len]
      have eg : (l0 ++ [q]).getLast? = some q := by simp
      have app : ∀ (b : Bool), ¬ (q.t = s.f ∧ q.m = s.m) → addS (l0 ++ [q]) s = l0 ++ [q] ++ [s] := by
        intro b h
        unfold addS
        rw [if_neg (by omega), eg]; simp only; rw [if_neg h]
      have e6 : (encSp (l0 ++ [q])).take (l0.length + 1) = encSp (l0 ++ [q]) := List.take_of_length_le (by rw [encSp_len]; simp)
      have e7 : roomP (l0.length + 1 + 1) 24 = True := by simp [roomP]; omega
      have e8 : (l0.length + 1 ≤ (encSp (l0 ++ [q])).length) = True := by simp [encSp_len]
      try simp only [hm, get_app hS, List.length_append, List.length_cons, e1, e2, e3, e4, e5, ev,evA,true_and,and_true,and_self,if_true,if_false,reduceIte,ne_eq,forall_const,false_implies,beq_self_eq_true,decide_true,decide_false,Int.cast_ofNat_Int,Nat.reduceAdd,Nat.reduceLT,Nat.reduceLeDiff,Nat.reduceEqDiff,Nat.reduceBEq,Nat.reduceMul,Nat.reduceSub,Int.reduceToNat,Int.reduceEq,Int.reduceNe,Int.reduceLT,Int.reduceLE,Int.reduceBEq,Int.reduceAdd,Int.reduceSub,Int.reduceMul,hP,hW]
      cases h1 : (q.t == s.f)
      · try simp only [hm, get_app hS, List.length_append, List.length_cons, e1, e2, e3, e4, e5, ev,evA,true_and,and_true,and_self,if_true,if_false,reduceIte,ne_eq,forall_const,false_implies,beq_self_eq_true,decide_true,decide_false,Int.cast_ofNat_Int,Nat.reduceAdd,Nat.reduceLT,Nat.reduceLeDiff,Nat.reduceEqDiff,Nat.reduceBEq,Nat.reduceMul,Nat.reduceSub,Int.reduceToNat,Int.reduceEq,Int.reduceNe,Int.reduceLT,Int.reduceLE,Int.reduceBEq,Int.reduceAdd,Int.reduceSub,Int.reduceMul,hP,hW]
        intro g1
        try simp only [hm, get_app hS, List.length_append, List.length_cons, e6, e7, e8, ev,evA,true_and,and_true,and_self,if_true,if_false,reduceIte,ne_eq,forall_const,false_implies,beq_self_eq_true,decide_true,decide_false,Int.cast_ofNat_Int,Nat.reduceAdd,Nat.reduceLT,Nat.reduceLeDiff,Nat.reduceEqDiff,Nat.reduceBEq,Nat.reduceMul,Nat.reduceSub,Int.reduceToNat,Int.reduceEq,Int.reduceNe,Int.reduceLT,Int.reduceLE,Int.reduceBEq,Int.reduceAdd,Int.reduceSub,Int.reduceMul,hP,hW]
        refine ⟨by omega, fun g2 => ?_⟩
        try simp only [set_app hS, ev,evA,true_and,and_true,and_self,if_true,if_false,reduceIte,ne_eq,forall_const,false_implies,beq_self_eq_true,decide_true,decide_false,Int.cast_ofNat_Int,Nat.reduceAdd,Nat.reduceLT,Nat.reduceLeDiff,Nat.reduceEqDiff,Nat.reduceBEq,Nat.reduceMul,Nat.reduceSub,Int.reduceToNat,Int.reduceEq,Int.reduceNe,Int.reduceLT,Int.reduceLE,Int.reduceBEq,Int.reduceAdd,Int.reduceSub,Int.reduceMul,hP,hW]
        refine hret _ _  S.length  0 ?_
        simp only [r_marks_add, ev,evA,true_and,and_true,and_self,if_true,if_false,reduceIte,ne_eq,forall_const,false_implies,beq_self_eq_true,decide_true,decide_false,Int.cast_ofNat_Int,Nat.reduceAdd,Nat.reduceLT,Nat.reduceLeDiff,Nat.reduceEqDiff,Nat.reduceBEq,Nat.reduceMul,Nat.reduceSub,Int.reduceToNat,Int.reduceEq,Int.reduceNe,Int.reduceLT,Int.reduceLE,Int.reduceBEq,Int.reduceAdd,Int.reduceSub,Int.reduceMul,hP,hW]
        have h2 := app true (by rintro ⟨h, _⟩; rw [h] at h1; simp at h1)
        exact ⟨g2, by rw [take_set hi, h2, encSp_app (l0 ++ [q]) [s]]; rfl, by rw [h2]; simp⟩
      · try simp only [hm, get_app hS, List.length_append, List.length_cons, e1, e2, e3, e4, e5, ev,evA,true_and,and_true,and_self,if_true,if_false,reduceIte,ne_eq,forall_const,false_implies,beq_self_eq_true,decide_true,decide_false,Int.cast_ofNat_Int,Nat.reduceAdd,Nat.reduceLT,Nat.reduceLeDiff,Nat.reduceEqDiff,Nat.reduceBEq,Nat.reduceMul,Nat.reduceSub,Int.reduceToNat,Int.reduceEq,Int.reduceNe,Int.reduceLT,Int.reduceLE,Int.reduceBEq,Int.reduceAdd,Int.reduceSub,Int.reduceMul,hP,hW]
        cases h2 : (q.m == s.m)
        · try simp only [hm, get_app hS, List.length_append, List.length_cons, e1, e2, e3, e4, e5, ev,evA,true_and,and_true,and_self,if_true,if_false,reduceIte,ne_eq,forall_const,false_implies,beq_self_eq_true,decide_true,decide_false,Int.cast_ofNat_Int,Nat.reduceAdd,Nat.reduceLT,Nat.reduceLeDiff,Nat.reduceEqDiff,Nat.reduceBEq,Nat.reduceMul,Nat.reduceSub,Int.reduceToNat,Int.reduceEq,Int.reduceNe,Int.reduceLT,Int.reduceLE,Int.reduceBEq,Int.reduceAdd,Int.reduceSub,Int.reduceMul,hP,hW]
          intro g1
          try simp only [hm, get_app hS, List.length_append, List.length_cons, e6, e7, e8, ev,evA,true_and,and_true,and_self,if_true,if_false,reduceIte,ne_eq,forall_const,false_implies,beq_self_eq_true,decide_true,decide_false,Int.cast_ofNat_Int,Nat.reduceAdd,Nat.reduceLT,Nat.reduceLeDiff,Nat.reduceEqDiff,Nat.reduceBEq,Nat.reduceMul,Nat.reduceSub,Int.reduceToNat,Int.reduceEq,Int.reduceNe,Int.reduceLT,Int.reduceLE,Int.reduceBEq,Int.reduceAdd,Int.reduceSub,Int.reduceMul,hP,hW]
          refine ⟨by omega, fun g2 => ?_⟩
          try simp only [set_app hS, ev,evA,true_and,and_true,and_self,if_true,if_false,reduceIte,ne_eq,forall_const,false_implies,beq_self_eq_true,decide_true,decide_false,Int.cast_ofNat_Int,Nat.reduceAdd,Nat.reduceLT,Nat.reduceLeDiff,Nat.reduceEqDiff,Nat.reduceBEq,Nat.reduceMul,Nat.reduceSub,Int.reduceToNat,Int.reduceEq,Int.reduceNe,Int.reduceLT,Int.reduceLE,Int.reduceBEq,Int.reduceAdd,Int.reduceSub,Int.reduceMul,hP,hW]
          refine hret _ _  S.length  0 ?_
          simp only [r_marks_add, ev,evA,true_and,and_true,and_self,if_true,if_false,reduceIte,ne_eq,forall_const,false_implies,beq_self_eq_true,decide_true,decide_false,Int.cast_ofNat_Int,Nat.reduceAdd,Nat.reduceLT,Nat.reduceLeDiff,Nat.reduceEqDiff,Nat.reduceBEq,Nat.reduceMul,Nat.reduceSub,Int.reduceToNat,Int.reduceEq,Int.reduceNe,Int.reduceLT,Int.reduceLE,Int.reduceBEq,Int.reduceAdd,Int.reduceSub,Int.reduceMul,hP,hW]
          have h3 := app true (by rintro ⟨_, h⟩; rw [h] at h2; simp at h2)
          exact ⟨g2, by rw [take_set hi, h3, encSp_app (l0 ++ [q]) [s]]; rfl, by rw [h3]; simp⟩
        · try simp only [hm, get_app hS, List.length_append, List.length_cons, e1, e2, e3, e4, e5, ev,evA,true_and,and_true,and_self,if_true,if_false,reduceIte,ne_eq,forall_const,false_implies,beq_self_eq_true,decide_true,decide_false,Int.cast_ofNat_Int,Nat.reduceAdd,Nat.reduceLT,Nat.reduceLeDiff,Nat.reduceEqDiff,Nat.reduceBEq,Nat.reduceMul,Nat.reduceSub,Int.reduceToNat,Int.reduceEq,Int.reduceNe,Int.reduceLT,Int.reduceLE,Int.reduceBEq,Int.reduceAdd,Int.reduceSub,Int.reduceMul,hP,hW]
          try simp only [set_app hS, ev,evA,true_and,and_true,and_self,if_true,if_false,reduceIte,ne_eq,forall_const,false_implies,beq_self_eq_true,decide_true,decide_false,Int.cast_ofNat_Int,Nat.reduceAdd,Nat.reduceLT,Nat.reduceLeDiff,Nat.reduceEqDiff,Nat.reduceBEq,Nat.reduceMul,Nat.reduceSub,Int.reduceToNat,Int.reduceEq,Int.reduceNe,Int.reduceLT,Int.reduceLE,Int.reduceBEq,Int.reduceAdd,Int.reduceSub,Int.reduceMul,hP,hW]
          refine hret _ _  S.length  0 ?_
          simp only [r_marks_add, ev,evA,true_and,and_true,and_self,if_true,if_false,reduceIte,ne_eq,forall_const,false_implies,beq_self_eq_true,decide_true,decide_false,Int.cast_ofNat_Int,Nat.reduceAdd,Nat.reduceLT,Nat.reduceLeDiff,Nat.reduceEqDiff,Nat.reduceBEq,Nat.reduceMul,Nat.reduceSub,Int.reduceToNat,Int.reduceEq,Int.reduceNe,Int.reduceLT,Int.reduceLE,Int.reduceBEq,Int.reduceAdd,Int.reduceSub,Int.reduceMul,hP,hW]
          have h3 : addS (l0 ++ [q]) s = l0 ++ [⟨q.m, q.f, s.t⟩] := by
            unfold addS
            rw [if_neg (by omega), eg]; simp only; rw [if_pos ⟨by simpa using h1, by simpa using h2⟩, List.dropLast_concat]
          have h4 : (encSp (l0 ++ [q])).set l0.length [I q.m, I q.f, I s.t] = encSp (l0 ++ [⟨q.m, q.f, s.t⟩]) := by
            rw [encSp_app, encSp_app, List.set_append_right _ _ (by rw [encSp_len]; exact Nat.le_refl _), encSp_len, Nat.sub_self]; rfl
          exact ⟨g, by rw [take_set hi, h3]; exact congrArg _ (congrArg _ h4), by rw [h3]; simp⟩
end Go.Dv
/-
  Marks, in two.
-/
namespace Go.Dv
open Go Go.RowKit Go.Proofs
set_option linter.unusedSimpArgs false
set_option linter.unusedVariables false
set_option maxRecDepth 8000

theorem addS_len (l : List Sp) (s : Sp) : (addS l s).length ≤ l.length + 1 := by
  unfold addS
  split
  · omega
  · rcases List.eq_nil_or_concat l with rfl | ⟨l0, q, rfl⟩
    · simp
    · simp only [List.concat_eq_append, List.getLast?_append, List.getLast?_singleton, Option.some_or]
      split <;> simp
theorem foldl_len : ∀ (l : List Sp) (a : List Sp), (l.foldl addS a).length ≤ a.length + l.length
  | [], a => by simp
  | s :: l, a => by
    have h1 := foldl_len l (addS a s)
    have h2 := addS_len a s
    simp only [List.foldl_cons, List.length_cons]; omega
theorem foldA_len (l : List Sp) : (foldA l).length ≤ l.length := by simpa [foldA] using foldl_len l []

/-- From nothing to 2^40. -/
def Rng (n : Int) : Prop := 0 ≤ n ∧ n ≤ 1099511627776

theorem take_snoc {α : Type} {l : List α} {k : Nat} (h : k < l.length) : l.take (k + 1) = l.take k ++ [l[k]] := List.take_succ_eq_append_getElem h

/-- What has come of the first spans. -/
def fA (at_ : Int) (l : List Sp) (k : Nat) : List Sp := foldA ((l.take k).map (clipA at_))
def fB (at_ : Int) (l : List Sp) (k : Nat) : List Sp := foldA ((l.take k).map (clipB at_))
theorem fA_succ {at_ : Int} {l : List Sp} {k : Nat} (h : k < l.length) : fA at_ l (k + 1) = addS (fA at_ l k) (clipA at_ l[k]) := by
  unfold fA; rw [take_snoc h, List.map_append, List.map_cons, List.map_nil, foldA_snoc]
theorem fB_succ {at_ : Int} {l : List Sp} {k : Nat} (h : k < l.length) : fB at_ l (k + 1) = addS (fB at_ l k) (clipB at_ l[k]) := by
  unfold fB; rw [take_snoc h, List.map_append, List.map_cons, List.map_nil, foldA_snoc]
theorem fA_len (at_ : Int) (l : List Sp) (k : Nat) : (fA at_ l k).length ≤ l.length := by
  unfold fA; refine Nat.le_trans (foldA_len _) ?_; rw [List.length_map, List.length_take]; omega
theorem fB_len (at_ : Int) (l : List Sp) (k : Nat) : (fB at_ l k).length ≤ l.length := by
  unfold fB; refine Nat.le_trans (foldA_len _) ?_; rw [List.length_map, List.length_take]; omega
theorem fA_all (at_ : Int) (l : List Sp) : fA at_ l l.length = foldA (l.map (clipA at_)) := by unfold fA; rw [List.take_length]
theorem fB_all (at_ : Int) (l : List Sp) : fB at_ l l.length = foldA (l.map (clipB at_)) := by unfold fB; rw [List.take_length]

theorem t_Part (hm : Tryd.prog.follows .mixedOrders = true) (W0 : World) (S : List SO) (f1 f2 : Bool) (l : List Sp) (q : List Si) (at_ : Int) (hat : Rng at_) (hl : l.length ≤ 1099511627776) (hq : q.length ≤ 1099511627776)
    (hls : ∀ s ∈ l, Rng s.f ∧ Rng s.t) (hqs : ∀ s ∈ q, Rng s.a) :
    CtP Tryd.prog W0 n_marks_Part [.agg [.lst 3 f1 (encSp l), .lst 2 f2 (encSi q)], .raw (.int .i64 at_)] S
      (fun d => d = .tup [.agg [.lst 3 false (encSp (foldA (l.map (clipA at_)))), .lst 2 false (encSi (sitesA at_ q))], .agg [.lst 3 false (encSp (foldA (l.map (clipB at_)))), .lst 2 false (encSi (sitesB at_ q))]]) := by
  refine Ct_R k_marks_Part 400 (.mk [.mk (.agg [.lst 3 f1 (encSp l), .lst 2 f2 (encSi q)]) (.raw (.int .i64 at_)) .junk .junk .junk .junk .junk .junk, .mk .junk .junk .junk .junk .junk .junk .junk .junk, .mk .junk .junk .junk .junk .junk .junk .junk .junk, .mk .junk .junk .junk .junk .junk .junk .junk .junk, .mk .junk .junk .junk .junk .junk .junk .junk .junk, .mk .junk .junk .junk .junk .junk .junk .junk .junk, .mk .junk .junk .junk .junk .junk .junk .junk .junk, .mk .junk .junk .junk .junk .junk .junk .junk .junk, .mk .junk .junk .junk .junk .junk .junk .junk .junk, .mk .junk .junk .junk .junk .junk .junk .junk .junk] [.junk]) rfl rfl fun r hP hW hpan hret => ?_
  simp only [c_marks_Part, ev,evA,true_and,and_true,and_self,if_true,if_false,reduceIte,ne_eq,forall_const,false_implies,beq_self_eq_true,decide_true,decide_false,Int.cast_ofNat_Int,Nat.reduceAdd,Nat.reduceLT,Nat.reduceLeDiff,Nat.reduceEqDiff,Nat.reduceBEq,Nat.reduceMul,Nat.reduceSub,Int.reduceToNat,Int.reduceEq,Int.reduceNe,Int.reduceLT,Int.reduceLE,Int.reduceBEq,Int.reduceAdd,Int.reduceSub,Int.reduceMul,hP,hW]
  intro g
  try simp only [hm, ev,evA,true_and,and_true,and_self,if_true,if_false,reduceIte,ne_eq,forall_const,false_implies,beq_self_eq_true,decide_true,decide_false,Int.cast_ofNat_Int,Nat.reduceAdd,Nat.reduceLT,Nat.reduceLeDiff,Nat.reduceEqDiff,Nat.reduceBEq,Nat.reduceMul,Nat.reduceSub,Int.reduceToNat,Int.reduceEq,Int.reduceNe,Int.reduceLT,Int.reduceLE,Int.reduceBEq,Int.reduceAdd,Int.reduceSub,Int.reduceMul,hP,hW]
  intro h
  try simp only [hm, ev,evA,true_and,and_true,and_self,if_true,if_false,reduceIte,ne_eq,forall_const,false_implies,beq_self_eq_true,decide_true,decide_false,Int.cast_ofNat_Int,Nat.reduceAdd,Nat.reduceLT,Nat.reduceLeDiff,Nat.reduceEqDiff,Nat.reduceBEq,Nat.reduceMul,Nat.reduceSub,Int.reduceToNat,Int.reduceEq,Int.reduceNe,Int.reduceLT,Int.reduceLE,Int.reduceBEq,Int.reduceAdd,Int.reduceSub,Int.reduceMul,hP,hW]
  try simp only [encSp_len, ev,evA,true_and,and_true,and_self,if_true,if_false,reduceIte,ne_eq,forall_const,false_implies,beq_self_eq_true,decide_true,decide_false,Int.cast_ofNat_Int,Nat.reduceAdd,Nat.reduceLT,Nat.reduceLeDiff,Nat.reduceEqDiff,Nat.reduceBEq,Nat.reduceMul,Nat.reduceSub,Int.reduceToNat,Int.reduceEq,Int.reduceNe,Int.reduceLT,Int.reduceLE,Int.reduceBEq,Int.reduceAdd,Int.reduceSub,Int.reduceMul,hP,hW]
  refine SX_lp (α := Nat × Nat × Nat × Nat × Nat) (fun (k, _) => k ≤ l.length) (fun (k, _) => (.mk [.mk .junk (.raw (.int .i64 at_)) (.loc S.length (g 0) 0) .junk (.loc (S.length + 1) (g 1) 0) (.loc (S.length + 2) (g 2) 0) (.loc (S.length + 3) (h 0) 0) (.loc (S.length + 4) (h 1) 0), .mk .junk .junk .junk .junk .junk (.lst 3 f1 (encSp l)) (.raw (.int .i64 l.length)) (.raw (.int .i64 k)), .mk .junk .junk .junk .junk .junk .junk .junk .junk, .mk .junk .junk .junk .junk .junk .junk .junk .junk, .mk .junk .junk .junk .junk .junk .junk .junk .junk, .mk .junk .junk .junk .junk .junk .junk .junk .junk, .mk .junk .junk .junk .junk .junk .junk .junk .junk, .mk .junk .junk .junk .junk .junk .junk .junk .junk, .mk .junk .junk .junk .junk .junk .junk .junk .junk, .mk .junk .junk .junk .junk .junk .junk .junk .junk] [.junk]))
    (fun (k, ga, gb, gc, gd) => S ++ [.cells (g 0) [.lst 3 f1 (encSp l), .lst 2 f2 (encSi q)], .cells (g 1) [.raw (.slice none 0 0), .raw (.slice none 0 0)], .cells (g 2) [.raw (.slice none 0 0), .raw (.slice none 0 0)], .cells (h 0) [.row (S.length + 5) ga 3 0 (fA at_ l k).length, .row (S.length + 7) gc 2 0 0], .cells (h 1) [.row (S.length + 6) gb 3 0 (fB at_ l k).length, .row (S.length + 8) gd 2 0 0], .row ga 3 (encSp (fA at_ l k)), .row gb 3 (encSp (fB at_ l k)), .row gc 2 [], .row gd 2 []])
    (fun (k, _) => l.length - k) 200 ?_ ?_
  · refine Cv.ex (S.length + 5) (.mk [.mk .junk (.raw (.int .i64 at_)) (.loc S.length (g 0) 0) .junk (.loc (S.length + 1) (g 1) 0) (.loc (S.length + 2) (g 2) 0) (.loc (S.length + 3) (h 0) 0) (.loc (S.length + 4) (h 1) 0), .mk .junk .junk .junk .junk .junk (.lst 3 f1 (encSp l)) (.raw (.int .i64 l.length)) (.raw (.int .i64 0)), .mk .junk .junk .junk .junk .junk .junk .junk .junk, .mk .junk .junk .junk .junk .junk .junk .junk .junk, .mk .junk .junk .junk .junk .junk .junk .junk .junk, .mk .junk .junk .junk .junk .junk .junk .junk .junk, .mk .junk .junk .junk .junk .junk .junk .junk .junk, .mk .junk .junk .junk .junk .junk .junk .junk .junk, .mk .junk .junk .junk .junk .junk .junk .junk .junk, .mk .junk .junk .junk .junk .junk .junk .junk .junk] [.junk]) _ ?_ (take_all (by simp)) ?_
    · simp [rlE, rlRs, rlR, rlL, DV.le]
    refine Cv.nil 3 (fun ga => (.mk [.mk .junk (.raw (.int .i64 at_)) (.loc S.length (g 0) 0) .junk (.loc (S.length + 1) (g 1) 0) (.loc (S.length + 2) (g 2) 0) (.loc (S.length + 3) (h 0) 0) (.loc (S.length + 4) (h 1) 0), .mk .junk .junk .junk .junk .junk (.lst 3 f1 (encSp l)) (.raw (.int .i64 l.length)) (.raw (.int .i64 0)), .mk .junk .junk .junk .junk .junk .junk .junk .junk, .mk .junk .junk .junk .junk .junk .junk .junk .junk, .mk .junk .junk .junk .junk .junk .junk .junk .junk, .mk .junk .junk .junk .junk .junk .junk .junk .junk, .mk .junk .junk .junk .junk .junk .junk .junk .junk, .mk .junk .junk .junk .junk .junk .junk .junk .junk, .mk .junk .junk .junk .junk .junk .junk .junk .junk, .mk .junk .junk .junk .junk .junk .junk .junk .junk] [.junk])) (fun ga => S ++ [.cells (g 0) [.lst 3 f1 (encSp l), .lst 2 f2 (encSi q)], .cells (g 1) [.raw (.slice none 0 0), .raw (.slice none 0 0)], .cells (g 2) [.raw (.slice none 0 0), .raw (.slice none 0 0)], .cells (h 0) [.row (S.length + 5) ga 3 0 0, .raw (.slice none 0 0)], .cells (h 1) [.raw (.slice none 0 0), .raw (.slice none 0 0)], .row ga 3 []]) ?_ ?_ (fun ga => ?_)
    · intro ga; simp [rlE, rlRs, rlR, rlL, nlD]
    · intro ga; rw [List.append_assoc]; refine rlS_app (rlS_refl _) ?_; simp [rlS, rlO_self, rlO_cells, rlL, nlD]
    refine Cv.nil 3 (fun gb => (.mk [.mk .junk (.raw (.int .i64 at_)) (.loc S.length (g 0) 0) .junk (.loc (S.length + 1) (g 1) 0) (.loc (S.length + 2) (g 2) 0) (.loc (S.length + 3) (h 0) 0) (.loc (S.length + 4) (h 1) 0), .mk .junk .junk .junk .junk .junk (.lst 3 f1 (encSp l)) (.raw (.int .i64 l.length)) (.raw (.int .i64 0)), .mk .junk .junk .junk .junk .junk .junk .junk .junk, .mk .junk .junk .junk .junk .junk .junk .junk .junk, .mk .junk .junk .junk .junk .junk .junk .junk .junk, .mk .junk .junk .junk .junk .junk .junk .junk .junk, .mk .junk .junk .junk .junk .junk .junk .junk .junk, .mk .junk .junk .junk .junk .junk .junk .junk .junk, .mk .junk .junk .junk .junk .junk .junk .junk .junk, .mk .junk .junk .junk .junk .junk .junk .junk .junk] [.junk])) (fun gb => S ++ [.cells (g 0) [.lst 3 f1 (encSp l), .lst 2 f2 (encSi q)], .cells (g 1) [.raw (.slice none 0 0), .raw (.slice none 0 0)], .cells (g 2) [.raw (.slice none 0 0), .raw (.slice none 0 0)], .cells (h 0) [.row (S.length + 5) ga 3 0 0, .raw (.slice none 0 0)], .cells (h 1) [.row (S.length + 6) gb 3 0 0, .raw (.slice none 0 0)], .row ga 3 [], .row gb 3 []]) ?_ ?_ (fun gb => ?_)
    · intro ga; simp [rlE, rlRs, rlR, rlL, nlD]
    · intro ga; rw [List.append_assoc]; refine rlS_app (rlS_refl _) ?_; simp [rlS, rlO_self, rlO_cells, rlL, nlD]
    refine Cv.nil 2 (fun gc => (.mk [.mk .junk (.raw (.int .i64 at_)) (.loc S.length (g 0) 0) .junk (.loc (S.length + 1) (g 1) 0) (.loc (S.length + 2) (g 2) 0) (.loc (S.length + 3) (h 0) 0) (.loc (S.length + 4) (h 1) 0), .mk .junk .junk .junk .junk .junk (.lst 3 f1 (encSp l)) (.raw (.int .i64 l.length)) (.raw (.int .i64 0)), .mk .junk .junk .junk .junk .junk .junk .junk .junk, .mk .junk .junk .junk .junk .junk .junk .junk .junk, .mk .junk .junk .junk .junk .junk .junk .junk .junk, .mk .junk .junk .junk .junk .junk .junk .junk .junk, .mk .junk .junk .junk .junk .junk .junk .junk .junk, .mk .junk .junk .junk .junk .junk .junk .junk .junk, .mk .junk .junk .junk .junk .junk .junk .junk .junk, .mk .junk .junk .junk .junk .junk .junk .junk .junk] [.junk])) (fun gc => S ++ [.cells (g 0) [.lst 3 f1 (encSp l), .lst 2 f2 (encSi q)], .cells (g 1) [.raw (.slice none 0 0), .raw (.slice none 0 0)], .cells (g 2) [.raw (.slice none 0 0), .raw (.slice none 0 0)], .cells (h 0) [.row (S.length + 5) ga 3 0 0, .row (S.length + 7) gc 2 0 0], .cells (h 1) [.row (S.length + 6) gb 3 0 0, .raw (.slice none 0 0)], .row ga 3 [], .row gb 3 [], .row gc 2 []]) ?_ ?_ (fun gc => ?_)
    · intro ga; simp [rlE, rlRs, rlR, rlL, nlD]
    · intro ga; rw [List.append_assoc]; refine rlS_app (rlS_refl _) ?_; simp [rlS, rlO_self, rlO_cells, rlL, nlD]
    refine Cv.nil 2 (fun gd => (.mk [.mk .junk (.raw (.int .i64 at_)) (.loc S.length (g 0) 0) .junk (.loc (S.length + 1) (g 1) 0) (.loc (S.length + 2) (g 2) 0) (.loc (S.length + 3) (h 0) 0) (.loc (S.length + 4) (h 1) 0), .mk .junk .junk .junk .junk .junk (.lst 3 f1 (encSp l)) (.raw (.int .i64 l.length)) (.raw (.int .i64 0)), .mk .junk .junk .junk .junk .junk .junk .junk .junk, .mk .junk .junk .junk .junk .junk .junk .junk .junk, .mk .junk .junk .junk .junk .junk .junk .junk .junk, .mk .junk .junk .junk .junk .junk .junk .junk .junk, .mk .junk .junk .junk .junk .junk .junk .junk .junk, .mk .junk .junk .junk .junk .junk .junk .junk .junk, .mk .junk .junk .junk .junk .junk .junk .junk .junk, .mk .junk .junk .junk .junk .junk .junk .junk .junk] [.junk])) (fun gd => S ++ [.cells (g 0) [.lst 3 f1 (encSp l), .lst 2 f2 (encSi q)], .cells (g 1) [.raw (.slice none 0 0), .raw (.slice none 0 0)], .cells (g 2) [.raw (.slice none 0 0), .raw (.slice none 0 0)], .cells (h 0) [.row (S.length + 5) ga 3 0 0, .row (S.length + 7) gc 2 0 0], .cells (h 1) [.row (S.length + 6) gb 3 0 0, .row (S.length + 8) gd 2 0 0], .row ga 3 [], .row gb 3 [], .row gc 2 [], .row gd 2 []]) ?_ ?_ (fun gd => ?_)
    · intro ga; simp [rlE, rlRs, rlR, rlL, nlD]
    · intro ga; rw [List.append_assoc]; refine rlS_app (rlS_refl _) ?_; simp [rlS, rlO_self, rlO_cells, rlL, nlD]
    exact Cv.done ⟨(0, ga, gb, gc, gd), Nat.zero_le _, rfl, rfl⟩
  · rintro ⟨k, ga, gb, gc, gd⟩ hk
    by_cases hlt : k < l.length
    · have d1 : decide ((k : Int) < (l.length : Int)) = true := decide_eq_true (by omega)
      have c1 : (0 ≤ (k : Int) ∧ (k : Int) < (l.length : Int)) = True := by simp; omega
      have e1 := getD_sp hlt
      try simp only [d1, c1, encSp_len, ev,evA,true_and,and_true,and_self,if_true,if_false,reduceIte,ne_eq,forall_const,false_implies,beq_self_eq_true,decide_true,decide_false,Int.cast_ofNat_Int,Nat.reduceAdd,Nat.reduceLT,Nat.reduceLeDiff,Nat.reduceEqDiff,Nat.reduceBEq,Nat.reduceMul,Nat.reduceSub,Int.reduceToNat,Int.reduceEq,Int.reduceNe,Int.reduceLT,Int.reduceLE,Int.reduceBEq,Int.reduceAdd,Int.reduceSub,Int.reduceMul,hP,hW]
      intro s0
      try simp only [e1, ev,evA,true_and,and_true,and_self,if_true,if_false,reduceIte,ne_eq,forall_const,false_implies,beq_self_eq_true,decide_true,decide_false,Int.cast_ofNat_Int,Nat.reduceAdd,Nat.reduceLT,Nat.reduceLeDiff,Nat.reduceEqDiff,Nat.reduceBEq,Nat.reduceMul,Nat.reduceSub,Int.reduceToNat,Int.reduceEq,Int.reduceNe,Int.reduceLT,Int.reduceLE,Int.reduceBEq,Int.reduceAdd,Int.reduceSub,Int.reduceMul,hP,hW]
      have hla := fA_len at_ l k
      have hlb := fB_len at_ l k
      obtain ⟨hr1, hr2⟩ := hls _ (List.getElem_mem hlt)
      unfold Rng at hr1 hr2 hat
      refine callG _ (t_add hm W0 _ (i := S.length + 5) (by try simp only [ev,evA,true_and,and_true,and_self,if_true,if_false,reduceIte,ne_eq,forall_const,false_implies,beq_self_eq_true,decide_true,decide_false,Int.cast_ofNat_Int,Nat.reduceAdd,Nat.reduceLT,Nat.reduceLeDiff,Nat.reduceEqDiff,Nat.reduceBEq,Nat.reduceMul,Nat.reduceSub,Int.reduceToNat,Int.reduceEq,Int.reduceNe,Int.reduceLT,Int.reduceLE,Int.reduceBEq,Int.reduceAdd,Int.reduceSub,Int.reduceMul,hP,hW]) (by omega) (clipA at_ l[k])) (fun h => by cases h) (by try simp only [ev,evA,true_and,and_true,and_self,if_true,if_false,reduceIte,ne_eq,forall_const,false_implies,beq_self_eq_true,decide_true,decide_false,Int.cast_ofNat_Int,Nat.reduceAdd,Nat.reduceLT,Nat.reduceLeDiff,Nat.reduceEqDiff,Nat.reduceBEq,Nat.reduceMul,Nat.reduceSub,Int.reduceToNat,Int.reduceEq,Int.reduceNe,Int.reduceLT,Int.reduceLE,Int.reduceBEq,Int.reduceAdd,Int.reduceSub,Int.reduceMul,hP,hW]) ?_ (fun d S' ⟨g', _, h⟩ => by cases h)
      rintro d S' ⟨ga', rfl, hd⟩
      cases hd
      have w1 : IntKind.i64.wrap (l[k].f - at_) = l[k].f - at_ := wrap_id (by omega) (by omega)
      have w2 : IntKind.i64.wrap (l[k].t - at_) = l[k].t - at_ := wrap_id (by omega) (by omega)
      try simp only [w1, w2, ev,evA,true_and,and_true,and_self,if_true,if_false,reduceIte,ne_eq,forall_const,false_implies,beq_self_eq_true,decide_true,decide_false,Int.cast_ofNat_Int,Nat.reduceAdd,Nat.reduceLT,Nat.reduceLeDiff,Nat.reduceEqDiff,Nat.reduceBEq,Nat.reduceMul,Nat.reduceSub,Int.reduceToNat,Int.reduceEq,Int.reduceNe,Int.reduceLT,Int.reduceLE,Int.reduceBEq,Int.reduceAdd,Int.reduceSub,Int.reduceMul,hP,hW]
      refine callG _ (t_add hm W0 _ (i := S.length + 6) (by try simp only [ev,evA,true_and,and_true,and_self,if_true,if_false,reduceIte,ne_eq,forall_const,false_implies,beq_self_eq_true,decide_true,decide_false,Int.cast_ofNat_Int,Nat.reduceAdd,Nat.reduceLT,Nat.reduceLeDiff,Nat.reduceEqDiff,Nat.reduceBEq,Nat.reduceMul,Nat.reduceSub,Int.reduceToNat,Int.reduceEq,Int.reduceNe,Int.reduceLT,Int.reduceLE,Int.reduceBEq,Int.reduceAdd,Int.reduceSub,Int.reduceMul,hP,hW]) (by omega) (clipB at_ l[k])) (fun h => by cases h) (by try simp only [ev,evA,true_and,and_true,and_self,if_true,if_false,reduceIte,ne_eq,forall_const,false_implies,beq_self_eq_true,decide_true,decide_false,Int.cast_ofNat_Int,Nat.reduceAdd,Nat.reduceLT,Nat.reduceLeDiff,Nat.reduceEqDiff,Nat.reduceBEq,Nat.reduceMul,Nat.reduceSub,Int.reduceToNat,Int.reduceEq,Int.reduceNe,Int.reduceLT,Int.reduceLE,Int.reduceBEq,Int.reduceAdd,Int.reduceSub,Int.reduceMul,hP,hW]) ?_ (fun d S' ⟨g', _, h⟩ => by cases h)
      rintro d S' ⟨gb', rfl, hd⟩
      cases hd
      have w3 : IntKind.i64.wrap ((k : Int) + 1) = ((k + 1 : Nat) : Int) := by rw [wrap_id (by omega) (by omega)]; omega
      try simp only [w3, ev,evA,true_and,and_true,and_self,if_true,if_false,reduceIte,ne_eq,forall_const,false_implies,beq_self_eq_true,decide_true,decide_false,Int.cast_ofNat_Int,Nat.reduceAdd,Nat.reduceLT,Nat.reduceLeDiff,Nat.reduceEqDiff,Nat.reduceBEq,Nat.reduceMul,Nat.reduceSub,Int.reduceToNat,Int.reduceEq,Int.reduceNe,Int.reduceLT,Int.reduceLE,Int.reduceBEq,Int.reduceAdd,Int.reduceSub,Int.reduceMul,hP,hW]
      refine Cv.ex (S.length + 9) (.mk [.mk .junk (.raw (.int .i64 at_)) (.loc S.length (g 0) 0) .junk (.loc (S.length + 1) (g 1) 0) (.loc (S.length + 2) (g 2) 0) (.loc (S.length + 3) (h 0) 0) (.loc (S.length + 4) (h 1) 0), .mk .junk .junk .junk .junk .junk (.lst 3 f1 (encSp l)) (.raw (.int .i64 l.length)) (.raw (.int .i64 (k + 1 : Nat))), .mk .junk .junk .junk .junk .junk .junk .junk .junk, .mk .junk .junk .junk .junk .junk .junk .junk .junk, .mk .junk .junk .junk .junk .junk .junk .junk .junk, .mk .junk .junk .junk .junk .junk .junk .junk .junk, .mk .junk .junk .junk .junk .junk .junk .junk .junk, .mk .junk .junk .junk .junk .junk .junk .junk .junk, .mk .junk .junk .junk .junk .junk .junk .junk .junk, .mk .junk .junk .junk .junk .junk .junk .junk .junk] [.junk]) _ ?_ ?_ (Cv.done ⟨(k + 1, ga', gb', gc, gd), hlt, by simp only; omega, rfl, rfl⟩)
      · simp [rlE, rlRs, rlR, rlL, DV.le]
      · rw [fA_succ hlt, fB_succ hlt]; exact take_append9 ..
    · have d1 : decide ((k : Int) < (l.length : Int)) = false := decide_eq_false (by omega)
      have hk' : k = l.length := by simp only at hk; omega
      subst hk'
      try simp only [d1, encSi_len, fA_all, fB_all, ev,evA,true_and,and_true,and_self,if_true,if_false,reduceIte,ne_eq,forall_const,false_implies,beq_self_eq_true,decide_true,decide_false,Int.cast_ofNat_Int,Nat.reduceAdd,Nat.reduceLT,Nat.reduceLeDiff,Nat.reduceEqDiff,Nat.reduceBEq,Nat.reduceMul,Nat.reduceSub,Int.reduceToNat,Int.reduceEq,Int.reduceNe,Int.reduceLT,Int.reduceLE,Int.reduceBEq,Int.reduceAdd,Int.reduceSub,Int.reduceMul,hP,hW]
      refine SX_lp (α := Nat × Nat × Nat) (fun (k, _) => k ≤ q.length) (fun (k, _) => (.mk [.mk .junk (.raw (.int .i64 at_)) .junk .junk (.loc (S.length + 1) (g 1) 0) (.loc (S.length + 2) (g 2) 0) (.loc (S.length + 3) (h 0) 0) (.loc (S.length + 4) (h 1) 0), .mk .junk .junk .junk .junk .junk .junk .junk .junk, .mk .junk .junk .junk .junk .junk .junk .junk .junk, .mk .junk .junk .junk .junk .junk .junk .junk .junk, .mk .junk .junk .junk .junk .junk .junk .junk .junk, .mk .junk .junk .junk .junk .junk .junk .junk .junk, .mk .junk .junk (.lst 2 f2 (encSi q)) (.raw (.int .i64 q.length)) (.raw (.int .i64 k)) .junk .junk .junk, .mk .junk .junk .junk .junk .junk .junk .junk .junk, .mk .junk .junk .junk .junk .junk .junk .junk .junk, .mk .junk .junk .junk .junk .junk .junk .junk .junk] [.junk]))
        (fun (k, gc, gd) => S ++ [.cells (g 0) [.lst 3 f1 (encSp l), .lst 2 f2 (encSi q)], .cells (g 1) [.raw (.slice none 0 0), .raw (.slice none 0 0)], .cells (g 2) [.raw (.slice none 0 0), .raw (.slice none 0 0)], .cells (h 0) [.row (S.length + 5) ga 3 0 (foldA (l.map (clipA at_))).length, .row (S.length + 7) gc 2 0 (sitesA at_ (q.take k)).length], .cells (h 1) [.row (S.length + 6) gb 3 0 (foldA (l.map (clipB at_))).length, .row (S.length + 8) gd 2 0 (sitesB at_ (q.take k)).length], .row ga 3 (encSp (foldA (l.map (clipA at_)))), .row gb 3 (encSp (foldA (l.map (clipB at_)))), .row gc 2 (encSi (sitesA at_ (q.take k))), .row gd 2 (encSi (sitesB at_ (q.take k)))])
        (fun (k, _) => q.length - k) 200 ?_ ?_
      · refine Cv.ex (S.length + 9) _ _ ?_ (take_all (by simp)) (Cv.done ⟨(0, gc, gd), Nat.zero_le _, rfl, rfl⟩)
        simp [rlE, rlRs, rlR, rlL, DV.le]
      · rintro ⟨k, gc, gd⟩ hk
        by_cases hlt : k < q.length
        · have d1 : decide ((k : Int) < (q.length : Int)) = true := decide_eq_true (by omega)
          have c1 : (0 ≤ (k : Int) ∧ (k : Int) < (q.length : Int)) = True := by simp; omega
          have e1 := getD_si hlt
          try simp only [d1, c1, encSi_len, ev,evA,true_and,and_true,and_self,if_true,if_false,reduceIte,ne_eq,forall_const,false_implies,beq_self_eq_true,decide_true,decide_false,Int.cast_ofNat_Int,Nat.reduceAdd,Nat.reduceLT,Nat.reduceLeDiff,Nat.reduceEqDiff,Nat.reduceBEq,Nat.reduceMul,Nat.reduceSub,Int.reduceToNat,Int.reduceEq,Int.reduceNe,Int.reduceLT,Int.reduceLE,Int.reduceBEq,Int.reduceAdd,Int.reduceSub,Int.reduceMul,hP,hW]
          intro s0
          try simp only [e1, ev,evA,true_and,and_true,and_self,if_true,if_false,reduceIte,ne_eq,forall_const,false_implies,beq_self_eq_true,decide_true,decide_false,Int.cast_ofNat_Int,Nat.reduceAdd,Nat.reduceLT,Nat.reduceLeDiff,Nat.reduceEqDiff,Nat.reduceBEq,Nat.reduceMul,Nat.reduceSub,Int.reduceToNat,Int.reduceEq,Int.reduceNe,Int.reduceLT,Int.reduceLE,Int.reduceBEq,Int.reduceAdd,Int.reduceSub,Int.reduceMul,hP,hW]
          have hqa := hqs _ (List.getElem_mem hlt)
          unfold Rng at hqa hat
          have w3 : IntKind.i64.wrap ((k : Int) + 1) = ((k + 1 : Nat) : Int) := by rw [wrap_id (by omega) (by omega)]; omega
          have la : (sitesA at_ (q.take k)).length ≤ k := by unfold sitesA; refine Nat.le_trans (List.length_filter_le _ _) ?_; rw [List.length_take]; omega
          have lb : (sitesB at_ (q.take k)).length ≤ k := by unfold sitesB; rw [List.length_map]; refine Nat.le_trans (List.length_filter_le _ _) ?_; rw [List.length_take]; omega
          refine Gc_dec (fun hc => ?_) (fun hc => ?_)
          · have ea : sitesA at_ (q.take (k + 1)) = sitesA at_ (q.take k) ++ [q[k]] := by unfold sitesA; rw [take_snoc hlt, List.filter_append]; simp [hc]
            have eb : sitesB at_ (q.take (k + 1)) = sitesB at_ (q.take k) := by unfold sitesB; rw [take_snoc hlt, List.filter_append]; simp [hc]
            try simp only [ev,evA,true_and,and_true,and_self,if_true,if_false,reduceIte,ne_eq,forall_const,false_implies,beq_self_eq_true,decide_true,decide_false,Int.cast_ofNat_Int,Nat.reduceAdd,Nat.reduceLT,Nat.reduceLeDiff,Nat.reduceEqDiff,Nat.reduceBEq,Nat.reduceMul,Nat.reduceSub,Int.reduceToNat,Int.reduceEq,Int.reduceNe,Int.reduceLT,Int.reduceLE,Int.reduceBEq,Int.reduceAdd,Int.reduceSub,Int.reduceMul,hP,hW]
            intro s1
            try simp only [encSi_len, encSi_take, List.take_length, ev,evA,true_and,and_true,and_self,if_true,if_false,reduceIte,ne_eq,forall_const,false_implies,beq_self_eq_true,decide_true,decide_false,Int.cast_ofNat_Int,Nat.reduceAdd,Nat.reduceLT,Nat.reduceLeDiff,Nat.reduceEqDiff,Nat.reduceBEq,Nat.reduceMul,Nat.reduceSub,Int.reduceToNat,Int.reduceEq,Int.reduceNe,Int.reduceLT,Int.reduceLE,Int.reduceBEq,Int.reduceAdd,Int.reduceSub,Int.reduceMul,hP,hW]
            refine ⟨by omega, fun gc' => ?_⟩
            try simp only [w3, ev,evA,true_and,and_true,and_self,if_true,if_false,reduceIte,ne_eq,forall_const,false_implies,beq_self_eq_true,decide_true,decide_false,Int.cast_ofNat_Int,Nat.reduceAdd,Nat.reduceLT,Nat.reduceLeDiff,Nat.reduceEqDiff,Nat.reduceBEq,Nat.reduceMul,Nat.reduceSub,Int.reduceToNat,Int.reduceEq,Int.reduceNe,Int.reduceLT,Int.reduceLE,Int.reduceBEq,Int.reduceAdd,Int.reduceSub,Int.reduceMul,hP,hW]
            refine Cv.ex (S.length + 9) (.mk [.mk .junk (.raw (.int .i64 at_)) .junk .junk (.loc (S.length + 1) (g 1) 0) (.loc (S.length + 2) (g 2) 0) (.loc (S.length + 3) (h 0) 0) (.loc (S.length + 4) (h 1) 0), .mk .junk .junk .junk .junk .junk .junk .junk .junk, .mk .junk .junk .junk .junk .junk .junk .junk .junk, .mk .junk .junk .junk .junk .junk .junk .junk .junk, .mk .junk .junk .junk .junk .junk .junk .junk .junk, .mk .junk .junk .junk .junk .junk .junk .junk .junk, .mk .junk .junk (.lst 2 f2 (encSi q)) (.raw (.int .i64 q.length)) (.raw (.int .i64 (k + 1 : Nat))) .junk .junk .junk, .mk .junk .junk .junk .junk .junk .junk .junk .junk, .mk .junk .junk .junk .junk .junk .junk .junk .junk, .mk .junk .junk .junk .junk .junk .junk .junk .junk] [.junk]) _ ?_ ?_ (Cv.done ⟨(k + 1, gc', gd), hlt, by simp only; omega, rfl, rfl⟩)
            · simp [rlE, rlRs, rlR, rlL, DV.le]
            · rw [ea, eb, encSi_app, List.length_append]; exact take_append9 ..
          · have ea : sitesA at_ (q.take (k + 1)) = sitesA at_ (q.take k) := by unfold sitesA; rw [take_snoc hlt, List.filter_append]; simp [hc]
            have eb : sitesB at_ (q.take (k + 1)) = sitesB at_ (q.take k) ++ [⟨q[k].m, q[k].a - at_⟩] := by unfold sitesB; rw [take_snoc hlt, List.filter_append]; simp [hc]
            have w1 : IntKind.i64.wrap (q[k].a - at_) = q[k].a - at_ := wrap_id (by omega) (by omega)
            try simp only [ev,evA,true_and,and_true,and_self,if_true,if_false,reduceIte,ne_eq,forall_const,false_implies,beq_self_eq_true,decide_true,decide_false,Int.cast_ofNat_Int,Nat.reduceAdd,Nat.reduceLT,Nat.reduceLeDiff,Nat.reduceEqDiff,Nat.reduceBEq,Nat.reduceMul,Nat.reduceSub,Int.reduceToNat,Int.reduceEq,Int.reduceNe,Int.reduceLT,Int.reduceLE,Int.reduceBEq,Int.reduceAdd,Int.reduceSub,Int.reduceMul,hP,hW]
            intro s1
            try simp only [encSi_len, encSi_take, List.take_length, w1, ev,evA,true_and,and_true,and_self,if_true,if_false,reduceIte,ne_eq,forall_const,false_implies,beq_self_eq_true,decide_true,decide_false,Int.cast_ofNat_Int,Nat.reduceAdd,Nat.reduceLT,Nat.reduceLeDiff,Nat.reduceEqDiff,Nat.reduceBEq,Nat.reduceMul,Nat.reduceSub,Int.reduceToNat,Int.reduceEq,Int.reduceNe,Int.reduceLT,Int.reduceLE,Int.reduceBEq,Int.reduceAdd,Int.reduceSub,Int.reduceMul,hP,hW]
            refine ⟨by omega, fun gd' => ?_⟩
            try simp only [w3, ev,evA,true_and,and_true,and_self,if_true,if_false,reduceIte,ne_eq,forall_const,false_implies,beq_self_eq_true,decide_true,decide_false,Int.cast_ofNat_Int,Nat.reduceAdd,Nat.reduceLT,Nat.reduceLeDiff,Nat.reduceEqDiff,Nat.reduceBEq,Nat.reduceMul,Nat.reduceSub,Int.reduceToNat,Int.reduceEq,Int.reduceNe,Int.reduceLT,Int.reduceLE,Int.reduceBEq,Int.reduceAdd,Int.reduceSub,Int.reduceMul,hP,hW]
            refine Cv.ex (S.length + 9) (.mk [.mk .junk (.raw (.int .i64 at_)) .junk .junk (.loc (S.length + 1) (g 1) 0) (.loc (S.length + 2) (g 2) 0) (.loc (S.length + 3) (h 0) 0) (.loc (S.length + 4) (h 1) 0), .mk .junk .junk .junk .junk .junk .junk .junk .junk, .mk .junk .junk .junk .junk .junk .junk .junk .junk, .mk .junk .junk .junk .junk .junk .junk .junk .junk, .mk .junk .junk .junk .junk .junk .junk .junk .junk, .mk .junk .junk .junk .junk .junk .junk .junk .junk, .mk .junk .junk (.lst 2 f2 (encSi q)) (.raw (.int .i64 q.length)) (.raw (.int .i64 (k + 1 : Nat))) .junk .junk .junk, .mk .junk .junk .junk .junk .junk .junk .junk .junk, .mk .junk .junk .junk .junk .junk .junk .junk .junk, .mk .junk .junk .junk .junk .junk .junk .junk .junk] [.junk]) _ ?_ ?_ (Cv.done ⟨(k + 1, gc, gd'), hlt, by simp only; omega, rfl, rfl⟩)
            · simp [rlE, rlRs, rlR, rlL, DV.le]
            · rw [ea, eb, encSi_app, List.length_append]; exact take_append9 ..
        · have d1 : decide ((k : Int) < (q.length : Int)) = false := decide_eq_false (by omega)
          have hk' : k = q.length := by simp only at hk; omega
          subst hk'
          try simp only [d1, hm, ev,evA,true_and,and_true,and_self,if_true,if_false,reduceIte,ne_eq,forall_const,false_implies,beq_self_eq_true,decide_true,decide_false,Int.cast_ofNat_Int,Nat.reduceAdd,Nat.reduceLT,Nat.reduceLeDiff,Nat.reduceEqDiff,Nat.reduceBEq,Nat.reduceMul,Nat.reduceSub,Int.reduceToNat,Int.reduceEq,Int.reduceNe,Int.reduceLT,Int.reduceLE,Int.reduceBEq,Int.reduceAdd,Int.reduceSub,Int.reduceMul,hP,hW]
          refine hret _ _ S.length 5 ?_
          simp only [r_marks_Part, evMk, ev,evA,true_and,and_true,and_self,if_true,if_false,reduceIte,ne_eq,forall_const,false_implies,beq_self_eq_true,decide_true,decide_false,Int.cast_ofNat_Int,Nat.reduceAdd,Nat.reduceLT,Nat.reduceLeDiff,Nat.reduceEqDiff,Nat.reduceBEq,Nat.reduceMul,Nat.reduceSub,Int.reduceToNat,Int.reduceEq,Int.reduceNe,Int.reduceLT,Int.reduceLE,Int.reduceBEq,Int.reduceAdd,Int.reduceSub,Int.reduceMul,hP,hW]
          exact ⟨_, rfl, rfl⟩
end Go.Dv
/-
  Marks: compared; are they right?
-/
namespace Go.Dv
open Go Go.RowKit Go.Proofs
set_option linter.unusedSimpArgs false
set_option linter.unusedVariables false
set_option maxRecDepth 8000

def cmpI (x y : Int) : Int := if x < y then -1 else if y < x then 1 else 0
def cmpS (x y : Si) : Int := if cmpI x.a y.a = 0 then cmpI x.m y.m else cmpI x.a y.a
theorem cmpS_lt (x y : Si) : cmpS x y < 0 ↔ x.lt y := by
  unfold cmpS cmpI Si.lt; repeat' split
  all_goals omega
theorem cmpS_eq (x y : Si) : cmpS x y = 0 ↔ x = y := by
  constructor
  · intro h
    have : x.a = y.a ∧ x.m = y.m := by
      unfold cmpS cmpI at h; (repeat' split at h) <;> omega
    exact Si.ext this.2 this.1
  · rintro rfl; simp [cmpS, cmpI]

theorem t_isNaN (W0 : World) (S : List SO) (x : Int) : CtP Tryd.prog W0 n_cmp_isNaN_int [.raw (.int .i64 x)] S (fun d => d = .raw (.bool false)) := by
  refine Ct_R k_cmp_isNaN_int 400 (.mk [] [(.raw (.int .i64 x)), .junk, .junk, .junk, .junk, .junk]) rfl rfl fun r hP hW hpan hret => ?_
  simp only [c_cmp_isNaN_int, ev,evA,true_and,and_true,and_self,if_true,if_false,reduceIte,ne_eq,forall_const,false_implies,beq_self_eq_true,decide_true,decide_false,Int.cast_ofNat_Int,Nat.reduceAdd,Nat.reduceLT,Nat.reduceLeDiff,Nat.reduceEqDiff,Nat.reduceBEq,Nat.reduceMul,Nat.reduceSub,Int.reduceToNat,Int.reduceEq,Int.reduceNe,Int.reduceLT,Int.reduceLE,Int.reduceBEq,Int.reduceAdd,Int.reduceSub,Int.reduceMul,hP,hW]
  try simp only [bne_self_eq_false, ev,evA,true_and,and_true,and_self,if_true,if_false,reduceIte,ne_eq,forall_const,false_implies,beq_self_eq_true,decide_true,decide_false,Int.cast_ofNat_Int,Nat.reduceAdd,Nat.reduceLT,Nat.reduceLeDiff,Nat.reduceEqDiff,Nat.reduceBEq,Nat.reduceMul,Nat.reduceSub,Int.reduceToNat,Int.reduceEq,Int.reduceNe,Int.reduceLT,Int.reduceLE,Int.reduceBEq,Int.reduceAdd,Int.reduceSub,Int.reduceMul,hP,hW]
  refine hret _ _ S.length 5 ?_
  simp only [r_cmp_isNaN_int, bne_self_eq_false, ev,evA,true_and,and_true,and_self,if_true,if_false,reduceIte,ne_eq,forall_const,false_implies,beq_self_eq_true,decide_true,decide_false,Int.cast_ofNat_Int,Nat.reduceAdd,Nat.reduceLT,Nat.reduceLeDiff,Nat.reduceEqDiff,Nat.reduceBEq,Nat.reduceMul,Nat.reduceSub,Int.reduceToNat,Int.reduceEq,Int.reduceNe,Int.reduceLT,Int.reduceLE,Int.reduceBEq,Int.reduceAdd,Int.reduceSub,Int.reduceMul,hP,hW]
  exact ⟨_, rfl, rfl⟩

theorem t_Compare (W0 : World) (S : List SO) (x y : Int) : CtP Tryd.prog W0 n_cmp_Compare_int [.raw (.int .i64 x), .raw (.int .i64 y)] S (fun d => d = .raw (.int .i64 (cmpI x y))) := by
  refine Ct_R k_cmp_Compare_int 400 (.mk [.mk (.raw (.int .i64 x)) (.raw (.int .i64 y)) .junk .junk .junk .junk .junk .junk, .mk .junk .junk .junk .junk .junk .junk .junk .junk] [.junk, .junk, .junk, .junk]) rfl rfl fun r hP hW hpan hret => ?_
  simp only [c_cmp_Compare_int, ev,evA,true_and,and_true,and_self,if_true,if_false,reduceIte,ne_eq,forall_const,false_implies,beq_self_eq_true,decide_true,decide_false,Int.cast_ofNat_Int,Nat.reduceAdd,Nat.reduceLT,Nat.reduceLeDiff,Nat.reduceEqDiff,Nat.reduceBEq,Nat.reduceMul,Nat.reduceSub,Int.reduceToNat,Int.reduceEq,Int.reduceNe,Int.reduceLT,Int.reduceLE,Int.reduceBEq,Int.reduceAdd,Int.reduceSub,Int.reduceMul,hP,hW]
  refine callE _ (fun S2 => t_isNaN W0 S2 x) (by try simp only [ev,evA,true_and,and_true,and_self,if_true,if_false,reduceIte,ne_eq,forall_const,false_implies,beq_self_eq_true,decide_true,decide_false,Int.cast_ofNat_Int,Nat.reduceAdd,Nat.reduceLT,Nat.reduceLeDiff,Nat.reduceEqDiff,Nat.reduceBEq,Nat.reduceMul,Nat.reduceSub,Int.reduceToNat,Int.reduceEq,Int.reduceNe,Int.reduceLT,Int.reduceLE,Int.reduceBEq,Int.reduceAdd,Int.reduceSub,Int.reduceMul,hP,hW]) ?_
  try simp only [ev,evA,true_and,and_true,and_self,if_true,if_false,reduceIte,ne_eq,forall_const,false_implies,beq_self_eq_true,decide_true,decide_false,Int.cast_ofNat_Int,Nat.reduceAdd,Nat.reduceLT,Nat.reduceLeDiff,Nat.reduceEqDiff,Nat.reduceBEq,Nat.reduceMul,Nat.reduceSub,Int.reduceToNat,Int.reduceEq,Int.reduceNe,Int.reduceLT,Int.reduceLE,Int.reduceBEq,Int.reduceAdd,Int.reduceSub,Int.reduceMul,hP,hW]
  refine callE _ (fun S2 => t_isNaN W0 S2 y) (by try simp only [ev,evA,true_and,and_true,and_self,if_true,if_false,reduceIte,ne_eq,forall_const,false_implies,beq_self_eq_true,decide_true,decide_false,Int.cast_ofNat_Int,Nat.reduceAdd,Nat.reduceLT,Nat.reduceLeDiff,Nat.reduceEqDiff,Nat.reduceBEq,Nat.reduceMul,Nat.reduceSub,Int.reduceToNat,Int.reduceEq,Int.reduceNe,Int.reduceLT,Int.reduceLE,Int.reduceBEq,Int.reduceAdd,Int.reduceSub,Int.reduceMul,hP,hW]) ?_
  try simp only [ev,evA,true_and,and_true,and_self,if_true,if_false,reduceIte,ne_eq,forall_const,false_implies,beq_self_eq_true,decide_true,decide_false,Int.cast_ofNat_Int,Nat.reduceAdd,Nat.reduceLT,Nat.reduceLeDiff,Nat.reduceEqDiff,Nat.reduceBEq,Nat.reduceMul,Nat.reduceSub,Int.reduceToNat,Int.reduceEq,Int.reduceNe,Int.reduceLT,Int.reduceLE,Int.reduceBEq,Int.reduceAdd,Int.reduceSub,Int.reduceMul,hP,hW]
  refine Gc_dec (fun hc => ?_) (fun hc => ?_)
  · try simp only [ev,evA,true_and,and_true,and_self,if_true,if_false,reduceIte,ne_eq,forall_const,false_implies,beq_self_eq_true,decide_true,decide_false,Int.cast_ofNat_Int,Nat.reduceAdd,Nat.reduceLT,Nat.reduceLeDiff,Nat.reduceEqDiff,Nat.reduceBEq,Nat.reduceMul,Nat.reduceSub,Int.reduceToNat,Int.reduceEq,Int.reduceNe,Int.reduceLT,Int.reduceLE,Int.reduceBEq,Int.reduceAdd,Int.reduceSub,Int.reduceMul,hP,hW]
    refine hret _ _ S.length 5 ?_
    simp only [r_cmp_Compare_int, ev,evA,true_and,and_true,and_self,if_true,if_false,reduceIte,ne_eq,forall_const,false_implies,beq_self_eq_true,decide_true,decide_false,Int.cast_ofNat_Int,Nat.reduceAdd,Nat.reduceLT,Nat.reduceLeDiff,Nat.reduceEqDiff,Nat.reduceBEq,Nat.reduceMul,Nat.reduceSub,Int.reduceToNat,Int.reduceEq,Int.reduceNe,Int.reduceLT,Int.reduceLE,Int.reduceBEq,Int.reduceAdd,Int.reduceSub,Int.reduceMul,hP,hW]
    exact ⟨_, rfl, by unfold cmpI; rw [if_pos hc]⟩
  · try simp only [ev,evA,true_and,and_true,and_self,if_true,if_false,reduceIte,ne_eq,forall_const,false_implies,beq_self_eq_true,decide_true,decide_false,Int.cast_ofNat_Int,Nat.reduceAdd,Nat.reduceLT,Nat.reduceLeDiff,Nat.reduceEqDiff,Nat.reduceBEq,Nat.reduceMul,Nat.reduceSub,Int.reduceToNat,Int.reduceEq,Int.reduceNe,Int.reduceLT,Int.reduceLE,Int.reduceBEq,Int.reduceAdd,Int.reduceSub,Int.reduceMul,hP,hW]
    refine Gc_dec (fun hd => ?_) (fun hd => ?_)
    · try simp only [ev,evA,true_and,and_true,and_self,if_true,if_false,reduceIte,ne_eq,forall_const,false_implies,beq_self_eq_true,decide_true,decide_false,Int.cast_ofNat_Int,Nat.reduceAdd,Nat.reduceLT,Nat.reduceLeDiff,Nat.reduceEqDiff,Nat.reduceBEq,Nat.reduceMul,Nat.reduceSub,Int.reduceToNat,Int.reduceEq,Int.reduceNe,Int.reduceLT,Int.reduceLE,Int.reduceBEq,Int.reduceAdd,Int.reduceSub,Int.reduceMul,hP,hW]
      refine hret _ _ S.length 5 ?_
      simp only [r_cmp_Compare_int, ev,evA,true_and,and_true,and_self,if_true,if_false,reduceIte,ne_eq,forall_const,false_implies,beq_self_eq_true,decide_true,decide_false,Int.cast_ofNat_Int,Nat.reduceAdd,Nat.reduceLT,Nat.reduceLeDiff,Nat.reduceEqDiff,Nat.reduceBEq,Nat.reduceMul,Nat.reduceSub,Int.reduceToNat,Int.reduceEq,Int.reduceNe,Int.reduceLT,Int.reduceLE,Int.reduceBEq,Int.reduceAdd,Int.reduceSub,Int.reduceMul,hP,hW]
      exact ⟨_, rfl, by unfold cmpI; rw [if_neg hc, if_pos hd]⟩
    · try simp only [ev,evA,true_and,and_true,and_self,if_true,if_false,reduceIte,ne_eq,forall_const,false_implies,beq_self_eq_true,decide_true,decide_false,Int.cast_ofNat_Int,Nat.reduceAdd,Nat.reduceLT,Nat.reduceLeDiff,Nat.reduceEqDiff,Nat.reduceBEq,Nat.reduceMul,Nat.reduceSub,Int.reduceToNat,Int.reduceEq,Int.reduceNe,Int.reduceLT,Int.reduceLE,Int.reduceBEq,Int.reduceAdd,Int.reduceSub,Int.reduceMul,hP,hW]
      refine hret _ _ S.length 5 ?_
      simp only [r_cmp_Compare_int, ev,evA,true_and,and_true,and_self,if_true,if_false,reduceIte,ne_eq,forall_const,false_implies,beq_self_eq_true,decide_true,decide_false,Int.cast_ofNat_Int,Nat.reduceAdd,Nat.reduceLT,Nat.reduceLeDiff,Nat.reduceEqDiff,Nat.reduceBEq,Nat.reduceMul,Nat.reduceSub,Int.reduceToNat,Int.reduceEq,Int.reduceNe,Int.reduceLT,Int.reduceLE,Int.reduceBEq,Int.reduceAdd,Int.reduceSub,Int.reduceMul,hP,hW]
      exact ⟨_, rfl, by unfold cmpI; rw [if_neg hc, if_neg hd]⟩

theorem t_Or2 (W0 : World) (S : List SO) (f : Bool) (x y : Int) : CtP Tryd.prog W0 n_cmp_Or_int [.lst 1 f [[.raw (.int .i64 x)], [.raw (.int .i64 y)]]] S (fun d => d = .raw (.int .i64 (if x = 0 then y else x))) := by
  refine Ct_R k_cmp_Or_int 400 (.mk [.mk (.lst 1 f [[.raw (.int .i64 x)], [.raw (.int .i64 y)]]) .junk .junk .junk .junk .junk .junk .junk, .mk .junk .junk .junk .junk .junk .junk .junk .junk] [.junk, .junk]) rfl rfl fun r hP hW hpan hret => ?_
  simp only [c_cmp_Or_int, ev,evA,true_and,and_true,and_self,if_true,if_false,reduceIte,ne_eq,forall_const,false_implies,beq_self_eq_true,decide_true,decide_false,Int.cast_ofNat_Int,Nat.reduceAdd,Nat.reduceLT,Nat.reduceLeDiff,Nat.reduceEqDiff,Nat.reduceBEq,Nat.reduceMul,Nat.reduceSub,Int.reduceToNat,Int.reduceEq,Int.reduceNe,Int.reduceLT,Int.reduceLE,Int.reduceBEq,Int.reduceAdd,Int.reduceSub,Int.reduceMul,hP,hW]
  refine SX_lp (α := Nat) (fun k => k ≤ 2 ∧ (1 ≤ k → x = 0) ∧ (2 ≤ k → y = 0)) (fun k => (.mk [.mk .junk .junk .junk (.raw (.int .i64 0)) .junk .junk (.lst 1 f [[.raw (.int .i64 x)], [.raw (.int .i64 y)]]) (.raw (.int .i64 2)), .mk (.raw (.int .i64 k)) .junk .junk .junk .junk .junk .junk .junk] [.junk, .junk])) (fun k => S) (fun k => 2 - k) 100 ?_ ?_
  · refine Cv.ex S.length _ _ ?_ (take_all (Nat.le_refl _)) (Cv.done ⟨0, ⟨by omega, by omega, by omega⟩, rfl, rfl⟩)
    simp [rlE, rlRs, rlR, rlL, DV.le]
  · rintro k ⟨hk, hx, hy⟩
    match k, hk with
    | 0, _ =>
      try simp only [List.getD_cons_zero, ev,evA,true_and,and_true,and_self,if_true,if_false,reduceIte,ne_eq,forall_const,false_implies,beq_self_eq_true,decide_true,decide_false,Int.cast_ofNat_Int,Nat.reduceAdd,Nat.reduceLT,Nat.reduceLeDiff,Nat.reduceEqDiff,Nat.reduceBEq,Nat.reduceMul,Nat.reduceSub,Int.reduceToNat,Int.reduceEq,Int.reduceNe,Int.reduceLT,Int.reduceLE,Int.reduceBEq,Int.reduceAdd,Int.reduceSub,Int.reduceMul,hP,hW]
      cases hb : (x != 0)
      · try simp only [ev,evA,true_and,and_true,and_self,if_true,if_false,reduceIte,ne_eq,forall_const,false_implies,beq_self_eq_true,decide_true,decide_false,Int.cast_ofNat_Int,Nat.reduceAdd,Nat.reduceLT,Nat.reduceLeDiff,Nat.reduceEqDiff,Nat.reduceBEq,Nat.reduceMul,Nat.reduceSub,Int.reduceToNat,Int.reduceEq,Int.reduceNe,Int.reduceLT,Int.reduceLE,Int.reduceBEq,Int.reduceAdd,Int.reduceSub,Int.reduceMul,hP,hW]
        have h0 : x = 0 := by simpa using hb
        refine Cv.ex S.length _ _ ?_ (take_all (Nat.le_refl _)) (Cv.done ⟨1, ⟨by omega, fun _ => h0, by omega⟩, by omega, rfl, rfl⟩)
        simp [rlE, rlRs, rlR, rlL, DV.le, wrap_id]
      · try simp only [ev,evA,true_and,and_true,and_self,if_true,if_false,reduceIte,ne_eq,forall_const,false_implies,beq_self_eq_true,decide_true,decide_false,Int.cast_ofNat_Int,Nat.reduceAdd,Nat.reduceLT,Nat.reduceLeDiff,Nat.reduceEqDiff,Nat.reduceBEq,Nat.reduceMul,Nat.reduceSub,Int.reduceToNat,Int.reduceEq,Int.reduceNe,Int.reduceLT,Int.reduceLE,Int.reduceBEq,Int.reduceAdd,Int.reduceSub,Int.reduceMul,hP,hW]
        have h0 : x ≠ 0 := by simpa using hb
        refine hret _ _ S.length 5 ?_
        simp only [r_cmp_Or_int, ev,evA,true_and,and_true,and_self,if_true,if_false,reduceIte,ne_eq,forall_const,false_implies,beq_self_eq_true,decide_true,decide_false,Int.cast_ofNat_Int,Nat.reduceAdd,Nat.reduceLT,Nat.reduceLeDiff,Nat.reduceEqDiff,Nat.reduceBEq,Nat.reduceMul,Nat.reduceSub,Int.reduceToNat,Int.reduceEq,Int.reduceNe,Int.reduceLT,Int.reduceLE,Int.reduceBEq,Int.reduceAdd,Int.reduceSub,Int.reduceMul,hP,hW]
        exact ⟨_, rfl, by rw [if_neg h0]⟩
    | 1, _ =>
      have h1 := hx (by omega)
      try simp only [List.getD_cons_succ, List.getD_cons_zero, Int.natCast_one, ev,evA,true_and,and_true,and_self,if_true,if_false,reduceIte,ne_eq,forall_const,false_implies,beq_self_eq_true,decide_true,decide_false,Int.cast_ofNat_Int,Nat.reduceAdd,Nat.reduceLT,Nat.reduceLeDiff,Nat.reduceEqDiff,Nat.reduceBEq,Nat.reduceMul,Nat.reduceSub,Int.reduceToNat,Int.reduceEq,Int.reduceNe,Int.reduceLT,Int.reduceLE,Int.reduceBEq,Int.reduceAdd,Int.reduceSub,Int.reduceMul,hP,hW]
      cases hb : (y != 0)
      · try simp only [ev,evA,true_and,and_true,and_self,if_true,if_false,reduceIte,ne_eq,forall_const,false_implies,beq_self_eq_true,decide_true,decide_false,Int.cast_ofNat_Int,Nat.reduceAdd,Nat.reduceLT,Nat.reduceLeDiff,Nat.reduceEqDiff,Nat.reduceBEq,Nat.reduceMul,Nat.reduceSub,Int.reduceToNat,Int.reduceEq,Int.reduceNe,Int.reduceLT,Int.reduceLE,Int.reduceBEq,Int.reduceAdd,Int.reduceSub,Int.reduceMul,hP,hW]
        have h0 : y = 0 := by simpa using hb
        refine Cv.ex S.length _ _ ?_ (take_all (Nat.le_refl _)) (Cv.done ⟨2, ⟨by omega, fun _ => h1, fun _ => h0⟩, by omega, rfl, rfl⟩)
        simp [rlE, rlRs, rlR, rlL, DV.le, wrap_id]
      · try simp only [ev,evA,true_and,and_true,and_self,if_true,if_false,reduceIte,ne_eq,forall_const,false_implies,beq_self_eq_true,decide_true,decide_false,Int.cast_ofNat_Int,Nat.reduceAdd,Nat.reduceLT,Nat.reduceLeDiff,Nat.reduceEqDiff,Nat.reduceBEq,Nat.reduceMul,Nat.reduceSub,Int.reduceToNat,Int.reduceEq,Int.reduceNe,Int.reduceLT,Int.reduceLE,Int.reduceBEq,Int.reduceAdd,Int.reduceSub,Int.reduceMul,hP,hW]
        refine hret _ _ S.length 5 ?_
        simp only [r_cmp_Or_int, ev,evA,true_and,and_true,and_self,if_true,if_false,reduceIte,ne_eq,forall_const,false_implies,beq_self_eq_true,decide_true,decide_false,Int.cast_ofNat_Int,Nat.reduceAdd,Nat.reduceLT,Nat.reduceLeDiff,Nat.reduceEqDiff,Nat.reduceBEq,Nat.reduceMul,Nat.reduceSub,Int.reduceToNat,Int.reduceEq,Int.reduceNe,Int.reduceLT,Int.reduceLE,Int.reduceBEq,Int.reduceAdd,Int.reduceSub,Int.reduceMul,hP,hW]
        exact ⟨_, rfl, by rw [if_pos h1]⟩
    | 2, _ =>
      have h1 := hx (by omega)
      have h2 := hy (by omega)
      try simp only [ev,evA,true_and,and_true,and_self,if_true,if_false,reduceIte,ne_eq,forall_const,false_implies,beq_self_eq_true,decide_true,decide_false,Int.cast_ofNat_Int,Nat.reduceAdd,Nat.reduceLT,Nat.reduceLeDiff,Nat.reduceEqDiff,Nat.reduceBEq,Nat.reduceMul,Nat.reduceSub,Int.reduceToNat,Int.reduceEq,Int.reduceNe,Int.reduceLT,Int.reduceLE,Int.reduceBEq,Int.reduceAdd,Int.reduceSub,Int.reduceMul,hP,hW]
      refine hret _ _ S.length 5 ?_
      simp only [r_cmp_Or_int, ev,evA,true_and,and_true,and_self,if_true,if_false,reduceIte,ne_eq,forall_const,false_implies,beq_self_eq_true,decide_true,decide_false,Int.cast_ofNat_Int,Nat.reduceAdd,Nat.reduceLT,Nat.reduceLeDiff,Nat.reduceEqDiff,Nat.reduceBEq,Nat.reduceMul,Nat.reduceSub,Int.reduceToNat,Int.reduceEq,Int.reduceNe,Int.reduceLT,Int.reduceLE,Int.reduceBEq,Int.reduceAdd,Int.reduceSub,Int.reduceMul,hP,hW]
      exact ⟨_, rfl, by rw [if_pos h1, h2]⟩

theorem t_compare (hm : Tryd.prog.follows .mixedOrders = true) (W0 : World) (S : List SO) (x y : Si) : CtP Tryd.prog W0 n_marks_compare [.agg (Si.c x), .agg (Si.c y)] S (fun d => d = .raw (.int .i64 (cmpS x y))) := by
  refine Ct_R k_marks_compare 400 (.mk [.mk (.agg (Si.c x)) (.agg (Si.c y)) .junk .junk .junk .junk .junk .junk, .mk .junk .junk .junk .junk .junk .junk .junk .junk] [.junk]) rfl rfl fun r hP hW hpan hret => ?_
  simp only [c_marks_compare, ev,evA,true_and,and_true,and_self,if_true,if_false,reduceIte,ne_eq,forall_const,false_implies,beq_self_eq_true,decide_true,decide_false,Int.cast_ofNat_Int,Nat.reduceAdd,Nat.reduceLT,Nat.reduceLeDiff,Nat.reduceEqDiff,Nat.reduceBEq,Nat.reduceMul,Nat.reduceSub,Int.reduceToNat,Int.reduceEq,Int.reduceNe,Int.reduceLT,Int.reduceLE,Int.reduceBEq,Int.reduceAdd,Int.reduceSub,Int.reduceMul,hP,hW]
  try simp only [hm, ev,evA,true_and,and_true,and_self,if_true,if_false,reduceIte,ne_eq,forall_const,false_implies,beq_self_eq_true,decide_true,decide_false,Int.cast_ofNat_Int,Nat.reduceAdd,Nat.reduceLT,Nat.reduceLeDiff,Nat.reduceEqDiff,Nat.reduceBEq,Nat.reduceMul,Nat.reduceSub,Int.reduceToNat,Int.reduceEq,Int.reduceNe,Int.reduceLT,Int.reduceLE,Int.reduceBEq,Int.reduceAdd,Int.reduceSub,Int.reduceMul,hP,hW]
  intro g
  try simp only [Si.c, ev,evA,true_and,and_true,and_self,if_true,if_false,reduceIte,ne_eq,forall_const,false_implies,beq_self_eq_true,decide_true,decide_false,Int.cast_ofNat_Int,Nat.reduceAdd,Nat.reduceLT,Nat.reduceLeDiff,Nat.reduceEqDiff,Nat.reduceBEq,Nat.reduceMul,Nat.reduceSub,Int.reduceToNat,Int.reduceEq,Int.reduceNe,Int.reduceLT,Int.reduceLE,Int.reduceBEq,Int.reduceAdd,Int.reduceSub,Int.reduceMul,hP,hW]
  intro g1
  refine callE _ (fun S2 => t_Compare W0 S2 x.a y.a) (by try simp only [ev,evA,true_and,and_true,and_self,if_true,if_false,reduceIte,ne_eq,forall_const,false_implies,beq_self_eq_true,decide_true,decide_false,Int.cast_ofNat_Int,Nat.reduceAdd,Nat.reduceLT,Nat.reduceLeDiff,Nat.reduceEqDiff,Nat.reduceBEq,Nat.reduceMul,Nat.reduceSub,Int.reduceToNat,Int.reduceEq,Int.reduceNe,Int.reduceLT,Int.reduceLE,Int.reduceBEq,Int.reduceAdd,Int.reduceSub,Int.reduceMul,hP,hW]) ?_
  try simp only [ev,evA,true_and,and_true,and_self,if_true,if_false,reduceIte,ne_eq,forall_const,false_implies,beq_self_eq_true,decide_true,decide_false,Int.cast_ofNat_Int,Nat.reduceAdd,Nat.reduceLT,Nat.reduceLeDiff,Nat.reduceEqDiff,Nat.reduceBEq,Nat.reduceMul,Nat.reduceSub,Int.reduceToNat,Int.reduceEq,Int.reduceNe,Int.reduceLT,Int.reduceLE,Int.reduceBEq,Int.reduceAdd,Int.reduceSub,Int.reduceMul,hP,hW]
  refine callE _ (fun S2 => t_Compare W0 S2 x.m y.m) (by try simp only [ev,evA,true_and,and_true,and_self,if_true,if_false,reduceIte,ne_eq,forall_const,false_implies,beq_self_eq_true,decide_true,decide_false,Int.cast_ofNat_Int,Nat.reduceAdd,Nat.reduceLT,Nat.reduceLeDiff,Nat.reduceEqDiff,Nat.reduceBEq,Nat.reduceMul,Nat.reduceSub,Int.reduceToNat,Int.reduceEq,Int.reduceNe,Int.reduceLT,Int.reduceLE,Int.reduceBEq,Int.reduceAdd,Int.reduceSub,Int.reduceMul,hP,hW]) ?_
  try simp only [ev,evA,true_and,and_true,and_self,if_true,if_false,reduceIte,ne_eq,forall_const,false_implies,beq_self_eq_true,decide_true,decide_false,Int.cast_ofNat_Int,Nat.reduceAdd,Nat.reduceLT,Nat.reduceLeDiff,Nat.reduceEqDiff,Nat.reduceBEq,Nat.reduceMul,Nat.reduceSub,Int.reduceToNat,Int.reduceEq,Int.reduceNe,Int.reduceLT,Int.reduceLE,Int.reduceBEq,Int.reduceAdd,Int.reduceSub,Int.reduceMul,hP,hW]
  refine callE _ (fun S2 => t_Or2 W0 S2 true (cmpI x.a y.a) (cmpI x.m y.m)) (by try simp only [ev,evA,true_and,and_true,and_self,if_true,if_false,reduceIte,ne_eq,forall_const,false_implies,beq_self_eq_true,decide_true,decide_false,Int.cast_ofNat_Int,Nat.reduceAdd,Nat.reduceLT,Nat.reduceLeDiff,Nat.reduceEqDiff,Nat.reduceBEq,Nat.reduceMul,Nat.reduceSub,Int.reduceToNat,Int.reduceEq,Int.reduceNe,Int.reduceLT,Int.reduceLE,Int.reduceBEq,Int.reduceAdd,Int.reduceSub,Int.reduceMul,hP,hW]) ?_
  try simp only [ev,evA,true_and,and_true,and_self,if_true,if_false,reduceIte,ne_eq,forall_const,false_implies,beq_self_eq_true,decide_true,decide_false,Int.cast_ofNat_Int,Nat.reduceAdd,Nat.reduceLT,Nat.reduceLeDiff,Nat.reduceEqDiff,Nat.reduceBEq,Nat.reduceMul,Nat.reduceSub,Int.reduceToNat,Int.reduceEq,Int.reduceNe,Int.reduceLT,Int.reduceLE,Int.reduceBEq,Int.reduceAdd,Int.reduceSub,Int.reduceMul,hP,hW]
  refine hret _ _ S.length 5 ?_
  simp only [r_marks_compare, ev,evA,true_and,and_true,and_self,if_true,if_false,reduceIte,ne_eq,forall_const,false_implies,beq_self_eq_true,decide_true,decide_false,Int.cast_ofNat_Int,Nat.reduceAdd,Nat.reduceLT,Nat.reduceLeDiff,Nat.reduceEqDiff,Nat.reduceBEq,Nat.reduceMul,Nat.reduceSub,Int.reduceToNat,Int.reduceEq,Int.reduceNe,Int.reduceLT,Int.reduceLE,Int.reduceBEq,Int.reduceAdd,Int.reduceSub,Int.reduceMul,hP,hW]
  exact ⟨_, rfl, rfl⟩

theorem t_Right (hm : Tryd.prog.follows .mixedOrders = true) (W0 : World) (S : List SO) (f1 f2 : Bool) (l : List Sp) (q : List Si) (n : Int) (hl : l.length ≤ 1099511627776) (hq : q.length ≤ 1099511627776) : CtP Tryd.prog W0 n_marks_Right [.agg [.lst 3 f1 (encSp l), .lst 2 f2 (encSi q)], .raw (.int .i64 n)] S
    (fun d => ∃ b : Bool, d = .raw (.bool b) ∧ (b = true ↔ RS n 0 0 l ∧ QS n q)) := by
  refine Ct_R k_marks_Right 400 (.mk [.mk (.agg [.lst 3 f1 (encSp l), .lst 2 f2 (encSi q)]) (.raw (.int .i64 n)) .junk .junk .junk .junk .junk .junk, .mk .junk .junk .junk .junk .junk .junk .junk .junk, .mk .junk .junk .junk .junk .junk .junk .junk .junk, .mk .junk .junk .junk .junk .junk .junk .junk .junk, .mk .junk .junk .junk .junk .junk .junk .junk .junk, .mk .junk .junk .junk .junk .junk .junk .junk .junk, .mk .junk .junk .junk .junk .junk .junk .junk .junk, .mk .junk .junk .junk .junk .junk .junk .junk .junk, .mk .junk .junk .junk .junk .junk .junk .junk .junk, .mk .junk .junk .junk .junk .junk .junk .junk .junk, .mk .junk .junk .junk .junk .junk .junk .junk .junk, .mk .junk .junk .junk .junk .junk .junk .junk .junk, .mk .junk .junk .junk .junk .junk .junk .junk .junk] [.junk]) rfl rfl fun r hP hW hpan hret => ?_
  simp only [c_marks_Right, ev,evA,true_and,and_true,and_self,if_true,if_false,reduceIte,ne_eq,forall_const,false_implies,beq_self_eq_true,decide_true,decide_false,Int.cast_ofNat_Int,Nat.reduceAdd,Nat.reduceLT,Nat.reduceLeDiff,Nat.reduceEqDiff,Nat.reduceBEq,Nat.reduceMul,Nat.reduceSub,Int.reduceToNat,Int.reduceEq,Int.reduceNe,Int.reduceLT,Int.reduceLE,Int.reduceBEq,Int.reduceAdd,Int.reduceSub,Int.reduceMul,hP,hW]
  intro g
  try simp only [hm, encSp_len, ev,evA,true_and,and_true,and_self,if_true,if_false,reduceIte,ne_eq,forall_const,false_implies,beq_self_eq_true,decide_true,decide_false,Int.cast_ofNat_Int,Nat.reduceAdd,Nat.reduceLT,Nat.reduceLeDiff,Nat.reduceEqDiff,Nat.reduceBEq,Nat.reduceMul,Nat.reduceSub,Int.reduceToNat,Int.reduceEq,Int.reduceNe,Int.reduceLT,Int.reduceLE,Int.reduceBEq,Int.reduceAdd,Int.reduceSub,Int.reduceMul,hP,hW]
  refine SX_lp (α := Nat) (fun k => k ≤ l.length ∧ RS n 0 0 (l.take k)) (fun k => (.mk [.mk .junk (.raw (.int .i64 n)) (.loc S.length (g 0) 0) .junk .junk .junk .junk .junk, .mk .junk .junk .junk (.lst 3 f1 (encSp l)) (.raw (.int .i64 l.length)) (.raw (.int .i64 k)) .junk .junk, .mk .junk .junk .junk .junk .junk .junk .junk .junk, .mk .junk .junk .junk .junk .junk .junk .junk .junk, .mk .junk .junk .junk .junk .junk .junk .junk .junk, .mk .junk .junk .junk .junk .junk .junk .junk .junk, .mk .junk .junk .junk .junk .junk .junk .junk .junk, .mk .junk .junk .junk .junk .junk .junk .junk .junk, .mk .junk .junk .junk .junk .junk .junk .junk .junk, .mk .junk .junk .junk .junk .junk .junk .junk .junk, .mk .junk .junk .junk .junk .junk .junk .junk .junk, .mk .junk .junk .junk .junk .junk .junk .junk .junk, .mk .junk .junk .junk .junk .junk .junk .junk .junk] [.junk])) (fun k => S ++ [.cells (g 0) [.lst 3 f1 (encSp l), .lst 2 f2 (encSi q)]]) (fun k => l.length - k) 200 ?_ ?_
  · refine Cv.ex (S.length + 1) _ _ ?_ (take_all (by simp)) (Cv.done ⟨0, ⟨Nat.zero_le _, trivial⟩, rfl, rfl⟩)
    simp [rlE, rlRs, rlR, rlL, DV.le]
  · rintro k ⟨hk, hrs⟩
    by_cases hlt : k < l.length
    · have d1 : decide ((k : Int) < (l.length : Int)) = true := decide_eq_true (by omega)
      have c1 : (0 ≤ (k : Int) ∧ (k : Int) < (l.length : Int)) = True := by simp; omega
      have e1 := getD_sp hlt
      have w3 : IntKind.i64.wrap ((k : Int) + 1) = ((k + 1 : Nat) : Int) := by rw [wrap_id (by omega) (by omega)]; omega
      try simp only [d1, c1, encSp_len, ev,evA,true_and,and_true,and_self,if_true,if_false,reduceIte,ne_eq,forall_const,false_implies,beq_self_eq_true,decide_true,decide_false,Int.cast_ofNat_Int,Nat.reduceAdd,Nat.reduceLT,Nat.reduceLeDiff,Nat.reduceEqDiff,Nat.reduceBEq,Nat.reduceMul,Nat.reduceSub,Int.reduceToNat,Int.reduceEq,Int.reduceNe,Int.reduceLT,Int.reduceLE,Int.reduceBEq,Int.reduceAdd,Int.reduceSub,Int.reduceMul,hP,hW]
      intro s0
      try simp only [e1, ev,evA,true_and,and_true,and_self,if_true,if_false,reduceIte,ne_eq,forall_const,false_implies,beq_self_eq_true,decide_true,decide_false,Int.cast_ofNat_Int,Nat.reduceAdd,Nat.reduceLT,Nat.reduceLeDiff,Nat.reduceEqDiff,Nat.reduceBEq,Nat.reduceMul,Nat.reduceSub,Int.reduceToNat,Int.reduceEq,Int.reduceNe,Int.reduceLT,Int.reduceLE,Int.reduceBEq,Int.reduceAdd,Int.reduceSub,Int.reduceMul,hP,hW]
      by_cases h1 : l[k].m ≤ 0
      · try simp only [decide_eq_true h1, ev,evA,true_and,and_true,and_self,if_true,if_false,reduceIte,ne_eq,forall_const,false_implies,beq_self_eq_true,decide_true,decide_false,Int.cast_ofNat_Int,Nat.reduceAdd,Nat.reduceLT,Nat.reduceLeDiff,Nat.reduceEqDiff,Nat.reduceBEq,Nat.reduceMul,Nat.reduceSub,Int.reduceToNat,Int.reduceEq,Int.reduceNe,Int.reduceLT,Int.reduceLE,Int.reduceBEq,Int.reduceAdd,Int.reduceSub,Int.reduceMul,hP,hW]
        refine hret _ _ S.length 5 ?_
        simp only [r_marks_Right, ev,evA,true_and,and_true,and_self,if_true,if_false,reduceIte,ne_eq,forall_const,false_implies,beq_self_eq_true,decide_true,decide_false,Int.cast_ofNat_Int,Nat.reduceAdd,Nat.reduceLT,Nat.reduceLeDiff,Nat.reduceEqDiff,Nat.reduceBEq,Nat.reduceMul,Nat.reduceSub,Int.reduceToNat,Int.reduceEq,Int.reduceNe,Int.reduceLT,Int.reduceLE,Int.reduceBEq,Int.reduceAdd,Int.reduceSub,Int.reduceMul,hP,hW]
        exact ⟨_, rfl, false, rfl, by simp only [Bool.false_eq_true, false_iff]; exact fun hh => absurd (RS_step hh.1 hlt) (by unfold SpOk; intro hh; omega)⟩
      by_cases h2 : l[k].f < 0
      · try simp only [decide_eq_false h1, decide_eq_true h2, ev,evA,true_and,and_true,and_self,if_true,if_false,reduceIte,ne_eq,forall_const,false_implies,beq_self_eq_true,decide_true,decide_false,Int.cast_ofNat_Int,Nat.reduceAdd,Nat.reduceLT,Nat.reduceLeDiff,Nat.reduceEqDiff,Nat.reduceBEq,Nat.reduceMul,Nat.reduceSub,Int.reduceToNat,Int.reduceEq,Int.reduceNe,Int.reduceLT,Int.reduceLE,Int.reduceBEq,Int.reduceAdd,Int.reduceSub,Int.reduceMul,hP,hW]
        refine hret _ _ S.length 5 ?_
        simp only [r_marks_Right, ev,evA,true_and,and_true,and_self,if_true,if_false,reduceIte,ne_eq,forall_const,false_implies,beq_self_eq_true,decide_true,decide_false,Int.cast_ofNat_Int,Nat.reduceAdd,Nat.reduceLT,Nat.reduceLeDiff,Nat.reduceEqDiff,Nat.reduceBEq,Nat.reduceMul,Nat.reduceSub,Int.reduceToNat,Int.reduceEq,Int.reduceNe,Int.reduceLT,Int.reduceLE,Int.reduceBEq,Int.reduceAdd,Int.reduceSub,Int.reduceMul,hP,hW]
        exact ⟨_, rfl, false, rfl, by simp only [Bool.false_eq_true, false_iff]; exact fun hh => absurd (RS_step hh.1 hlt) (by unfold SpOk; intro hh; omega)⟩
      by_cases h3 : l[k].t ≤ l[k].f
      · try simp only [decide_eq_false h1, decide_eq_false h2, decide_eq_true h3, ev,evA,true_and,and_true,and_self,if_true,if_false,reduceIte,ne_eq,forall_const,false_implies,beq_self_eq_true,decide_true,decide_false,Int.cast_ofNat_Int,Nat.reduceAdd,Nat.reduceLT,Nat.reduceLeDiff,Nat.reduceEqDiff,Nat.reduceBEq,Nat.reduceMul,Nat.reduceSub,Int.reduceToNat,Int.reduceEq,Int.reduceNe,Int.reduceLT,Int.reduceLE,Int.reduceBEq,Int.reduceAdd,Int.reduceSub,Int.reduceMul,hP,hW]
        refine hret _ _ S.length 5 ?_
        simp only [r_marks_Right, ev,evA,true_and,and_true,and_self,if_true,if_false,reduceIte,ne_eq,forall_const,false_implies,beq_self_eq_true,decide_true,decide_false,Int.cast_ofNat_Int,Nat.reduceAdd,Nat.reduceLT,Nat.reduceLeDiff,Nat.reduceEqDiff,Nat.reduceBEq,Nat.reduceMul,Nat.reduceSub,Int.reduceToNat,Int.reduceEq,Int.reduceNe,Int.reduceLT,Int.reduceLE,Int.reduceBEq,Int.reduceAdd,Int.reduceSub,Int.reduceMul,hP,hW]
        exact ⟨_, rfl, false, rfl, by simp only [Bool.false_eq_true, false_iff]; exact fun hh => absurd (RS_step hh.1 hlt) (by unfold SpOk; intro hh; omega)⟩
      by_cases h4 : n < l[k].t
      · try simp only [decide_eq_false h1, decide_eq_false h2, decide_eq_false h3, decide_eq_true h4, ev,evA,true_and,and_true,and_self,if_true,if_false,reduceIte,ne_eq,forall_const,false_implies,beq_self_eq_true,decide_true,decide_false,Int.cast_ofNat_Int,Nat.reduceAdd,Nat.reduceLT,Nat.reduceLeDiff,Nat.reduceEqDiff,Nat.reduceBEq,Nat.reduceMul,Nat.reduceSub,Int.reduceToNat,Int.reduceEq,Int.reduceNe,Int.reduceLT,Int.reduceLE,Int.reduceBEq,Int.reduceAdd,Int.reduceSub,Int.reduceMul,hP,hW]
        refine hret _ _ S.length 5 ?_
        simp only [r_marks_Right, ev,evA,true_and,and_true,and_self,if_true,if_false,reduceIte,ne_eq,forall_const,false_implies,beq_self_eq_true,decide_true,decide_false,Int.cast_ofNat_Int,Nat.reduceAdd,Nat.reduceLT,Nat.reduceLeDiff,Nat.reduceEqDiff,Nat.reduceBEq,Nat.reduceMul,Nat.reduceSub,Int.reduceToNat,Int.reduceEq,Int.reduceNe,Int.reduceLT,Int.reduceLE,Int.reduceBEq,Int.reduceAdd,Int.reduceSub,Int.reduceMul,hP,hW]
        exact ⟨_, rfl, false, rfl, by simp only [Bool.false_eq_true, false_iff]; exact fun hh => absurd (RS_step hh.1 hlt) (by unfold SpOk; intro hh; omega)⟩
      try simp only [decide_eq_false h1, decide_eq_false h2, decide_eq_false h3, decide_eq_false h4, ev,evA,true_and,and_true,and_self,if_true,if_false,reduceIte,ne_eq,forall_const,false_implies,beq_self_eq_true,decide_true,decide_false,Int.cast_ofNat_Int,Nat.reduceAdd,Nat.reduceLT,Nat.reduceLeDiff,Nat.reduceEqDiff,Nat.reduceBEq,Nat.reduceMul,Nat.reduceSub,Int.reduceToNat,Int.reduceEq,Int.reduceNe,Int.reduceLT,Int.reduceLE,Int.reduceBEq,Int.reduceAdd,Int.reduceSub,Int.reduceMul,hP,hW]
      by_cases h5 : k = 0
      · subst h5
        try simp only [ev,evA,true_and,and_true,and_self,if_true,if_false,reduceIte,ne_eq,forall_const,false_implies,beq_self_eq_true,decide_true,decide_false,Int.cast_ofNat_Int,Nat.reduceAdd,Nat.reduceLT,Nat.reduceLeDiff,Nat.reduceEqDiff,Nat.reduceBEq,Nat.reduceMul,Nat.reduceSub,Int.reduceToNat,Int.reduceEq,Int.reduceNe,Int.reduceLT,Int.reduceLE,Int.reduceBEq,Int.reduceAdd,Int.reduceSub,Int.reduceMul,hP,hW]
        refine Cv.ex (S.length + 1) _ _ ?_ (take_append1 ..) (Cv.done ⟨1, ⟨hlt, (RS_take hlt).2 ⟨hrs, by unfold SpOk; refine ⟨by omega, by omega, by omega, by omega, fun p hp => absurd hp (by omega)⟩⟩⟩, by omega, rfl, rfl⟩)
        simp [rlE, rlRs, rlR, rlL, DV.le, wrap_id]
      · have h5' : decide ((0 : Int) < (k : Int)) = true := decide_eq_true (by omega)
        have hk1 : k - 1 < l.length := by omega
        have w4 : IntKind.i64.wrap ((k : Int) - 1) = ((k - 1 : Nat) : Int) := by rw [wrap_id (by omega) (by omega)]; omega
        have c2 : (0 ≤ ((k - 1 : Nat) : Int) ∧ ((k - 1 : Nat) : Int) < (l.length : Int)) = True := by simp; omega
        have e2 := getD_sp hk1
        try simp only [h5', w4, c2, encSp_len, ev,evA,true_and,and_true,and_self,if_true,if_false,reduceIte,ne_eq,forall_const,false_implies,beq_self_eq_true,decide_true,decide_false,Int.cast_ofNat_Int,Nat.reduceAdd,Nat.reduceLT,Nat.reduceLeDiff,Nat.reduceEqDiff,Nat.reduceBEq,Nat.reduceMul,Nat.reduceSub,Int.reduceToNat,Int.reduceEq,Int.reduceNe,Int.reduceLT,Int.reduceLE,Int.reduceBEq,Int.reduceAdd,Int.reduceSub,Int.reduceMul,hP,hW]
        intro s1
        try simp only [h5', w4, c2, e2, encSp_len, ev,evA,true_and,and_true,and_self,if_true,if_false,reduceIte,ne_eq,forall_const,false_implies,beq_self_eq_true,decide_true,decide_false,Int.cast_ofNat_Int,Nat.reduceAdd,Nat.reduceLT,Nat.reduceLeDiff,Nat.reduceEqDiff,Nat.reduceBEq,Nat.reduceMul,Nat.reduceSub,Int.reduceToNat,Int.reduceEq,Int.reduceNe,Int.reduceLT,Int.reduceLE,Int.reduceBEq,Int.reduceAdd,Int.reduceSub,Int.reduceMul,hP,hW]
        have hg : l[k - 1]? = some l[k - 1] := List.getElem?_eq_getElem hk1
        by_cases h6 : l[k].f < l[k - 1].t
        · try simp only [decide_eq_true h6, ev,evA,true_and,and_true,and_self,if_true,if_false,reduceIte,ne_eq,forall_const,false_implies,beq_self_eq_true,decide_true,decide_false,Int.cast_ofNat_Int,Nat.reduceAdd,Nat.reduceLT,Nat.reduceLeDiff,Nat.reduceEqDiff,Nat.reduceBEq,Nat.reduceMul,Nat.reduceSub,Int.reduceToNat,Int.reduceEq,Int.reduceNe,Int.reduceLT,Int.reduceLE,Int.reduceBEq,Int.reduceAdd,Int.reduceSub,Int.reduceMul,hP,hW]
          refine hret _ _ S.length 5 ?_
          simp only [r_marks_Right, ev,evA,true_and,and_true,and_self,if_true,if_false,reduceIte,ne_eq,forall_const,false_implies,beq_self_eq_true,decide_true,decide_false,Int.cast_ofNat_Int,Nat.reduceAdd,Nat.reduceLT,Nat.reduceLeDiff,Nat.reduceEqDiff,Nat.reduceBEq,Nat.reduceMul,Nat.reduceSub,Int.reduceToNat,Int.reduceEq,Int.reduceNe,Int.reduceLT,Int.reduceLE,Int.reduceBEq,Int.reduceAdd,Int.reduceSub,Int.reduceMul,hP,hW]
          exact ⟨_, rfl, false, rfl, by simp only [Bool.false_eq_true, false_iff]; exact fun hh => absurd (RS_step hh.1 hlt) (by unfold SpOk; intro hh; (have := hh.2.2.2.2 _ (by omega) hg; omega))⟩
        cases h7 : (l[k - 1].t == l[k].f)
        · try simp only [decide_eq_false h6, h7, w3, ev,evA,true_and,and_true,and_self,if_true,if_false,reduceIte,ne_eq,forall_const,false_implies,beq_self_eq_true,decide_true,decide_false,Int.cast_ofNat_Int,Nat.reduceAdd,Nat.reduceLT,Nat.reduceLeDiff,Nat.reduceEqDiff,Nat.reduceBEq,Nat.reduceMul,Nat.reduceSub,Int.reduceToNat,Int.reduceEq,Int.reduceNe,Int.reduceLT,Int.reduceLE,Int.reduceBEq,Int.reduceAdd,Int.reduceSub,Int.reduceMul,hP,hW]
          refine Cv.ex (S.length + 1) (.mk [.mk .junk (.raw (.int .i64 n)) (.loc S.length (g 0) 0) .junk .junk .junk .junk .junk, .mk .junk .junk .junk (.lst 3 f1 (encSp l)) (.raw (.int .i64 l.length)) (.raw (.int .i64 (k + 1 : Nat))) .junk .junk, .mk .junk .junk .junk .junk .junk .junk .junk .junk, .mk .junk .junk .junk .junk .junk .junk .junk .junk, .mk .junk .junk .junk .junk .junk .junk .junk .junk, .mk .junk .junk .junk .junk .junk .junk .junk .junk, .mk .junk .junk .junk .junk .junk .junk .junk .junk, .mk .junk .junk .junk .junk .junk .junk .junk .junk, .mk .junk .junk .junk .junk .junk .junk .junk .junk, .mk .junk .junk .junk .junk .junk .junk .junk .junk, .mk .junk .junk .junk .junk .junk .junk .junk .junk, .mk .junk .junk .junk .junk .junk .junk .junk .junk, .mk .junk .junk .junk .junk .junk .junk .junk .junk] [.junk]) _ ?_ (take_append1 ..) (Cv.done ⟨k + 1, ⟨hlt, (RS_take hlt).2 ⟨hrs, by unfold SpOk; refine ⟨by omega, by omega, by omega, by omega, fun p hp hp2 => ?_⟩; rw [hg] at hp2; cases hp2; exact ⟨by omega, fun ⟨a, _⟩ => by rw [a] at h7; simp at h7⟩⟩⟩, by omega, rfl, rfl⟩)
          simp [rlE, rlRs, rlR, rlL, DV.le]
        · cases h8 : (l[k - 1].m == l[k].m)
          · try simp only [decide_eq_false h6, h7, h8, w3, ev,evA,true_and,and_true,and_self,if_true,if_false,reduceIte,ne_eq,forall_const,false_implies,beq_self_eq_true,decide_true,decide_false,Int.cast_ofNat_Int,Nat.reduceAdd,Nat.reduceLT,Nat.reduceLeDiff,Nat.reduceEqDiff,Nat.reduceBEq,Nat.reduceMul,Nat.reduceSub,Int.reduceToNat,Int.reduceEq,Int.reduceNe,Int.reduceLT,Int.reduceLE,Int.reduceBEq,Int.reduceAdd,Int.reduceSub,Int.reduceMul,hP,hW]
            refine Cv.ex (S.length + 1) (.mk [.mk .junk (.raw (.int .i64 n)) (.loc S.length (g 0) 0) .junk .junk .junk .junk .junk, .mk .junk .junk .junk (.lst 3 f1 (encSp l)) (.raw (.int .i64 l.length)) (.raw (.int .i64 (k + 1 : Nat))) .junk .junk, .mk .junk .junk .junk .junk .junk .junk .junk .junk, .mk .junk .junk .junk .junk .junk .junk .junk .junk, .mk .junk .junk .junk .junk .junk .junk .junk .junk, .mk .junk .junk .junk .junk .junk .junk .junk .junk, .mk .junk .junk .junk .junk .junk .junk .junk .junk, .mk .junk .junk .junk .junk .junk .junk .junk .junk, .mk .junk .junk .junk .junk .junk .junk .junk .junk, .mk .junk .junk .junk .junk .junk .junk .junk .junk, .mk .junk .junk .junk .junk .junk .junk .junk .junk, .mk .junk .junk .junk .junk .junk .junk .junk .junk, .mk .junk .junk .junk .junk .junk .junk .junk .junk] [.junk]) _ ?_ (take_append1 ..) (Cv.done ⟨k + 1, ⟨hlt, (RS_take hlt).2 ⟨hrs, by unfold SpOk; refine ⟨by omega, by omega, by omega, by omega, fun p hp hp2 => ?_⟩; rw [hg] at hp2; cases hp2; exact ⟨by omega, fun ⟨_, a⟩ => by rw [a] at h8; simp at h8⟩⟩⟩, by omega, rfl, rfl⟩)
            simp [rlE, rlRs, rlR, rlL, DV.le]
          · try simp only [decide_eq_false h6, h7, h8, ev,evA,true_and,and_true,and_self,if_true,if_false,reduceIte,ne_eq,forall_const,false_implies,beq_self_eq_true,decide_true,decide_false,Int.cast_ofNat_Int,Nat.reduceAdd,Nat.reduceLT,Nat.reduceLeDiff,Nat.reduceEqDiff,Nat.reduceBEq,Nat.reduceMul,Nat.reduceSub,Int.reduceToNat,Int.reduceEq,Int.reduceNe,Int.reduceLT,Int.reduceLE,Int.reduceBEq,Int.reduceAdd,Int.reduceSub,Int.reduceMul,hP,hW]
            refine hret _ _ S.length 5 ?_
            simp only [r_marks_Right, ev,evA,true_and,and_true,and_self,if_true,if_false,reduceIte,ne_eq,forall_const,false_implies,beq_self_eq_true,decide_true,decide_false,Int.cast_ofNat_Int,Nat.reduceAdd,Nat.reduceLT,Nat.reduceLeDiff,Nat.reduceEqDiff,Nat.reduceBEq,Nat.reduceMul,Nat.reduceSub,Int.reduceToNat,Int.reduceEq,Int.reduceNe,Int.reduceLT,Int.reduceLE,Int.reduceBEq,Int.reduceAdd,Int.reduceSub,Int.reduceMul,hP,hW]
            exact ⟨_, rfl, false, rfl, by simp only [Bool.false_eq_true, false_iff]; exact fun hh => absurd (RS_step hh.1 hlt) (by unfold SpOk; intro hh; (have := hh.2.2.2.2 _ (by omega) hg; exact this.2 ⟨by simpa using h7, by simpa using h8⟩))⟩
    · have d1 : decide ((k : Int) < (l.length : Int)) = false := decide_eq_false (by omega)
      have hk' : k = l.length := by omega
      subst hk'
      rw [List.take_length] at hrs
      try simp only [d1, encSi_len, ev,evA,true_and,and_true,and_self,if_true,if_false,reduceIte,ne_eq,forall_const,false_implies,beq_self_eq_true,decide_true,decide_false,Int.cast_ofNat_Int,Nat.reduceAdd,Nat.reduceLT,Nat.reduceLeDiff,Nat.reduceEqDiff,Nat.reduceBEq,Nat.reduceMul,Nat.reduceSub,Int.reduceToNat,Int.reduceEq,Int.reduceNe,Int.reduceLT,Int.reduceLE,Int.reduceBEq,Int.reduceAdd,Int.reduceSub,Int.reduceMul,hP,hW]
      refine SX_lp (α := Nat) (fun k => k ≤ q.length ∧ QS n (q.take k)) (fun k => (.mk [.mk .junk (.raw (.int .i64 n)) (.loc S.length (g 0) 0) .junk .junk .junk .junk .junk, .mk .junk .junk .junk .junk .junk .junk .junk .junk, .mk .junk .junk .junk .junk .junk .junk .junk .junk, .mk .junk .junk .junk .junk .junk .junk .junk .junk, .mk .junk .junk .junk .junk .junk .junk .junk .junk, .mk .junk .junk .junk .junk .junk .junk .junk .junk, .mk .junk .junk .junk .junk .junk .junk .junk .junk, .mk .junk .junk .junk .junk .junk .junk .junk .junk, .mk .junk .junk .junk .junk (.lst 2 f2 (encSi q)) (.raw (.int .i64 q.length)) (.raw (.int .i64 k)) .junk, .mk .junk .junk .junk .junk .junk .junk .junk .junk, .mk .junk .junk .junk .junk .junk .junk .junk .junk, .mk .junk .junk .junk .junk .junk .junk .junk .junk, .mk .junk .junk .junk .junk .junk .junk .junk .junk] [.junk])) (fun k => S ++ [.cells (g 0) [.lst 3 f1 (encSp l), .lst 2 f2 (encSi q)]]) (fun k => q.length - k) 200 ?_ ?_
      · refine Cv.ex (S.length + 1) _ _ ?_ (take_all (by simp)) (Cv.done ⟨0, ⟨Nat.zero_le _, QS_nil n⟩, rfl, rfl⟩)
        simp [rlE, rlRs, rlR, rlL, DV.le]
      · rintro k ⟨hk, hqs⟩
        by_cases hlt : k < q.length
        · have d1 : decide ((k : Int) < (q.length : Int)) = true := decide_eq_true (by omega)
          have c1 : (0 ≤ (k : Int) ∧ (k : Int) < (q.length : Int)) = True := by simp; omega
          have e1 := getD_si hlt
          have w3 : IntKind.i64.wrap ((k : Int) + 1) = ((k + 1 : Nat) : Int) := by rw [wrap_id (by omega) (by omega)]; omega
          try simp only [d1, c1, encSi_len, ev,evA,true_and,and_true,and_self,if_true,if_false,reduceIte,ne_eq,forall_const,false_implies,beq_self_eq_true,decide_true,decide_false,Int.cast_ofNat_Int,Nat.reduceAdd,Nat.reduceLT,Nat.reduceLeDiff,Nat.reduceEqDiff,Nat.reduceBEq,Nat.reduceMul,Nat.reduceSub,Int.reduceToNat,Int.reduceEq,Int.reduceNe,Int.reduceLT,Int.reduceLE,Int.reduceBEq,Int.reduceAdd,Int.reduceSub,Int.reduceMul,hP,hW]
          intro s0
          try simp only [e1, hm, ev,evA,true_and,and_true,and_self,if_true,if_false,reduceIte,ne_eq,forall_const,false_implies,beq_self_eq_true,decide_true,decide_false,Int.cast_ofNat_Int,Nat.reduceAdd,Nat.reduceLT,Nat.reduceLeDiff,Nat.reduceEqDiff,Nat.reduceBEq,Nat.reduceMul,Nat.reduceSub,Int.reduceToNat,Int.reduceEq,Int.reduceNe,Int.reduceLT,Int.reduceLE,Int.reduceBEq,Int.reduceAdd,Int.reduceSub,Int.reduceMul,hP,hW]
          by_cases h1 : q[k].m ≤ 0
          · try simp only [decide_eq_true h1, ev,evA,true_and,and_true,and_self,if_true,if_false,reduceIte,ne_eq,forall_const,false_implies,beq_self_eq_true,decide_true,decide_false,Int.cast_ofNat_Int,Nat.reduceAdd,Nat.reduceLT,Nat.reduceLeDiff,Nat.reduceEqDiff,Nat.reduceBEq,Nat.reduceMul,Nat.reduceSub,Int.reduceToNat,Int.reduceEq,Int.reduceNe,Int.reduceLT,Int.reduceLE,Int.reduceBEq,Int.reduceAdd,Int.reduceSub,Int.reduceMul,hP,hW]
            refine hret _ _ S.length 5 ?_
            simp only [r_marks_Right, ev,evA,true_and,and_true,and_self,if_true,if_false,reduceIte,ne_eq,forall_const,false_implies,beq_self_eq_true,decide_true,decide_false,Int.cast_ofNat_Int,Nat.reduceAdd,Nat.reduceLT,Nat.reduceLeDiff,Nat.reduceEqDiff,Nat.reduceBEq,Nat.reduceMul,Nat.reduceSub,Int.reduceToNat,Int.reduceEq,Int.reduceNe,Int.reduceLT,Int.reduceLE,Int.reduceBEq,Int.reduceAdd,Int.reduceSub,Int.reduceMul,hP,hW]
            exact ⟨_, rfl, false, rfl, by simp only [Bool.false_eq_true, false_iff]; exact fun hh => absurd (QS_step hh.2 hlt) (by unfold SiOk; intro hh; omega)⟩
          by_cases h2 : q[k].a < 0
          · try simp only [decide_eq_false h1, decide_eq_true h2, ev,evA,true_and,and_true,and_self,if_true,if_false,reduceIte,ne_eq,forall_const,false_implies,beq_self_eq_true,decide_true,decide_false,Int.cast_ofNat_Int,Nat.reduceAdd,Nat.reduceLT,Nat.reduceLeDiff,Nat.reduceEqDiff,Nat.reduceBEq,Nat.reduceMul,Nat.reduceSub,Int.reduceToNat,Int.reduceEq,Int.reduceNe,Int.reduceLT,Int.reduceLE,Int.reduceBEq,Int.reduceAdd,Int.reduceSub,Int.reduceMul,hP,hW]
            refine hret _ _ S.length 5 ?_
            simp only [r_marks_Right, ev,evA,true_and,and_true,and_self,if_true,if_false,reduceIte,ne_eq,forall_const,false_implies,beq_self_eq_true,decide_true,decide_false,Int.cast_ofNat_Int,Nat.reduceAdd,Nat.reduceLT,Nat.reduceLeDiff,Nat.reduceEqDiff,Nat.reduceBEq,Nat.reduceMul,Nat.reduceSub,Int.reduceToNat,Int.reduceEq,Int.reduceNe,Int.reduceLT,Int.reduceLE,Int.reduceBEq,Int.reduceAdd,Int.reduceSub,Int.reduceMul,hP,hW]
            exact ⟨_, rfl, false, rfl, by simp only [Bool.false_eq_true, false_iff]; exact fun hh => absurd (QS_step hh.2 hlt) (by unfold SiOk; intro hh; omega)⟩
          by_cases h3 : n < q[k].a
          · try simp only [decide_eq_false h1, decide_eq_false h2, decide_eq_true h3, ev,evA,true_and,and_true,and_self,if_true,if_false,reduceIte,ne_eq,forall_const,false_implies,beq_self_eq_true,decide_true,decide_false,Int.cast_ofNat_Int,Nat.reduceAdd,Nat.reduceLT,Nat.reduceLeDiff,Nat.reduceEqDiff,Nat.reduceBEq,Nat.reduceMul,Nat.reduceSub,Int.reduceToNat,Int.reduceEq,Int.reduceNe,Int.reduceLT,Int.reduceLE,Int.reduceBEq,Int.reduceAdd,Int.reduceSub,Int.reduceMul,hP,hW]
            refine hret _ _ S.length 5 ?_
            simp only [r_marks_Right, ev,evA,true_and,and_true,and_self,if_true,if_false,reduceIte,ne_eq,forall_const,false_implies,beq_self_eq_true,decide_true,decide_false,Int.cast_ofNat_Int,Nat.reduceAdd,Nat.reduceLT,Nat.reduceLeDiff,Nat.reduceEqDiff,Nat.reduceBEq,Nat.reduceMul,Nat.reduceSub,Int.reduceToNat,Int.reduceEq,Int.reduceNe,Int.reduceLT,Int.reduceLE,Int.reduceBEq,Int.reduceAdd,Int.reduceSub,Int.reduceMul,hP,hW]
            exact ⟨_, rfl, false, rfl, by simp only [Bool.false_eq_true, false_iff]; exact fun hh => absurd (QS_step hh.2 hlt) (by unfold SiOk; intro hh; omega)⟩
          try simp only [decide_eq_false h1, decide_eq_false h2, decide_eq_false h3, ev,evA,true_and,and_true,and_self,if_true,if_false,reduceIte,ne_eq,forall_const,false_implies,beq_self_eq_true,decide_true,decide_false,Int.cast_ofNat_Int,Nat.reduceAdd,Nat.reduceLT,Nat.reduceLeDiff,Nat.reduceEqDiff,Nat.reduceBEq,Nat.reduceMul,Nat.reduceSub,Int.reduceToNat,Int.reduceEq,Int.reduceNe,Int.reduceLT,Int.reduceLE,Int.reduceBEq,Int.reduceAdd,Int.reduceSub,Int.reduceMul,hP,hW]
          by_cases h5 : k = 0
          · subst h5
            try simp only [ev,evA,true_and,and_true,and_self,if_true,if_false,reduceIte,ne_eq,forall_const,false_implies,beq_self_eq_true,decide_true,decide_false,Int.cast_ofNat_Int,Nat.reduceAdd,Nat.reduceLT,Nat.reduceLeDiff,Nat.reduceEqDiff,Nat.reduceBEq,Nat.reduceMul,Nat.reduceSub,Int.reduceToNat,Int.reduceEq,Int.reduceNe,Int.reduceLT,Int.reduceLE,Int.reduceBEq,Int.reduceAdd,Int.reduceSub,Int.reduceMul,hP,hW]
            refine Cv.ex (S.length + 1) _ _ ?_ (take_append1 ..) (Cv.done ⟨1, ⟨hlt, (QS_take hlt).2 ⟨hqs, by unfold SiOk; refine ⟨by omega, by omega, by omega, fun p hp => absurd hp (by omega)⟩⟩⟩, by omega, rfl, rfl⟩)
            simp [rlE, rlRs, rlR, rlL, DV.le, wrap_id]
          · have h5' : decide ((0 : Int) < (k : Int)) = true := decide_eq_true (by omega)
            have hk1 : k - 1 < q.length := by omega
            have w4 : IntKind.i64.wrap ((k : Int) - 1) = ((k - 1 : Nat) : Int) := by rw [wrap_id (by omega) (by omega)]; omega
            have c2 : (0 ≤ ((k - 1 : Nat) : Int) ∧ ((k - 1 : Nat) : Int) < (q.length : Int)) = True := by simp; omega
            have e2 := getD_si hk1
            try simp only [h5', w4, c2, e2, encSi_len, ev,evA,true_and,and_true,and_self,if_true,if_false,reduceIte,ne_eq,forall_const,false_implies,beq_self_eq_true,decide_true,decide_false,Int.cast_ofNat_Int,Nat.reduceAdd,Nat.reduceLT,Nat.reduceLeDiff,Nat.reduceEqDiff,Nat.reduceBEq,Nat.reduceMul,Nat.reduceSub,Int.reduceToNat,Int.reduceEq,Int.reduceNe,Int.reduceLT,Int.reduceLE,Int.reduceBEq,Int.reduceAdd,Int.reduceSub,Int.reduceMul,hP,hW]
            have hg : q[k - 1]? = some q[k - 1] := List.getElem?_eq_getElem hk1
            refine callE (.raw (.int .i64 (cmpS q[k - 1] q[k]))) (fun S2 => by have := t_compare hm W0 S2 q[k - 1] q[k]; simpa only [Si.c] using this) (by try simp only [ev,evA,true_and,and_true,and_self,if_true,if_false,reduceIte,ne_eq,forall_const,false_implies,beq_self_eq_true,decide_true,decide_false,Int.cast_ofNat_Int,Nat.reduceAdd,Nat.reduceLT,Nat.reduceLeDiff,Nat.reduceEqDiff,Nat.reduceBEq,Nat.reduceMul,Nat.reduceSub,Int.reduceToNat,Int.reduceEq,Int.reduceNe,Int.reduceLT,Int.reduceLE,Int.reduceBEq,Int.reduceAdd,Int.reduceSub,Int.reduceMul,hP,hW]) ?_
            try simp only [ev,evA,true_and,and_true,and_self,if_true,if_false,reduceIte,ne_eq,forall_const,false_implies,beq_self_eq_true,decide_true,decide_false,Int.cast_ofNat_Int,Nat.reduceAdd,Nat.reduceLT,Nat.reduceLeDiff,Nat.reduceEqDiff,Nat.reduceBEq,Nat.reduceMul,Nat.reduceSub,Int.reduceToNat,Int.reduceEq,Int.reduceNe,Int.reduceLT,Int.reduceLE,Int.reduceBEq,Int.reduceAdd,Int.reduceSub,Int.reduceMul,hP,hW]
            have hlt2 := cmpS_lt q[k - 1] q[k]
            refine Gc_dec (fun hc => ?_) (fun hc => ?_)
            · try simp only [ev,evA,true_and,and_true,and_self,if_true,if_false,reduceIte,ne_eq,forall_const,false_implies,beq_self_eq_true,decide_true,decide_false,Int.cast_ofNat_Int,Nat.reduceAdd,Nat.reduceLT,Nat.reduceLeDiff,Nat.reduceEqDiff,Nat.reduceBEq,Nat.reduceMul,Nat.reduceSub,Int.reduceToNat,Int.reduceEq,Int.reduceNe,Int.reduceLT,Int.reduceLE,Int.reduceBEq,Int.reduceAdd,Int.reduceSub,Int.reduceMul,hP,hW]
              refine hret _ _ S.length 5 ?_
              simp only [r_marks_Right, ev,evA,true_and,and_true,and_self,if_true,if_false,reduceIte,ne_eq,forall_const,false_implies,beq_self_eq_true,decide_true,decide_false,Int.cast_ofNat_Int,Nat.reduceAdd,Nat.reduceLT,Nat.reduceLeDiff,Nat.reduceEqDiff,Nat.reduceBEq,Nat.reduceMul,Nat.reduceSub,Int.reduceToNat,Int.reduceEq,Int.reduceNe,Int.reduceLT,Int.reduceLE,Int.reduceBEq,Int.reduceAdd,Int.reduceSub,Int.reduceMul,hP,hW]
              exact ⟨_, rfl, false, rfl, by simp only [Bool.false_eq_true, false_iff]; exact fun hh => absurd (QS_step hh.2 hlt) (by unfold SiOk; intro hh; (have := hh.2.2.2 _ (by omega) hg; have := hlt2.2 this; omega))⟩
            · try simp only [w3, ev,evA,true_and,and_true,and_self,if_true,if_false,reduceIte,ne_eq,forall_const,false_implies,beq_self_eq_true,decide_true,decide_false,Int.cast_ofNat_Int,Nat.reduceAdd,Nat.reduceLT,Nat.reduceLeDiff,Nat.reduceEqDiff,Nat.reduceBEq,Nat.reduceMul,Nat.reduceSub,Int.reduceToNat,Int.reduceEq,Int.reduceNe,Int.reduceLT,Int.reduceLE,Int.reduceBEq,Int.reduceAdd,Int.reduceSub,Int.reduceMul,hP,hW]
              refine Cv.ex (S.length + 1) (.mk [.mk .junk (.raw (.int .i64 n)) (.loc S.length (g 0) 0) .junk .junk .junk .junk .junk, .mk .junk .junk .junk .junk .junk .junk .junk .junk, .mk .junk .junk .junk .junk .junk .junk .junk .junk, .mk .junk .junk .junk .junk .junk .junk .junk .junk, .mk .junk .junk .junk .junk .junk .junk .junk .junk, .mk .junk .junk .junk .junk .junk .junk .junk .junk, .mk .junk .junk .junk .junk .junk .junk .junk .junk, .mk .junk .junk .junk .junk .junk .junk .junk .junk, .mk .junk .junk .junk .junk (.lst 2 f2 (encSi q)) (.raw (.int .i64 q.length)) (.raw (.int .i64 (k + 1 : Nat))) .junk, .mk .junk .junk .junk .junk .junk .junk .junk .junk, .mk .junk .junk .junk .junk .junk .junk .junk .junk, .mk .junk .junk .junk .junk .junk .junk .junk .junk, .mk .junk .junk .junk .junk .junk .junk .junk .junk] [.junk]) _ ?_ (take_append1 ..) (Cv.done ⟨k + 1, ⟨hlt, (QS_take hlt).2 ⟨hqs, by unfold SiOk; refine ⟨by omega, by omega, by omega, fun p hp hp2 => ?_⟩; rw [hg] at hp2; cases hp2; exact hlt2.1 (by omega)⟩⟩, by omega, rfl, rfl⟩)
              simp [rlE, rlRs, rlR, rlL, DV.le]
        · have d1 : decide ((k : Int) < (q.length : Int)) = false := decide_eq_false (by omega)
          have hk' : k = q.length := by omega
          subst hk'
          rw [List.take_length] at hqs
          try simp only [d1, ev,evA,true_and,and_true,and_self,if_true,if_false,reduceIte,ne_eq,forall_const,false_implies,beq_self_eq_true,decide_true,decide_false,Int.cast_ofNat_Int,Nat.reduceAdd,Nat.reduceLT,Nat.reduceLeDiff,Nat.reduceEqDiff,Nat.reduceBEq,Nat.reduceMul,Nat.reduceSub,Int.reduceToNat,Int.reduceEq,Int.reduceNe,Int.reduceLT,Int.reduceLE,Int.reduceBEq,Int.reduceAdd,Int.reduceSub,Int.reduceMul,hP,hW]
          refine hret _ _ S.length 5 ?_
          simp only [r_marks_Right, ev,evA,true_and,and_true,and_self,if_true,if_false,reduceIte,ne_eq,forall_const,false_implies,beq_self_eq_true,decide_true,decide_false,Int.cast_ofNat_Int,Nat.reduceAdd,Nat.reduceLT,Nat.reduceLeDiff,Nat.reduceEqDiff,Nat.reduceBEq,Nat.reduceMul,Nat.reduceSub,Int.reduceToNat,Int.reduceEq,Int.reduceNe,Int.reduceLT,Int.reduceLE,Int.reduceBEq,Int.reduceAdd,Int.reduceSub,Int.reduceMul,hP,hW]
          exact ⟨_, rfl, true, rfl, by simp [hrs, hqs]⟩
end Go.Dv
/-
  Slices, cloned.
-/
namespace Go.Dv
open Go Go.RowKit Go.Proofs
set_option linter.unusedSimpArgs false
set_option linter.unusedVariables false
set_option maxRecDepth 8000

/-- An empty slice is nil, or it isn't. -/
theorem Ct.lst0 {P : Program} {W0 : World} {f : FuncId} {z : Nat} {fl : Bool} {S : List SO} {p : Out → List SO → Prop} (h1 : Ct P W0 f [.raw (.slice none 0 0)] S p) (h2 : ∀ a c, Ct P W0 f [.raw (.slice (some a) 0 c)] S p) :
    Ct P W0 f [.lst z fl []] S p := by
  intro pl w vs hg hl hr
  match vs, hl, hr with
  | [v], _, hr =>
    simp only [RepL, Rep] at hr
    obtain ⟨⟨A, cap, hv, _, _, hn, _⟩, _⟩ := hr
    subst hv
    cases A with
    | none => rw [hn rfl]; exact h1 pl w _ hg rfl (by simp only [RepL, Rep]; exact ⟨rfl, trivial⟩)
    | some a => exact h2 a cap pl w _ hg rfl (by simp only [RepL, Rep]; exact ⟨rfl, trivial⟩)

theorem t_CloneSp (W0 : World) (S : List SO) (f : Bool) (l : List Sp) (hl : l.length ≤ 1099511627776) : CtP Tryd.prog W0 n_slices_Clone_Lapi_Span_api_Span [.lst 3 f (encSp l)] S (fun d => d = .lst 3 false (encSp l)) := by
  cases l with
  | nil =>
    refine Ct.lst0 ?_ fun a c => ?_
    · refine CtP.leN (q := fun d => d = .raw (.slice none 0 0)) 0 ?_ (fun d hd => ⟨_, by rw [hd]; exact leN_nil 0 3, rfl⟩)
      refine Ct_R k_slices_Clone_Lapi_Span_api_Span 400 (.mk [.mk (.raw (.slice none 0 0)) .junk .junk .junk .junk .junk .junk .junk] []) rfl rfl fun r hP hW hpan hret => ?_
      simp only [c_slices_Clone_Lapi_Span_api_Span, ev,evA,true_and,and_true,and_self,if_true,if_false,reduceIte,ne_eq,forall_const,false_implies,beq_self_eq_true,decide_true,decide_false,Int.cast_ofNat_Int,Nat.reduceAdd,Nat.reduceLT,Nat.reduceLeDiff,Nat.reduceEqDiff,Nat.reduceBEq,Nat.reduceMul,Nat.reduceSub,Int.reduceToNat,Int.reduceEq,Int.reduceNe,Int.reduceLT,Int.reduceLE,Int.reduceBEq,Int.reduceAdd,Int.reduceSub,Int.reduceMul,hP,hW]
      refine hret _ _ S.length 5 ?_
      simp only [r_slices_Clone_Lapi_Span_api_Span, ev,evA,true_and,and_true,and_self,if_true,if_false,reduceIte,ne_eq,forall_const,false_implies,beq_self_eq_true,decide_true,decide_false,Int.cast_ofNat_Int,Nat.reduceAdd,Nat.reduceLT,Nat.reduceLeDiff,Nat.reduceEqDiff,Nat.reduceBEq,Nat.reduceMul,Nat.reduceSub,Int.reduceToNat,Int.reduceEq,Int.reduceNe,Int.reduceLT,Int.reduceLE,Int.reduceBEq,Int.reduceAdd,Int.reduceSub,Int.reduceMul,hP,hW]
      exact ⟨_, rfl, rfl⟩
    · refine Ct_R k_slices_Clone_Lapi_Span_api_Span 400 (.mk [.mk (.raw (.slice (some a) 0 c)) .junk .junk .junk .junk .junk .junk .junk] []) rfl rfl fun r hP hW hpan hret => ?_
      simp only [c_slices_Clone_Lapi_Span_api_Span, ev,evA,true_and,and_true,and_self,if_true,if_false,reduceIte,ne_eq,forall_const,false_implies,beq_self_eq_true,decide_true,decide_false,Int.cast_ofNat_Int,Nat.reduceAdd,Nat.reduceLT,Nat.reduceLeDiff,Nat.reduceEqDiff,Nat.reduceBEq,Nat.reduceMul,Nat.reduceSub,Int.reduceToNat,Int.reduceEq,Int.reduceNe,Int.reduceLT,Int.reduceLE,Int.reduceBEq,Int.reduceAdd,Int.reduceSub,Int.reduceMul,hP,hW]
      try simp only [ev,evA,true_and,and_true,and_self,if_true,if_false,reduceIte,ne_eq,forall_const,false_implies,beq_self_eq_true,decide_true,decide_false,Int.cast_ofNat_Int,Nat.reduceAdd,Nat.reduceLT,Nat.reduceLeDiff,Nat.reduceEqDiff,Nat.reduceBEq,Nat.reduceMul,Nat.reduceSub,Int.reduceToNat,Int.reduceEq,Int.reduceNe,Int.reduceLT,Int.reduceLE,Int.reduceBEq,Int.reduceAdd,Int.reduceSub,Int.reduceMul,hP,hW]
      intro g
      try simp only [ev,evA,true_and,and_true,and_self,if_true,if_false,reduceIte,ne_eq,forall_const,false_implies,beq_self_eq_true,decide_true,decide_false,Int.cast_ofNat_Int,Nat.reduceAdd,Nat.reduceLT,Nat.reduceLeDiff,Nat.reduceEqDiff,Nat.reduceBEq,Nat.reduceMul,Nat.reduceSub,Int.reduceToNat,Int.reduceEq,Int.reduceNe,Int.reduceLT,Int.reduceLE,Int.reduceBEq,Int.reduceAdd,Int.reduceSub,Int.reduceMul,hP,hW]
      refine hret _ _ S.length 5 ?_
      simp only [r_slices_Clone_Lapi_Span_api_Span, evMk, ev,evA,true_and,and_true,and_self,if_true,if_false,reduceIte,ne_eq,forall_const,false_implies,beq_self_eq_true,decide_true,decide_false,Int.cast_ofNat_Int,Nat.reduceAdd,Nat.reduceLT,Nat.reduceLeDiff,Nat.reduceEqDiff,Nat.reduceBEq,Nat.reduceMul,Nat.reduceSub,Int.reduceToNat,Int.reduceEq,Int.reduceNe,Int.reduceLT,Int.reduceLE,Int.reduceBEq,Int.reduceAdd,Int.reduceSub,Int.reduceMul,hP,hW]
      exact ⟨_, rfl, rfl⟩
  | cons s l =>
    refine Ct_R k_slices_Clone_Lapi_Span_api_Span 400 (.mk [.mk (.lst 3 f (Sp.c s :: encSp l)) .junk .junk .junk .junk .junk .junk .junk] []) rfl rfl fun r hP hW hpan hret => ?_
    simp only [c_slices_Clone_Lapi_Span_api_Span, ev,evA,true_and,and_true,and_self,if_true,if_false,reduceIte,ne_eq,forall_const,false_implies,beq_self_eq_true,decide_true,decide_false,Int.cast_ofNat_Int,Nat.reduceAdd,Nat.reduceLT,Nat.reduceLeDiff,Nat.reduceEqDiff,Nat.reduceBEq,Nat.reduceMul,Nat.reduceSub,Int.reduceToNat,Int.reduceEq,Int.reduceNe,Int.reduceLT,Int.reduceLE,Int.reduceBEq,Int.reduceAdd,Int.reduceSub,Int.reduceMul,hP,hW]
    try simp only [ev,evA,true_and,and_true,and_self,if_true,if_false,reduceIte,ne_eq,forall_const,false_implies,beq_self_eq_true,decide_true,decide_false,Int.cast_ofNat_Int,Nat.reduceAdd,Nat.reduceLT,Nat.reduceLeDiff,Nat.reduceEqDiff,Nat.reduceBEq,Nat.reduceMul,Nat.reduceSub,Int.reduceToNat,Int.reduceEq,Int.reduceNe,Int.reduceLT,Int.reduceLE,Int.reduceBEq,Int.reduceAdd,Int.reduceSub,Int.reduceMul,hP,hW]
    intro g
    try simp only [evMk, ev,evA,true_and,and_true,and_self,if_true,if_false,reduceIte,ne_eq,forall_const,false_implies,beq_self_eq_true,decide_true,decide_false,Int.cast_ofNat_Int,Nat.reduceAdd,Nat.reduceLT,Nat.reduceLeDiff,Nat.reduceEqDiff,Nat.reduceBEq,Nat.reduceMul,Nat.reduceSub,Int.reduceToNat,Int.reduceEq,Int.reduceNe,Int.reduceLT,Int.reduceLE,Int.reduceBEq,Int.reduceAdd,Int.reduceSub,Int.reduceMul,hP,hW]
    refine ⟨by simp at hl; omega, ?_⟩
    refine hret _ _ S.length 5 ?_
    simp only [r_slices_Clone_Lapi_Span_api_Span, evMk, ev,evA,true_and,and_true,and_self,if_true,if_false,reduceIte,ne_eq,forall_const,false_implies,beq_self_eq_true,decide_true,decide_false,Int.cast_ofNat_Int,Nat.reduceAdd,Nat.reduceLT,Nat.reduceLeDiff,Nat.reduceEqDiff,Nat.reduceBEq,Nat.reduceMul,Nat.reduceSub,Int.reduceToNat,Int.reduceEq,Int.reduceNe,Int.reduceLT,Int.reduceLE,Int.reduceBEq,Int.reduceAdd,Int.reduceSub,Int.reduceMul,hP,hW]
    exact ⟨_, rfl, rfl⟩
theorem t_CloneSi (W0 : World) (S : List SO) (f : Bool) (l : List Si) (hl : l.length ≤ 1099511627776) : CtP Tryd.prog W0 n_slices_Clone_Lapi_Site_api_Site [.lst 2 f (encSi l)] S (fun d => d = .lst 2 false (encSi l)) := by
  cases l with
  | nil =>
    refine Ct.lst0 ?_ fun a c => ?_
    · refine CtP.leN (q := fun d => d = .raw (.slice none 0 0)) 0 ?_ (fun d hd => ⟨_, by rw [hd]; exact leN_nil 0 2, rfl⟩)
      refine Ct_R k_slices_Clone_Lapi_Site_api_Site 400 (.mk [.mk (.raw (.slice none 0 0)) .junk .junk .junk .junk .junk .junk .junk] []) rfl rfl fun r hP hW hpan hret => ?_
      simp only [c_slices_Clone_Lapi_Site_api_Site, ev,evA,true_and,and_true,and_self,if_true,if_false,reduceIte,ne_eq,forall_const,false_implies,beq_self_eq_true,decide_true,decide_false,Int.cast_ofNat_Int,Nat.reduceAdd,Nat.reduceLT,Nat.reduceLeDiff,Nat.reduceEqDiff,Nat.reduceBEq,Nat.reduceMul,Nat.reduceSub,Int.reduceToNat,Int.reduceEq,Int.reduceNe,Int.reduceLT,Int.reduceLE,Int.reduceBEq,Int.reduceAdd,Int.reduceSub,Int.reduceMul,hP,hW]
      refine hret _ _ S.length 5 ?_
      simp only [r_slices_Clone_Lapi_Site_api_Site, ev,evA,true_and,and_true,and_self,if_true,if_false,reduceIte,ne_eq,forall_const,false_implies,beq_self_eq_true,decide_true,decide_false,Int.cast_ofNat_Int,Nat.reduceAdd,Nat.reduceLT,Nat.reduceLeDiff,Nat.reduceEqDiff,Nat.reduceBEq,Nat.reduceMul,Nat.reduceSub,Int.reduceToNat,Int.reduceEq,Int.reduceNe,Int.reduceLT,Int.reduceLE,Int.reduceBEq,Int.reduceAdd,Int.reduceSub,Int.reduceMul,hP,hW]
      exact ⟨_, rfl, rfl⟩
    · refine Ct_R k_slices_Clone_Lapi_Site_api_Site 400 (.mk [.mk (.raw (.slice (some a) 0 c)) .junk .junk .junk .junk .junk .junk .junk] []) rfl rfl fun r hP hW hpan hret => ?_
      simp only [c_slices_Clone_Lapi_Site_api_Site, ev,evA,true_and,and_true,and_self,if_true,if_false,reduceIte,ne_eq,forall_const,false_implies,beq_self_eq_true,decide_true,decide_false,Int.cast_ofNat_Int,Nat.reduceAdd,Nat.reduceLT,Nat.reduceLeDiff,Nat.reduceEqDiff,Nat.reduceBEq,Nat.reduceMul,Nat.reduceSub,Int.reduceToNat,Int.reduceEq,Int.reduceNe,Int.reduceLT,Int.reduceLE,Int.reduceBEq,Int.reduceAdd,Int.reduceSub,Int.reduceMul,hP,hW]
      try simp only [ev,evA,true_and,and_true,and_self,if_true,if_false,reduceIte,ne_eq,forall_const,false_implies,beq_self_eq_true,decide_true,decide_false,Int.cast_ofNat_Int,Nat.reduceAdd,Nat.reduceLT,Nat.reduceLeDiff,Nat.reduceEqDiff,Nat.reduceBEq,Nat.reduceMul,Nat.reduceSub,Int.reduceToNat,Int.reduceEq,Int.reduceNe,Int.reduceLT,Int.reduceLE,Int.reduceBEq,Int.reduceAdd,Int.reduceSub,Int.reduceMul,hP,hW]
      intro g
      try simp only [ev,evA,true_and,and_true,and_self,if_true,if_false,reduceIte,ne_eq,forall_const,false_implies,beq_self_eq_true,decide_true,decide_false,Int.cast_ofNat_Int,Nat.reduceAdd,Nat.reduceLT,Nat.reduceLeDiff,Nat.reduceEqDiff,Nat.reduceBEq,Nat.reduceMul,Nat.reduceSub,Int.reduceToNat,Int.reduceEq,Int.reduceNe,Int.reduceLT,Int.reduceLE,Int.reduceBEq,Int.reduceAdd,Int.reduceSub,Int.reduceMul,hP,hW]
      refine hret _ _ S.length 5 ?_
      simp only [r_slices_Clone_Lapi_Site_api_Site, evMk, ev,evA,true_and,and_true,and_self,if_true,if_false,reduceIte,ne_eq,forall_const,false_implies,beq_self_eq_true,decide_true,decide_false,Int.cast_ofNat_Int,Nat.reduceAdd,Nat.reduceLT,Nat.reduceLeDiff,Nat.reduceEqDiff,Nat.reduceBEq,Nat.reduceMul,Nat.reduceSub,Int.reduceToNat,Int.reduceEq,Int.reduceNe,Int.reduceLT,Int.reduceLE,Int.reduceBEq,Int.reduceAdd,Int.reduceSub,Int.reduceMul,hP,hW]
      exact ⟨_, rfl, rfl⟩
  | cons s l =>
    refine Ct_R k_slices_Clone_Lapi_Site_api_Site 400 (.mk [.mk (.lst 2 f (Si.c s :: encSi l)) .junk .junk .junk .junk .junk .junk .junk] []) rfl rfl fun r hP hW hpan hret => ?_
    simp only [c_slices_Clone_Lapi_Site_api_Site, ev,evA,true_and,and_true,and_self,if_true,if_false,reduceIte,ne_eq,forall_const,false_implies,beq_self_eq_true,decide_true,decide_false,Int.cast_ofNat_Int,Nat.reduceAdd,Nat.reduceLT,Nat.reduceLeDiff,Nat.reduceEqDiff,Nat.reduceBEq,Nat.reduceMul,Nat.reduceSub,Int.reduceToNat,Int.reduceEq,Int.reduceNe,Int.reduceLT,Int.reduceLE,Int.reduceBEq,Int.reduceAdd,Int.reduceSub,Int.reduceMul,hP,hW]
    try simp only [ev,evA,true_and,and_true,and_self,if_true,if_false,reduceIte,ne_eq,forall_const,false_implies,beq_self_eq_true,decide_true,decide_false,Int.cast_ofNat_Int,Nat.reduceAdd,Nat.reduceLT,Nat.reduceLeDiff,Nat.reduceEqDiff,Nat.reduceBEq,Nat.reduceMul,Nat.reduceSub,Int.reduceToNat,Int.reduceEq,Int.reduceNe,Int.reduceLT,Int.reduceLE,Int.reduceBEq,Int.reduceAdd,Int.reduceSub,Int.reduceMul,hP,hW]
    intro g
    try simp only [evMk, ev,evA,true_and,and_true,and_self,if_true,if_false,reduceIte,ne_eq,forall_const,false_implies,beq_self_eq_true,decide_true,decide_false,Int.cast_ofNat_Int,Nat.reduceAdd,Nat.reduceLT,Nat.reduceLeDiff,Nat.reduceEqDiff,Nat.reduceBEq,Nat.reduceMul,Nat.reduceSub,Int.reduceToNat,Int.reduceEq,Int.reduceNe,Int.reduceLT,Int.reduceLE,Int.reduceBEq,Int.reduceAdd,Int.reduceSub,Int.reduceMul,hP,hW]
    refine ⟨by simp at hl; omega, ?_⟩
    refine hret _ _ S.length 5 ?_
    simp only [r_slices_Clone_Lapi_Site_api_Site, evMk, ev,evA,true_and,and_true,and_self,if_true,if_false,reduceIte,ne_eq,forall_const,false_implies,beq_self_eq_true,decide_true,decide_false,Int.cast_ofNat_Int,Nat.reduceAdd,Nat.reduceLT,Nat.reduceLeDiff,Nat.reduceEqDiff,Nat.reduceBEq,Nat.reduceMul,Nat.reduceSub,Int.reduceToNat,Int.reduceEq,Int.reduceNe,Int.reduceLT,Int.reduceLE,Int.reduceBEq,Int.reduceAdd,Int.reduceSub,Int.reduceMul,hP,hW]
    exact ⟨_, rfl, rfl⟩
end Go.Dv
/-
  Segments: small functions.
-/
namespace Go.Dv
open Go Go.RowKit Go.Proofs
set_option linter.unusedSimpArgs false
set_option linter.unusedVariables false
set_option maxRecDepth 8000


theorem t_Id (W0 : World) (S : List SO) (id lb : Int) (x : Option Rp) (f1 f2 : Bool) (l : List Sp) (q : List Si) : CtP Tryd.prog W0 n_segment_Segment_Id [.agg [.raw (.int .i64 id), .raw (.int .i64 lb), encO x, .lst 3 f1 (encSp l), .lst 2 f2 (encSi q)]] S (fun d => d = .raw (.int .i64 id)) := by
  refine Ct_R k_segment_Segment_Id 400 (.mk [] [(.agg [.raw (.int .i64 id), .raw (.int .i64 lb), encO x, .lst 3 f1 (encSp l), .lst 2 f2 (encSi q)]), .junk, .junk, .junk, .junk]) rfl rfl fun r hP hW hpan hret => ?_
  simp only [c_segment_Segment_Id, ev,evA,true_and,and_true,and_self,if_true,if_false,reduceIte,ne_eq,forall_const,false_implies,beq_self_eq_true,decide_true,decide_false,Int.cast_ofNat_Int,Nat.reduceAdd,Nat.reduceLT,Nat.reduceLeDiff,Nat.reduceEqDiff,Nat.reduceBEq,Nat.reduceMul,Nat.reduceSub,Int.reduceToNat,Int.reduceEq,Int.reduceNe,Int.reduceLT,Int.reduceLE,Int.reduceBEq,Int.reduceAdd,Int.reduceSub,Int.reduceMul,hP,hW]
  try simp only [evRo, ev,evA,true_and,and_true,and_self,if_true,if_false,reduceIte,ne_eq,forall_const,false_implies,beq_self_eq_true,decide_true,decide_false,Int.cast_ofNat_Int,Nat.reduceAdd,Nat.reduceLT,Nat.reduceLeDiff,Nat.reduceEqDiff,Nat.reduceBEq,Nat.reduceMul,Nat.reduceSub,Int.reduceToNat,Int.reduceEq,Int.reduceNe,Int.reduceLT,Int.reduceLE,Int.reduceBEq,Int.reduceAdd,Int.reduceSub,Int.reduceMul,hP,hW]
  intro g
  try simp only [evRo, ev,evA,true_and,and_true,and_self,if_true,if_false,reduceIte,ne_eq,forall_const,false_implies,beq_self_eq_true,decide_true,decide_false,Int.cast_ofNat_Int,Nat.reduceAdd,Nat.reduceLT,Nat.reduceLeDiff,Nat.reduceEqDiff,Nat.reduceBEq,Nat.reduceMul,Nat.reduceSub,Int.reduceToNat,Int.reduceEq,Int.reduceNe,Int.reduceLT,Int.reduceLE,Int.reduceBEq,Int.reduceAdd,Int.reduceSub,Int.reduceMul,hP,hW]
  refine hret _ _ S.length 5 ?_
  simp only [r_segment_Segment_Id, evRo, ev,evA,true_and,and_true,and_self,if_true,if_false,reduceIte,ne_eq,forall_const,false_implies,beq_self_eq_true,decide_true,decide_false,Int.cast_ofNat_Int,Nat.reduceAdd,Nat.reduceLT,Nat.reduceLeDiff,Nat.reduceEqDiff,Nat.reduceBEq,Nat.reduceMul,Nat.reduceSub,Int.reduceToNat,Int.reduceEq,Int.reduceNe,Int.reduceLT,Int.reduceLE,Int.reduceBEq,Int.reduceAdd,Int.reduceSub,Int.reduceMul,hP,hW]
  exact ⟨_, rfl, rfl⟩
theorem t_Label (W0 : World) (S : List SO) (id lb : Int) (x : Option Rp) (f1 f2 : Bool) (l : List Sp) (q : List Si) : CtP Tryd.prog W0 n_segment_Segment_Label [.agg [.raw (.int .i64 id), .raw (.int .i64 lb), encO x, .lst 3 f1 (encSp l), .lst 2 f2 (encSi q)]] S (fun d => d = .raw (.int .i64 lb)) := by
  refine Ct_R k_segment_Segment_Label 400 (.mk [] [(.agg [.raw (.int .i64 id), .raw (.int .i64 lb), encO x, .lst 3 f1 (encSp l), .lst 2 f2 (encSi q)]), .junk, .junk, .junk, .junk]) rfl rfl fun r hP hW hpan hret => ?_
  simp only [c_segment_Segment_Label, ev,evA,true_and,and_true,and_self,if_true,if_false,reduceIte,ne_eq,forall_const,false_implies,beq_self_eq_true,decide_true,decide_false,Int.cast_ofNat_Int,Nat.reduceAdd,Nat.reduceLT,Nat.reduceLeDiff,Nat.reduceEqDiff,Nat.reduceBEq,Nat.reduceMul,Nat.reduceSub,Int.reduceToNat,Int.reduceEq,Int.reduceNe,Int.reduceLT,Int.reduceLE,Int.reduceBEq,Int.reduceAdd,Int.reduceSub,Int.reduceMul,hP,hW]
  try simp only [evRo, ev,evA,true_and,and_true,and_self,if_true,if_false,reduceIte,ne_eq,forall_const,false_implies,beq_self_eq_true,decide_true,decide_false,Int.cast_ofNat_Int,Nat.reduceAdd,Nat.reduceLT,Nat.reduceLeDiff,Nat.reduceEqDiff,Nat.reduceBEq,Nat.reduceMul,Nat.reduceSub,Int.reduceToNat,Int.reduceEq,Int.reduceNe,Int.reduceLT,Int.reduceLE,Int.reduceBEq,Int.reduceAdd,Int.reduceSub,Int.reduceMul,hP,hW]
  intro g
  try simp only [evRo, ev,evA,true_and,and_true,and_self,if_true,if_false,reduceIte,ne_eq,forall_const,false_implies,beq_self_eq_true,decide_true,decide_false,Int.cast_ofNat_Int,Nat.reduceAdd,Nat.reduceLT,Nat.reduceLeDiff,Nat.reduceEqDiff,Nat.reduceBEq,Nat.reduceMul,Nat.reduceSub,Int.reduceToNat,Int.reduceEq,Int.reduceNe,Int.reduceLT,Int.reduceLE,Int.reduceBEq,Int.reduceAdd,Int.reduceSub,Int.reduceMul,hP,hW]
  refine hret _ _ S.length 5 ?_
  simp only [r_segment_Segment_Label, evRo, ev,evA,true_and,and_true,and_self,if_true,if_false,reduceIte,ne_eq,forall_const,false_implies,beq_self_eq_true,decide_true,decide_false,Int.cast_ofNat_Int,Nat.reduceAdd,Nat.reduceLT,Nat.reduceLeDiff,Nat.reduceEqDiff,Nat.reduceBEq,Nat.reduceMul,Nat.reduceSub,Int.reduceToNat,Int.reduceEq,Int.reduceNe,Int.reduceLT,Int.reduceLE,Int.reduceBEq,Int.reduceAdd,Int.reduceSub,Int.reduceMul,hP,hW]
  exact ⟨_, rfl, rfl⟩
theorem t_Rope (W0 : World) (S : List SO) (id lb : Int) (x : Option Rp) (f1 f2 : Bool) (l : List Sp) (q : List Si) : CtP Tryd.prog W0 n_segment_Segment_Rope [.agg [.raw (.int .i64 id), .raw (.int .i64 lb), encO x, .lst 3 f1 (encSp l), .lst 2 f2 (encSi q)]] S (fun d => d = encO x) := by
  refine Ct_R k_segment_Segment_Rope 400 (.mk [] [(.agg [.raw (.int .i64 id), .raw (.int .i64 lb), encO x, .lst 3 f1 (encSp l), .lst 2 f2 (encSi q)]), .junk, .junk, .junk, .junk]) rfl rfl fun r hP hW hpan hret => ?_
  simp only [c_segment_Segment_Rope, ev,evA,true_and,and_true,and_self,if_true,if_false,reduceIte,ne_eq,forall_const,false_implies,beq_self_eq_true,decide_true,decide_false,Int.cast_ofNat_Int,Nat.reduceAdd,Nat.reduceLT,Nat.reduceLeDiff,Nat.reduceEqDiff,Nat.reduceBEq,Nat.reduceMul,Nat.reduceSub,Int.reduceToNat,Int.reduceEq,Int.reduceNe,Int.reduceLT,Int.reduceLE,Int.reduceBEq,Int.reduceAdd,Int.reduceSub,Int.reduceMul,hP,hW]
  try simp only [evRo, ev,evA,true_and,and_true,and_self,if_true,if_false,reduceIte,ne_eq,forall_const,false_implies,beq_self_eq_true,decide_true,decide_false,Int.cast_ofNat_Int,Nat.reduceAdd,Nat.reduceLT,Nat.reduceLeDiff,Nat.reduceEqDiff,Nat.reduceBEq,Nat.reduceMul,Nat.reduceSub,Int.reduceToNat,Int.reduceEq,Int.reduceNe,Int.reduceLT,Int.reduceLE,Int.reduceBEq,Int.reduceAdd,Int.reduceSub,Int.reduceMul,hP,hW]
  intro g
  try simp only [evRo, ev,evA,true_and,and_true,and_self,if_true,if_false,reduceIte,ne_eq,forall_const,false_implies,beq_self_eq_true,decide_true,decide_false,Int.cast_ofNat_Int,Nat.reduceAdd,Nat.reduceLT,Nat.reduceLeDiff,Nat.reduceEqDiff,Nat.reduceBEq,Nat.reduceMul,Nat.reduceSub,Int.reduceToNat,Int.reduceEq,Int.reduceNe,Int.reduceLT,Int.reduceLE,Int.reduceBEq,Int.reduceAdd,Int.reduceSub,Int.reduceMul,hP,hW]
  refine hret _ _ S.length 5 ?_
  simp only [r_segment_Segment_Rope, evRo, ev,evA,true_and,and_true,and_self,if_true,if_false,reduceIte,ne_eq,forall_const,false_implies,beq_self_eq_true,decide_true,decide_false,Int.cast_ofNat_Int,Nat.reduceAdd,Nat.reduceLT,Nat.reduceLeDiff,Nat.reduceEqDiff,Nat.reduceBEq,Nat.reduceMul,Nat.reduceSub,Int.reduceToNat,Int.reduceEq,Int.reduceNe,Int.reduceLT,Int.reduceLE,Int.reduceBEq,Int.reduceAdd,Int.reduceSub,Int.reduceMul,hP,hW]
  exact ⟨_, rfl, rfl⟩
theorem t_SegNew (W0 : World) (S : List SO) (id lb : Int) : CtP Tryd.prog W0 n_segment_New [.raw (.int .i64 id), .raw (.int .i64 lb)] S (fun d => d = .agg [.raw (.int .i64 id), .raw (.int .i64 lb), encO none, .raw (.slice none 0 0), .raw (.slice none 0 0)]) := by
  refine Ct_R k_segment_New 400 (.mk [.mk (.raw (.int .i64 id)) (.raw (.int .i64 lb)) .junk .junk .junk .junk .junk .junk] []) rfl rfl fun r hP hW hpan hret => ?_
  simp only [c_segment_New, ev,evA,true_and,and_true,and_self,if_true,if_false,reduceIte,ne_eq,forall_const,false_implies,beq_self_eq_true,decide_true,decide_false,Int.cast_ofNat_Int,Nat.reduceAdd,Nat.reduceLT,Nat.reduceLeDiff,Nat.reduceEqDiff,Nat.reduceBEq,Nat.reduceMul,Nat.reduceSub,Int.reduceToNat,Int.reduceEq,Int.reduceNe,Int.reduceLT,Int.reduceLE,Int.reduceBEq,Int.reduceAdd,Int.reduceSub,Int.reduceMul,hP,hW]
  try simp only [evRo, ev,evA,true_and,and_true,and_self,if_true,if_false,reduceIte,ne_eq,forall_const,false_implies,beq_self_eq_true,decide_true,decide_false,Int.cast_ofNat_Int,Nat.reduceAdd,Nat.reduceLT,Nat.reduceLeDiff,Nat.reduceEqDiff,Nat.reduceBEq,Nat.reduceMul,Nat.reduceSub,Int.reduceToNat,Int.reduceEq,Int.reduceNe,Int.reduceLT,Int.reduceLE,Int.reduceBEq,Int.reduceAdd,Int.reduceSub,Int.reduceMul,hP,hW]
  intro g
  try simp only [evRo, ev,evA,true_and,and_true,and_self,if_true,if_false,reduceIte,ne_eq,forall_const,false_implies,beq_self_eq_true,decide_true,decide_false,Int.cast_ofNat_Int,Nat.reduceAdd,Nat.reduceLT,Nat.reduceLeDiff,Nat.reduceEqDiff,Nat.reduceBEq,Nat.reduceMul,Nat.reduceSub,Int.reduceToNat,Int.reduceEq,Int.reduceNe,Int.reduceLT,Int.reduceLE,Int.reduceBEq,Int.reduceAdd,Int.reduceSub,Int.reduceMul,hP,hW]
  refine hret _ _ S.length 5 ?_
  simp only [r_segment_New, evRo, ev,evA,true_and,and_true,and_self,if_true,if_false,reduceIte,ne_eq,forall_const,false_implies,beq_self_eq_true,decide_true,decide_false,Int.cast_ofNat_Int,Nat.reduceAdd,Nat.reduceLT,Nat.reduceLeDiff,Nat.reduceEqDiff,Nat.reduceBEq,Nat.reduceMul,Nat.reduceSub,Int.reduceToNat,Int.reduceEq,Int.reduceNe,Int.reduceLT,Int.reduceLE,Int.reduceBEq,Int.reduceAdd,Int.reduceSub,Int.reduceMul,hP,hW]
  exact ⟨_, rfl, rfl⟩
/-- No marks. -/
theorem leMarks (id lb : Int) (x : Option Rp) : leN 1 (.agg [.raw (.int .i64 id), .raw (.int .i64 lb), encO x, .raw (.slice none 0 0), .raw (.slice none 0 0)]) (.agg [.raw (.int .i64 id), .raw (.int .i64 lb), encO x, .lst 3 false [], .lst 2 false []]) :=
  leN_agg 0 ⟨leN_refl _ _, leN_refl _ _, leN_refl _ _, leN_nil _ _, leN_nil _ _, trivial⟩

theorem t_Twin (W0 : World) (S : List SO) (id lb : Int) (x : Option Rp) (f1 f2 : Bool) (l : List Sp) (q : List Si) (id2 : Int) : CtP Tryd.prog W0 n_segment_Segment_Twin [.agg [.raw (.int .i64 id), .raw (.int .i64 lb), encO x, .lst 3 f1 (encSp l), .lst 2 f2 (encSi q)], .raw (.int .i64 id2)] S (fun d => d = .agg [.raw (.int .i64 id2), .raw (.int .i64 lb), encO x, .lst 3 false [], .lst 2 false []]) := by
  refine CtP.leN (q := fun d => d = .agg [.raw (.int .i64 id2), .raw (.int .i64 lb), encO x, .raw (.slice none 0 0), .raw (.slice none 0 0)]) 1 ?_ (fun d hd => ⟨_, by rw [hd]; exact leMarks _ _ _, rfl⟩)
  refine Ct_R k_segment_Segment_Twin 400 (.mk [.mk (.agg [.raw (.int .i64 id), .raw (.int .i64 lb), encO x, .lst 3 f1 (encSp l), .lst 2 f2 (encSi q)]) (.raw (.int .i64 id2)) .junk .junk .junk .junk .junk .junk] [.junk, .junk, .junk]) rfl rfl fun r hP hW hpan hret => ?_
  simp only [c_segment_Segment_Twin, ev,evA,true_and,and_true,and_self,if_true,if_false,reduceIte,ne_eq,forall_const,false_implies,beq_self_eq_true,decide_true,decide_false,Int.cast_ofNat_Int,Nat.reduceAdd,Nat.reduceLT,Nat.reduceLeDiff,Nat.reduceEqDiff,Nat.reduceBEq,Nat.reduceMul,Nat.reduceSub,Int.reduceToNat,Int.reduceEq,Int.reduceNe,Int.reduceLT,Int.reduceLE,Int.reduceBEq,Int.reduceAdd,Int.reduceSub,Int.reduceMul,hP,hW]
  try simp only [evRo, ev,evA,true_and,and_true,and_self,if_true,if_false,reduceIte,ne_eq,forall_const,false_implies,beq_self_eq_true,decide_true,decide_false,Int.cast_ofNat_Int,Nat.reduceAdd,Nat.reduceLT,Nat.reduceLeDiff,Nat.reduceEqDiff,Nat.reduceBEq,Nat.reduceMul,Nat.reduceSub,Int.reduceToNat,Int.reduceEq,Int.reduceNe,Int.reduceLT,Int.reduceLE,Int.reduceBEq,Int.reduceAdd,Int.reduceSub,Int.reduceMul,hP,hW]
  intro g
  try simp only [evRo, ev,evA,true_and,and_true,and_self,if_true,if_false,reduceIte,ne_eq,forall_const,false_implies,beq_self_eq_true,decide_true,decide_false,Int.cast_ofNat_Int,Nat.reduceAdd,Nat.reduceLT,Nat.reduceLeDiff,Nat.reduceEqDiff,Nat.reduceBEq,Nat.reduceMul,Nat.reduceSub,Int.reduceToNat,Int.reduceEq,Int.reduceNe,Int.reduceLT,Int.reduceLE,Int.reduceBEq,Int.reduceAdd,Int.reduceSub,Int.reduceMul,hP,hW]
  refine hret _ _ S.length 5 ?_
  simp only [r_segment_Segment_Twin, evRo, ev,evA,true_and,and_true,and_self,if_true,if_false,reduceIte,ne_eq,forall_const,false_implies,beq_self_eq_true,decide_true,decide_false,Int.cast_ofNat_Int,Nat.reduceAdd,Nat.reduceLT,Nat.reduceLeDiff,Nat.reduceEqDiff,Nat.reduceBEq,Nat.reduceMul,Nat.reduceSub,Int.reduceToNat,Int.reduceEq,Int.reduceNe,Int.reduceLT,Int.reduceLE,Int.reduceBEq,Int.reduceAdd,Int.reduceSub,Int.reduceMul,hP,hW]
  exact ⟨_, rfl, rfl⟩

def pa (n : Nat) (at_ : Int) : Int := min (max at_ 0) n
def pb (n : Nat) (at_ k : Int) : Int := pa n at_ + min (max k 0) (n - pa n at_)
theorem pa_ok (n : Nat) (at_ : Int) : 0 ≤ pa n at_ ∧ pa n at_ ≤ n := by unfold pa; omega
theorem pb_ok (n : Nat) (at_ k : Int) : pa n at_ ≤ pb n at_ k ∧ pb n at_ k ≤ n := by have := pa_ok n at_; unfold pb; omega

theorem t_clamp (W0 : World) (S : List SO) (id lb : Int) (x : Option Rp) (f1 f2 : Bool) (l : List Sp) (q : List Si) (at_ : Int) : CtP Tryd.prog W0 n_segment_Segment_clamp [.agg [.raw (.int .i64 id), .raw (.int .i64 lb), encO x, .lst 3 f1 (encSp l), .lst 2 f2 (encSi q)], .raw (.int .i64 at_)] S (fun d => d = .raw (.int .i64 (pa (lsO x).length at_))) := by
  refine Ct_R k_segment_Segment_clamp 400 (.mk [.mk (.agg [.raw (.int .i64 id), .raw (.int .i64 lb), encO x, .lst 3 f1 (encSp l), .lst 2 f2 (encSi q)]) (.raw (.int .i64 at_)) .junk .junk .junk .junk .junk .junk] [.junk, .junk, .junk]) rfl rfl fun r hP hW hpan hret => ?_
  simp only [c_segment_Segment_clamp, ev,evA,true_and,and_true,and_self,if_true,if_false,reduceIte,ne_eq,forall_const,false_implies,beq_self_eq_true,decide_true,decide_false,Int.cast_ofNat_Int,Nat.reduceAdd,Nat.reduceLT,Nat.reduceLeDiff,Nat.reduceEqDiff,Nat.reduceBEq,Nat.reduceMul,Nat.reduceSub,Int.reduceToNat,Int.reduceEq,Int.reduceNe,Int.reduceLT,Int.reduceLE,Int.reduceBEq,Int.reduceAdd,Int.reduceSub,Int.reduceMul,hP,hW]
  try simp only [evRo, ev,evA,true_and,and_true,and_self,if_true,if_false,reduceIte,ne_eq,forall_const,false_implies,beq_self_eq_true,decide_true,decide_false,Int.cast_ofNat_Int,Nat.reduceAdd,Nat.reduceLT,Nat.reduceLeDiff,Nat.reduceEqDiff,Nat.reduceBEq,Nat.reduceMul,Nat.reduceSub,Int.reduceToNat,Int.reduceEq,Int.reduceNe,Int.reduceLT,Int.reduceLE,Int.reduceBEq,Int.reduceAdd,Int.reduceSub,Int.reduceMul,hP,hW]
  intro g
  try simp only [evRo, ev,evA,true_and,and_true,and_self,if_true,if_false,reduceIte,ne_eq,forall_const,false_implies,beq_self_eq_true,decide_true,decide_false,Int.cast_ofNat_Int,Nat.reduceAdd,Nat.reduceLT,Nat.reduceLeDiff,Nat.reduceEqDiff,Nat.reduceBEq,Nat.reduceMul,Nat.reduceSub,Int.reduceToNat,Int.reduceEq,Int.reduceNe,Int.reduceLT,Int.reduceLE,Int.reduceBEq,Int.reduceAdd,Int.reduceSub,Int.reduceMul,hP,hW]
  refine callE _ (fun S2 => t_Len W0 S2 x) (by try simp only [ev,evA,true_and,and_true,and_self,if_true,if_false,reduceIte,ne_eq,forall_const,false_implies,beq_self_eq_true,decide_true,decide_false,Int.cast_ofNat_Int,Nat.reduceAdd,Nat.reduceLT,Nat.reduceLeDiff,Nat.reduceEqDiff,Nat.reduceBEq,Nat.reduceMul,Nat.reduceSub,Int.reduceToNat,Int.reduceEq,Int.reduceNe,Int.reduceLT,Int.reduceLE,Int.reduceBEq,Int.reduceAdd,Int.reduceSub,Int.reduceMul,hP,hW]) ?_
  try simp only [ev,evA,true_and,and_true,and_self,if_true,if_false,reduceIte,ne_eq,forall_const,false_implies,beq_self_eq_true,decide_true,decide_false,Int.cast_ofNat_Int,Nat.reduceAdd,Nat.reduceLT,Nat.reduceLeDiff,Nat.reduceEqDiff,Nat.reduceBEq,Nat.reduceMul,Nat.reduceSub,Int.reduceToNat,Int.reduceEq,Int.reduceNe,Int.reduceLT,Int.reduceLE,Int.reduceBEq,Int.reduceAdd,Int.reduceSub,Int.reduceMul,hP,hW]
  refine hret _ _ S.length 5 ?_
  simp only [r_segment_Segment_clamp, evRo, ev,evA,true_and,and_true,and_self,if_true,if_false,reduceIte,ne_eq,forall_const,false_implies,beq_self_eq_true,decide_true,decide_false,Int.cast_ofNat_Int,Nat.reduceAdd,Nat.reduceLT,Nat.reduceLeDiff,Nat.reduceEqDiff,Nat.reduceBEq,Nat.reduceMul,Nat.reduceSub,Int.reduceToNat,Int.reduceEq,Int.reduceNe,Int.reduceLT,Int.reduceLE,Int.reduceBEq,Int.reduceAdd,Int.reduceSub,Int.reduceMul,hP,hW]
  exact ⟨_, rfl, rfl⟩

theorem t_places (hm : Tryd.prog.follows .mixedOrders = true) (W0 : World) (S : List SO) (id lb : Int) (x : Option Rp) (f1 f2 : Bool) (l : List Sp) (q : List Si) (at_ k : Int) (hx : Big (lsO x).length) : CtP Tryd.prog W0 n_segment_Segment_places [.agg [.raw (.int .i64 id), .raw (.int .i64 lb), encO x, .lst 3 f1 (encSp l), .lst 2 f2 (encSi q)], .raw (.int .i64 at_), .raw (.int .i64 k)] S (fun d => d = .tup [.raw (.int .i64 (pa (lsO x).length at_)), .raw (.int .i64 (pb (lsO x).length at_ k))]) := by
  have h1 := pa_ok (lsO x).length at_
  have h2 := pb_ok (lsO x).length at_ k
  unfold Big at hx
  refine Ct_R k_segment_Segment_places 400 (.mk [.mk (.agg [.raw (.int .i64 id), .raw (.int .i64 lb), encO x, .lst 3 f1 (encSp l), .lst 2 f2 (encSi q)]) (.raw (.int .i64 at_)) (.raw (.int .i64 k)) .junk .junk .junk .junk .junk, .mk .junk .junk .junk .junk .junk .junk .junk .junk] [.junk, .junk, .junk, .junk, .junk, .junk]) rfl rfl fun r hP hW hpan hret => ?_
  simp only [c_segment_Segment_places, ev,evA,true_and,and_true,and_self,if_true,if_false,reduceIte,ne_eq,forall_const,false_implies,beq_self_eq_true,decide_true,decide_false,Int.cast_ofNat_Int,Nat.reduceAdd,Nat.reduceLT,Nat.reduceLeDiff,Nat.reduceEqDiff,Nat.reduceBEq,Nat.reduceMul,Nat.reduceSub,Int.reduceToNat,Int.reduceEq,Int.reduceNe,Int.reduceLT,Int.reduceLE,Int.reduceBEq,Int.reduceAdd,Int.reduceSub,Int.reduceMul,hP,hW]
  try simp only [evRo, hm, ev,evA,true_and,and_true,and_self,if_true,if_false,reduceIte,ne_eq,forall_const,false_implies,beq_self_eq_true,decide_true,decide_false,Int.cast_ofNat_Int,Nat.reduceAdd,Nat.reduceLT,Nat.reduceLeDiff,Nat.reduceEqDiff,Nat.reduceBEq,Nat.reduceMul,Nat.reduceSub,Int.reduceToNat,Int.reduceEq,Int.reduceNe,Int.reduceLT,Int.reduceLE,Int.reduceBEq,Int.reduceAdd,Int.reduceSub,Int.reduceMul,hP,hW]
  intro g
  try simp only [evRo, hm, ev,evA,true_and,and_true,and_self,if_true,if_false,reduceIte,ne_eq,forall_const,false_implies,beq_self_eq_true,decide_true,decide_false,Int.cast_ofNat_Int,Nat.reduceAdd,Nat.reduceLT,Nat.reduceLeDiff,Nat.reduceEqDiff,Nat.reduceBEq,Nat.reduceMul,Nat.reduceSub,Int.reduceToNat,Int.reduceEq,Int.reduceNe,Int.reduceLT,Int.reduceLE,Int.reduceBEq,Int.reduceAdd,Int.reduceSub,Int.reduceMul,hP,hW]
  refine callE _ (fun S2 => t_clamp W0 S2 id lb x f1 f2 l q at_) (by try simp only [ev,evA,true_and,and_true,and_self,if_true,if_false,reduceIte,ne_eq,forall_const,false_implies,beq_self_eq_true,decide_true,decide_false,Int.cast_ofNat_Int,Nat.reduceAdd,Nat.reduceLT,Nat.reduceLeDiff,Nat.reduceEqDiff,Nat.reduceBEq,Nat.reduceMul,Nat.reduceSub,Int.reduceToNat,Int.reduceEq,Int.reduceNe,Int.reduceLT,Int.reduceLE,Int.reduceBEq,Int.reduceAdd,Int.reduceSub,Int.reduceMul,hP,hW]) ?_
  try simp only [evRo, hm, ev,evA,true_and,and_true,and_self,if_true,if_false,reduceIte,ne_eq,forall_const,false_implies,beq_self_eq_true,decide_true,decide_false,Int.cast_ofNat_Int,Nat.reduceAdd,Nat.reduceLT,Nat.reduceLeDiff,Nat.reduceEqDiff,Nat.reduceBEq,Nat.reduceMul,Nat.reduceSub,Int.reduceToNat,Int.reduceEq,Int.reduceNe,Int.reduceLT,Int.reduceLE,Int.reduceBEq,Int.reduceAdd,Int.reduceSub,Int.reduceMul,hP,hW]
  refine callE _ (fun S2 => t_Len W0 S2 x) (by try simp only [ev,evA,true_and,and_true,and_self,if_true,if_false,reduceIte,ne_eq,forall_const,false_implies,beq_self_eq_true,decide_true,decide_false,Int.cast_ofNat_Int,Nat.reduceAdd,Nat.reduceLT,Nat.reduceLeDiff,Nat.reduceEqDiff,Nat.reduceBEq,Nat.reduceMul,Nat.reduceSub,Int.reduceToNat,Int.reduceEq,Int.reduceNe,Int.reduceLT,Int.reduceLE,Int.reduceBEq,Int.reduceAdd,Int.reduceSub,Int.reduceMul,hP,hW]) ?_
  have w1 : IntKind.i64.wrap (((lsO x).length : Int) - pa (lsO x).length at_) = ((lsO x).length : Int) - pa (lsO x).length at_ := wrap_id (by omega) (by omega)
  have w2 : IntKind.i64.wrap (pa (lsO x).length at_ + min (max k 0) (((lsO x).length : Int) - pa (lsO x).length at_)) = pb (lsO x).length at_ k := by rw [show pa (lsO x).length at_ + min (max k 0) (((lsO x).length : Int) - pa (lsO x).length at_) = pb (lsO x).length at_ k from rfl, wrap_id (by omega) (by omega)]
  try simp only [evRo, hm, w1, w2, ev,evA,true_and,and_true,and_self,if_true,if_false,reduceIte,ne_eq,forall_const,false_implies,beq_self_eq_true,decide_true,decide_false,Int.cast_ofNat_Int,Nat.reduceAdd,Nat.reduceLT,Nat.reduceLeDiff,Nat.reduceEqDiff,Nat.reduceBEq,Nat.reduceMul,Nat.reduceSub,Int.reduceToNat,Int.reduceEq,Int.reduceNe,Int.reduceLT,Int.reduceLE,Int.reduceBEq,Int.reduceAdd,Int.reduceSub,Int.reduceMul,hP,hW]
  refine hret _ _ S.length 5 ?_
  simp only [r_segment_Segment_places, evRo, ev,evA,true_and,and_true,and_self,if_true,if_false,reduceIte,ne_eq,forall_const,false_implies,beq_self_eq_true,decide_true,decide_false,Int.cast_ofNat_Int,Nat.reduceAdd,Nat.reduceLT,Nat.reduceLeDiff,Nat.reduceEqDiff,Nat.reduceBEq,Nat.reduceMul,Nat.reduceSub,Int.reduceToNat,Int.reduceEq,Int.reduceNe,Int.reduceLT,Int.reduceLE,Int.reduceBEq,Int.reduceAdd,Int.reduceSub,Int.reduceMul,hP,hW]
  exact ⟨_, rfl, rfl⟩

theorem len_big {x : Option Rp} (hx : OkO x) (hbig : Big (bytes (lsO x))) : Big (lsO x).length := by
  have := hx.Ls.len_le; unfold Big bytes at *; omega

theorem t_Piece (hm : Tryd.prog.follows .mixedOrders = true) (W0 : World) (S : List SO) (id lb : Int) (x : Option Rp) (f1 f2 : Bool) (l : List Sp) (q : List Si) (at_ k id2 : Int) (hx : OkO x) (hbig : Big (bytes (lsO x))) : CtP Tryd.prog W0 n_segment_Segment_Piece [.agg [.raw (.int .i64 id), .raw (.int .i64 lb), encO x, .lst 3 f1 (encSp l), .lst 2 f2 (encSi q)], .raw (.int .i64 at_), .raw (.int .i64 k), .raw (.int .i64 id2)] S
    (fun d => ∃ y, d = .agg [.raw (.int .i64 id2), .raw (.int .i64 lb), encO y, .lst 3 false [], .lst 2 false []] ∧ OkO y ∧ lsO y = ((lsO x).take (pb (lsO x).length at_ k).toNat).drop (pa (lsO x).length at_).toNat) := by
  refine CtP.leN (q := fun d => ∃ y, d = .agg [.raw (.int .i64 id2), .raw (.int .i64 lb), encO y, .raw (.slice none 0 0), .raw (.slice none 0 0)] ∧ OkO y ∧ lsO y = ((lsO x).take (pb (lsO x).length at_ k).toNat).drop (pa (lsO x).length at_).toNat) 1 ?_ (fun d ⟨y, hd, h1, h2⟩ => ⟨_, by rw [hd]; exact leMarks _ _ _, y, rfl, h1, h2⟩)
  refine Ct_R k_segment_Segment_Piece 400 (.mk [.mk (.agg [.raw (.int .i64 id), .raw (.int .i64 lb), encO x, .lst 3 f1 (encSp l), .lst 2 f2 (encSi q)]) (.raw (.int .i64 at_)) (.raw (.int .i64 k)) (.raw (.int .i64 id2)) .junk .junk .junk .junk, .mk .junk .junk .junk .junk .junk .junk .junk .junk, .mk .junk .junk .junk .junk .junk .junk .junk .junk] [.junk, .junk, .junk]) rfl rfl fun r hP hW hpan hret => ?_
  simp only [c_segment_Segment_Piece, ev,evA,true_and,and_true,and_self,if_true,if_false,reduceIte,ne_eq,forall_const,false_implies,beq_self_eq_true,decide_true,decide_false,Int.cast_ofNat_Int,Nat.reduceAdd,Nat.reduceLT,Nat.reduceLeDiff,Nat.reduceEqDiff,Nat.reduceBEq,Nat.reduceMul,Nat.reduceSub,Int.reduceToNat,Int.reduceEq,Int.reduceNe,Int.reduceLT,Int.reduceLE,Int.reduceBEq,Int.reduceAdd,Int.reduceSub,Int.reduceMul,hP,hW]
  try simp only [evRo, hm, ev,evA,true_and,and_true,and_self,if_true,if_false,reduceIte,ne_eq,forall_const,false_implies,beq_self_eq_true,decide_true,decide_false,Int.cast_ofNat_Int,Nat.reduceAdd,Nat.reduceLT,Nat.reduceLeDiff,Nat.reduceEqDiff,Nat.reduceBEq,Nat.reduceMul,Nat.reduceSub,Int.reduceToNat,Int.reduceEq,Int.reduceNe,Int.reduceLT,Int.reduceLE,Int.reduceBEq,Int.reduceAdd,Int.reduceSub,Int.reduceMul,hP,hW]
  intro g
  try simp only [evRo, hm, ev,evA,true_and,and_true,and_self,if_true,if_false,reduceIte,ne_eq,forall_const,false_implies,beq_self_eq_true,decide_true,decide_false,Int.cast_ofNat_Int,Nat.reduceAdd,Nat.reduceLT,Nat.reduceLeDiff,Nat.reduceEqDiff,Nat.reduceBEq,Nat.reduceMul,Nat.reduceSub,Int.reduceToNat,Int.reduceEq,Int.reduceNe,Int.reduceLT,Int.reduceLE,Int.reduceBEq,Int.reduceAdd,Int.reduceSub,Int.reduceMul,hP,hW]
  refine callE _ (fun S2 => t_places hm W0 S2 id lb x f1 f2 l q at_ k (len_big hx hbig)) (by try simp only [ev,evA,true_and,and_true,and_self,if_true,if_false,reduceIte,ne_eq,forall_const,false_implies,beq_self_eq_true,decide_true,decide_false,Int.cast_ofNat_Int,Nat.reduceAdd,Nat.reduceLT,Nat.reduceLeDiff,Nat.reduceEqDiff,Nat.reduceBEq,Nat.reduceMul,Nat.reduceSub,Int.reduceToNat,Int.reduceEq,Int.reduceNe,Int.reduceLT,Int.reduceLE,Int.reduceBEq,Int.reduceAdd,Int.reduceSub,Int.reduceMul,hP,hW]) ?_
  try simp only [evRo, hm, ev,evA,true_and,and_true,and_self,if_true,if_false,reduceIte,ne_eq,forall_const,false_implies,beq_self_eq_true,decide_true,decide_false,Int.cast_ofNat_Int,Nat.reduceAdd,Nat.reduceLT,Nat.reduceLeDiff,Nat.reduceEqDiff,Nat.reduceBEq,Nat.reduceMul,Nat.reduceSub,Int.reduceToNat,Int.reduceEq,Int.reduceNe,Int.reduceLT,Int.reduceLE,Int.reduceBEq,Int.reduceAdd,Int.reduceSub,Int.reduceMul,hP,hW]
  have h1 := pa_ok (lsO x).length at_
  have h2 := pb_ok (lsO x).length at_ k
  refine callQ _ (fun S2 => t_Cut hm W0 S2 (pa (lsO x).length at_) (pb (lsO x).length at_ k) hx hbig) (ropeQ ((hx.Ls.take _).drop _)) (by try simp only [ev,evA,true_and,and_true,and_self,if_true,if_false,reduceIte,ne_eq,forall_const,false_implies,beq_self_eq_true,decide_true,decide_false,Int.cast_ofNat_Int,Nat.reduceAdd,Nat.reduceLT,Nat.reduceLeDiff,Nat.reduceEqDiff,Nat.reduceBEq,Nat.reduceMul,Nat.reduceSub,Int.reduceToNat,Int.reduceEq,Int.reduceNe,Int.reduceLT,Int.reduceLE,Int.reduceBEq,Int.reduceAdd,Int.reduceSub,Int.reduceMul,hP,hW]) ?_
  rintro d ⟨y, rfl, hy, hyl⟩
  try simp only [evRo, hm, ev,evA,true_and,and_true,and_self,if_true,if_false,reduceIte,ne_eq,forall_const,false_implies,beq_self_eq_true,decide_true,decide_false,Int.cast_ofNat_Int,Nat.reduceAdd,Nat.reduceLT,Nat.reduceLeDiff,Nat.reduceEqDiff,Nat.reduceBEq,Nat.reduceMul,Nat.reduceSub,Int.reduceToNat,Int.reduceEq,Int.reduceNe,Int.reduceLT,Int.reduceLE,Int.reduceBEq,Int.reduceAdd,Int.reduceSub,Int.reduceMul,hP,hW]
  refine hret _ _ S.length 5 ?_
  simp only [r_segment_Segment_Piece, evRo, ev,evA,true_and,and_true,and_self,if_true,if_false,reduceIte,ne_eq,forall_const,false_implies,beq_self_eq_true,decide_true,decide_false,Int.cast_ofNat_Int,Nat.reduceAdd,Nat.reduceLT,Nat.reduceLeDiff,Nat.reduceEqDiff,Nat.reduceBEq,Nat.reduceMul,Nat.reduceSub,Int.reduceToNat,Int.reduceEq,Int.reduceNe,Int.reduceLT,Int.reduceLE,Int.reduceBEq,Int.reduceAdd,Int.reduceSub,Int.reduceMul,hP,hW]
  exact ⟨_, rfl, y, rfl, hy, hyl⟩

/-- Spans and sites that may be of n letters are small numbers. -/
theorem RS_rng {n : Int} {l : List Sp} (h : RS n 0 0 l) (hn : n ≤ 1099511627776) : ∀ s ∈ l, Rng s.f ∧ Rng s.t := by
  intro s hs
  obtain ⟨k, hk, rfl⟩ := List.getElem_of_mem hs
  have := RS_step h hk
  unfold SpOk at this
  unfold Rng; omega
theorem QS_rng {n : Int} {q : List Si} (h : QS n q) (hn : n ≤ 1099511627776) : ∀ s ∈ q, Rng s.a := by
  intro s hs
  have := h.2 s hs
  unfold Rng; omega

theorem sitesB_len (a : Int) (q : List Si) : (sitesB a q).length ≤ q.length := by unfold sitesB; rw [List.length_map]; exact List.length_filter_le _ _
theorem sitesA_len (a : Int) (q : List Si) : (sitesA a q).length ≤ q.length := List.length_filter_le _ _
theorem foldB_len (f : Sp → Sp) (l : List Sp) : (foldA (l.map f)).length ≤ l.length := by have := foldA_len (l.map f); rwa [List.length_map] at this

/-- Three parts. -/
def PartQ (id lb : Int) (x : Option Rp) (l : List Sp) (q : List Si) (a b i2 i3 lb2 : Int) (d : DV) : Prop :=
  ∃ y1 y2 y3, d = .tup [.agg [.raw (.int .i64 id), .raw (.int .i64 lb), encO y1, .lst 3 false (encSp (foldA (l.map (clipA a)))), .lst 2 false (encSi (sitesA a q))],
    .agg [.raw (.int .i64 i2), .raw (.int .i64 lb2), encO y2, .lst 3 false [], .lst 2 false []],
    .agg [.raw (.int .i64 i3), .raw (.int .i64 lb), encO y3, .lst 3 false (encSp (foldA ((foldA (l.map (clipB a))).map (clipB (b - a))))), .lst 2 false (encSi (sitesB (b - a) (sitesB a q)))]] ∧
    OkO y1 ∧ OkO y2 ∧ OkO y3 ∧ lsO y1 = (lsO x).take a.toNat ∧ lsO y2 = ((lsO x).take b.toNat).drop a.toNat ∧ lsO y3 = (lsO x).drop b.toNat

theorem t_SegPart (hm : Tryd.prog.follows .mixedOrders = true) (W0 : World) (S : List SO) (id lb : Int) (x : Option Rp) (f1 f2 : Bool) (l : List Sp) (q : List Si) (at_ k i2 i3 lb2 : Int) (hx : OkO x) (hbig : Big (bytes (lsO x))) (hl : l.length ≤ 1099511627776) (hq : q.length ≤ 1099511627776) (hrs : RS (lsO x).length 0 0 l) (hqs : QS (lsO x).length q) :
    CtP Tryd.prog W0 n_segment_Segment_Part [.agg [.raw (.int .i64 id), .raw (.int .i64 lb), encO x, .lst 3 f1 (encSp l), .lst 2 f2 (encSi q)], .raw (.int .i64 at_), .raw (.int .i64 k), .raw (.int .i64 i2), .raw (.int .i64 i3), .raw (.int .i64 lb2)] S
    (PartQ id lb x l q (pa (lsO x).length at_) (pb (lsO x).length at_ k) i2 i3 lb2) := by
  have hlb := len_big hx hbig
  have h1 := pa_ok (lsO x).length at_
  have h2 := pb_ok (lsO x).length at_ k
  unfold Big at hlb
  generalize ha : pa (lsO x).length at_ = a at *
  generalize hb : pb (lsO x).length at_ k = b at *
  refine CtP.leN (q := fun d => ∃ y1 y2 y3, d = .tup [.agg [.raw (.int .i64 id), .raw (.int .i64 lb), encO y1, .lst 3 false (encSp (foldA (l.map (clipA a)))), .lst 2 false (encSi (sitesA a q))],
    .agg [.raw (.int .i64 i2), .raw (.int .i64 lb2), encO y2, .raw (.slice none 0 0), .raw (.slice none 0 0)],
    .agg [.raw (.int .i64 i3), .raw (.int .i64 lb), encO y3, .lst 3 false (encSp (foldA ((foldA (l.map (clipB a))).map (clipB (b - a))))), .lst 2 false (encSi (sitesB (b - a) (sitesB a q)))]] ∧
    OkO y1 ∧ OkO y2 ∧ OkO y3 ∧ lsO y1 = (lsO x).take a.toNat ∧ lsO y2 = ((lsO x).take b.toNat).drop a.toNat ∧ lsO y3 = (lsO x).drop b.toNat) 2 ?_ ?_
  rotate_left
  · rintro d ⟨y1, y2, y3, rfl, h⟩
    refine ⟨_, ?_, y1, y2, y3, rfl, h⟩
    refine leN_tup 1 ?_
    simp only [rlL]
    exact ⟨leN_refl _ _, leMarks _ _ _, leN_refl _ _, trivial⟩
  refine Ct_R k_segment_Segment_Part 400 (.mk [.mk (.agg [.raw (.int .i64 id), .raw (.int .i64 lb), encO x, .lst 3 f1 (encSp l), .lst 2 f2 (encSi q)]) (.raw (.int .i64 at_)) (.raw (.int .i64 k)) (.raw (.int .i64 i2)) (.raw (.int .i64 i3)) (.raw (.int .i64 lb2)) .junk .junk, .mk .junk .junk .junk .junk .junk .junk .junk .junk, .mk .junk .junk .junk .junk .junk .junk .junk .junk, .mk .junk .junk .junk .junk .junk .junk .junk .junk, .mk .junk .junk .junk .junk .junk .junk .junk .junk, .mk .junk .junk .junk .junk .junk .junk .junk .junk, .mk .junk .junk .junk .junk .junk .junk .junk .junk, .mk .junk .junk .junk .junk .junk .junk .junk .junk, .mk .junk .junk .junk .junk .junk .junk .junk .junk] [.junk]) rfl rfl fun r hP hW hpan hret => ?_
  simp only [c_segment_Segment_Part, ev,evA,true_and,and_true,and_self,if_true,if_false,reduceIte,ne_eq,forall_const,false_implies,beq_self_eq_true,decide_true,decide_false,Int.cast_ofNat_Int,Nat.reduceAdd,Nat.reduceLT,Nat.reduceLeDiff,Nat.reduceEqDiff,Nat.reduceBEq,Nat.reduceMul,Nat.reduceSub,Int.reduceToNat,Int.reduceEq,Int.reduceNe,Int.reduceLT,Int.reduceLE,Int.reduceBEq,Int.reduceAdd,Int.reduceSub,Int.reduceMul,hP,hW]
  try simp only [evRo, hm, ev,evA,true_and,and_true,and_self,if_true,if_false,reduceIte,ne_eq,forall_const,false_implies,beq_self_eq_true,decide_true,decide_false,Int.cast_ofNat_Int,Nat.reduceAdd,Nat.reduceLT,Nat.reduceLeDiff,Nat.reduceEqDiff,Nat.reduceBEq,Nat.reduceMul,Nat.reduceSub,Int.reduceToNat,Int.reduceEq,Int.reduceNe,Int.reduceLT,Int.reduceLE,Int.reduceBEq,Int.reduceAdd,Int.reduceSub,Int.reduceMul,hP,hW]
  intro g
  try simp only [evRo, hm, ev,evA,true_and,and_true,and_self,if_true,if_false,reduceIte,ne_eq,forall_const,false_implies,beq_self_eq_true,decide_true,decide_false,Int.cast_ofNat_Int,Nat.reduceAdd,Nat.reduceLT,Nat.reduceLeDiff,Nat.reduceEqDiff,Nat.reduceBEq,Nat.reduceMul,Nat.reduceSub,Int.reduceToNat,Int.reduceEq,Int.reduceNe,Int.reduceLT,Int.reduceLE,Int.reduceBEq,Int.reduceAdd,Int.reduceSub,Int.reduceMul,hP,hW]
  refine callE (.tup [.raw (.int .i64 a), .raw (.int .i64 b)]) (fun S2 => by have := t_places hm W0 S2 id lb x f1 f2 l q at_ k (len_big hx hbig); rwa [ha, hb] at this) (by try simp only [ev,evA,true_and,and_true,and_self,if_true,if_false,reduceIte,ne_eq,forall_const,false_implies,beq_self_eq_true,decide_true,decide_false,Int.cast_ofNat_Int,Nat.reduceAdd,Nat.reduceLT,Nat.reduceLeDiff,Nat.reduceEqDiff,Nat.reduceBEq,Nat.reduceMul,Nat.reduceSub,Int.reduceToNat,Int.reduceEq,Int.reduceNe,Int.reduceLT,Int.reduceLE,Int.reduceBEq,Int.reduceAdd,Int.reduceSub,Int.reduceMul,hP,hW]) ?_
  try simp only [evRo, hm, ev,evA,true_and,and_true,and_self,if_true,if_false,reduceIte,ne_eq,forall_const,false_implies,beq_self_eq_true,decide_true,decide_false,Int.cast_ofNat_Int,Nat.reduceAdd,Nat.reduceLT,Nat.reduceLeDiff,Nat.reduceEqDiff,Nat.reduceBEq,Nat.reduceMul,Nat.reduceSub,Int.reduceToNat,Int.reduceEq,Int.reduceNe,Int.reduceLT,Int.reduceLE,Int.reduceBEq,Int.reduceAdd,Int.reduceSub,Int.reduceMul,hP,hW]
  intro g1
  refine callE _ (fun S2 => t_Part hm W0 S2 f1 f2 l q a ⟨by omega, by omega⟩ hl hq (RS_rng hrs (by omega)) (QS_rng hqs (by omega))) (by try simp only [ev,evA,true_and,and_true,and_self,if_true,if_false,reduceIte,ne_eq,forall_const,false_implies,beq_self_eq_true,decide_true,decide_false,Int.cast_ofNat_Int,Nat.reduceAdd,Nat.reduceLT,Nat.reduceLeDiff,Nat.reduceEqDiff,Nat.reduceBEq,Nat.reduceMul,Nat.reduceSub,Int.reduceToNat,Int.reduceEq,Int.reduceNe,Int.reduceLT,Int.reduceLE,Int.reduceBEq,Int.reduceAdd,Int.reduceSub,Int.reduceMul,hP,hW]) ?_
  try simp only [evRo, hm, ev,evA,true_and,and_true,and_self,if_true,if_false,reduceIte,ne_eq,forall_const,false_implies,beq_self_eq_true,decide_true,decide_false,Int.cast_ofNat_Int,Nat.reduceAdd,Nat.reduceLT,Nat.reduceLeDiff,Nat.reduceEqDiff,Nat.reduceBEq,Nat.reduceMul,Nat.reduceSub,Int.reduceToNat,Int.reduceEq,Int.reduceNe,Int.reduceLT,Int.reduceLE,Int.reduceBEq,Int.reduceAdd,Int.reduceSub,Int.reduceMul,hP,hW]
  have w1 : IntKind.i64.wrap (b - a) = b - a := wrap_id (by omega) (by omega)
  have hB := partB hrs h1.1 h1.2
  have hQB := sitesB_ok hqs h1.1
  try simp only [evRo, hm, w1, ev,evA,true_and,and_true,and_self,if_true,if_false,reduceIte,ne_eq,forall_const,false_implies,beq_self_eq_true,decide_true,decide_false,Int.cast_ofNat_Int,Nat.reduceAdd,Nat.reduceLT,Nat.reduceLeDiff,Nat.reduceEqDiff,Nat.reduceBEq,Nat.reduceMul,Nat.reduceSub,Int.reduceToNat,Int.reduceEq,Int.reduceNe,Int.reduceLT,Int.reduceLE,Int.reduceBEq,Int.reduceAdd,Int.reduceSub,Int.reduceMul,hP,hW]
  intro g2
  refine callE _ (fun S2 => t_Part hm W0 S2 false false _ _ (b - a) ⟨by omega, by omega⟩ (by have := foldB_len (clipB a) l; omega) (by have := sitesB_len a q; omega) (RS_rng hB.1 (by omega)) (QS_rng hQB.1 (by omega))) (by try simp only [ev,evA,true_and,and_true,and_self,if_true,if_false,reduceIte,ne_eq,forall_const,false_implies,beq_self_eq_true,decide_true,decide_false,Int.cast_ofNat_Int,Nat.reduceAdd,Nat.reduceLT,Nat.reduceLeDiff,Nat.reduceEqDiff,Nat.reduceBEq,Nat.reduceMul,Nat.reduceSub,Int.reduceToNat,Int.reduceEq,Int.reduceNe,Int.reduceLT,Int.reduceLE,Int.reduceBEq,Int.reduceAdd,Int.reduceSub,Int.reduceMul,hP,hW]) ?_
  try simp only [evRo, hm, ev,evA,true_and,and_true,and_self,if_true,if_false,reduceIte,ne_eq,forall_const,false_implies,beq_self_eq_true,decide_true,decide_false,Int.cast_ofNat_Int,Nat.reduceAdd,Nat.reduceLT,Nat.reduceLeDiff,Nat.reduceEqDiff,Nat.reduceBEq,Nat.reduceMul,Nat.reduceSub,Int.reduceToNat,Int.reduceEq,Int.reduceNe,Int.reduceLT,Int.reduceLE,Int.reduceBEq,Int.reduceAdd,Int.reduceSub,Int.reduceMul,hP,hW]
  refine callQ _ (fun S2 => t_Cut hm W0 S2 0 a hx hbig) (ropeQ ((hx.Ls.take _).drop _)) (by try simp only [ev,evA,true_and,and_true,and_self,if_true,if_false,reduceIte,ne_eq,forall_const,false_implies,beq_self_eq_true,decide_true,decide_false,Int.cast_ofNat_Int,Nat.reduceAdd,Nat.reduceLT,Nat.reduceLeDiff,Nat.reduceEqDiff,Nat.reduceBEq,Nat.reduceMul,Nat.reduceSub,Int.reduceToNat,Int.reduceEq,Int.reduceNe,Int.reduceLT,Int.reduceLE,Int.reduceBEq,Int.reduceAdd,Int.reduceSub,Int.reduceMul,hP,hW]) ?_
  rintro d ⟨y1, rfl, hy1, hyl1⟩
  try simp only [evRo, hm, ev,evA,true_and,and_true,and_self,if_true,if_false,reduceIte,ne_eq,forall_const,false_implies,beq_self_eq_true,decide_true,decide_false,Int.cast_ofNat_Int,Nat.reduceAdd,Nat.reduceLT,Nat.reduceLeDiff,Nat.reduceEqDiff,Nat.reduceBEq,Nat.reduceMul,Nat.reduceSub,Int.reduceToNat,Int.reduceEq,Int.reduceNe,Int.reduceLT,Int.reduceLE,Int.reduceBEq,Int.reduceAdd,Int.reduceSub,Int.reduceMul,hP,hW]
  refine callQ _ (fun S2 => t_Cut hm W0 S2 a b hx hbig) (ropeQ ((hx.Ls.take _).drop _)) (by try simp only [ev,evA,true_and,and_true,and_self,if_true,if_false,reduceIte,ne_eq,forall_const,false_implies,beq_self_eq_true,decide_true,decide_false,Int.cast_ofNat_Int,Nat.reduceAdd,Nat.reduceLT,Nat.reduceLeDiff,Nat.reduceEqDiff,Nat.reduceBEq,Nat.reduceMul,Nat.reduceSub,Int.reduceToNat,Int.reduceEq,Int.reduceNe,Int.reduceLT,Int.reduceLE,Int.reduceBEq,Int.reduceAdd,Int.reduceSub,Int.reduceMul,hP,hW]) ?_
  rintro d ⟨y2, rfl, hy2, hyl2⟩
  try simp only [evRo, hm, ev,evA,true_and,and_true,and_self,if_true,if_false,reduceIte,ne_eq,forall_const,false_implies,beq_self_eq_true,decide_true,decide_false,Int.cast_ofNat_Int,Nat.reduceAdd,Nat.reduceLT,Nat.reduceLeDiff,Nat.reduceEqDiff,Nat.reduceBEq,Nat.reduceMul,Nat.reduceSub,Int.reduceToNat,Int.reduceEq,Int.reduceNe,Int.reduceLT,Int.reduceLE,Int.reduceBEq,Int.reduceAdd,Int.reduceSub,Int.reduceMul,hP,hW]
  refine callE _ (fun S2 => t_Len W0 S2 x) (by try simp only [ev,evA,true_and,and_true,and_self,if_true,if_false,reduceIte,ne_eq,forall_const,false_implies,beq_self_eq_true,decide_true,decide_false,Int.cast_ofNat_Int,Nat.reduceAdd,Nat.reduceLT,Nat.reduceLeDiff,Nat.reduceEqDiff,Nat.reduceBEq,Nat.reduceMul,Nat.reduceSub,Int.reduceToNat,Int.reduceEq,Int.reduceNe,Int.reduceLT,Int.reduceLE,Int.reduceBEq,Int.reduceAdd,Int.reduceSub,Int.reduceMul,hP,hW]) ?_
  try simp only [evRo, hm, ev,evA,true_and,and_true,and_self,if_true,if_false,reduceIte,ne_eq,forall_const,false_implies,beq_self_eq_true,decide_true,decide_false,Int.cast_ofNat_Int,Nat.reduceAdd,Nat.reduceLT,Nat.reduceLeDiff,Nat.reduceEqDiff,Nat.reduceBEq,Nat.reduceMul,Nat.reduceSub,Int.reduceToNat,Int.reduceEq,Int.reduceNe,Int.reduceLT,Int.reduceLE,Int.reduceBEq,Int.reduceAdd,Int.reduceSub,Int.reduceMul,hP,hW]
  refine callQ _ (fun S2 => t_Cut hm W0 S2 b (lsO x).length hx hbig) (ropeQ ((hx.Ls.take _).drop _)) (by try simp only [ev,evA,true_and,and_true,and_self,if_true,if_false,reduceIte,ne_eq,forall_const,false_implies,beq_self_eq_true,decide_true,decide_false,Int.cast_ofNat_Int,Nat.reduceAdd,Nat.reduceLT,Nat.reduceLeDiff,Nat.reduceEqDiff,Nat.reduceBEq,Nat.reduceMul,Nat.reduceSub,Int.reduceToNat,Int.reduceEq,Int.reduceNe,Int.reduceLT,Int.reduceLE,Int.reduceBEq,Int.reduceAdd,Int.reduceSub,Int.reduceMul,hP,hW]) ?_
  rintro d ⟨y3, rfl, hy3, hyl3⟩
  try simp only [evRo, hm, ev,evA,true_and,and_true,and_self,if_true,if_false,reduceIte,ne_eq,forall_const,false_implies,beq_self_eq_true,decide_true,decide_false,Int.cast_ofNat_Int,Nat.reduceAdd,Nat.reduceLT,Nat.reduceLeDiff,Nat.reduceEqDiff,Nat.reduceBEq,Nat.reduceMul,Nat.reduceSub,Int.reduceToNat,Int.reduceEq,Int.reduceNe,Int.reduceLT,Int.reduceLE,Int.reduceBEq,Int.reduceAdd,Int.reduceSub,Int.reduceMul,hP,hW]
  refine hret _ _ S.length 5 ?_
  simp only [r_segment_Segment_Part, evRo, evMk, ev,evA,true_and,and_true,and_self,if_true,if_false,reduceIte,ne_eq,forall_const,false_implies,beq_self_eq_true,decide_true,decide_false,Int.cast_ofNat_Int,Nat.reduceAdd,Nat.reduceLT,Nat.reduceLeDiff,Nat.reduceEqDiff,Nat.reduceBEq,Nat.reduceMul,Nat.reduceSub,Int.reduceToNat,Int.reduceEq,Int.reduceNe,Int.reduceLT,Int.reduceLE,Int.reduceBEq,Int.reduceAdd,Int.reduceSub,Int.reduceMul,hP,hW]
  refine ⟨_, rfl, y1, y2, y3, rfl, hy1, hy2, hy3, ?_, hyl2, ?_⟩
  · rw [hyl1]; simp
  · rw [hyl3, Int.toNat_natCast, List.take_length]
end Go.Dv
