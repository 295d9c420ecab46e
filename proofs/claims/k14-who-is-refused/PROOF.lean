import PyProof.Rows.All
import Wide.All
import OpenK.AllK
import Wide.FinOn
import HandS.ForMost
import HandS.Flow
import HandS.Style
import HandS.IsInst
import HandS.TupAny
import HandS.TupMul
import HandS.TupLe
import HandS.Deep
import HandS.Wide
import HandS.Zip
import HandS.Walk
import HandS.Conv
import PyProof.StrBlock2
import KE.GoesEnum
import KE.GoesZip
import KE.GoesMore
import HandS.Exc
import HandS.ExcOwn
import HandS.ExcCtx
import HandS.Hot
import HandS.HotCalls
import HandS.ExcIs
import HandS.CallLocal
import HandS.Lambda
import HandS.EndTab
import KE.KNestM
import PySem.Challenge.RW_halfheard_k14_who_is_refused
set_option Elab.async false
set_option linter.all false
set_option maxRecDepth 100000
set_option maxHeartbeats 4000000
namespace HH
open PySem PySem.Spec L2
/-! ### operators, with heads of their own -/
def rAddI : R2 := rI0 fun i j => .int (i + j)
def rSubI : R2 := rI0 fun i j => .int (i - j)
def rMulI : R2 := rI CMul fun i j => .int (i * j)
def rDivI : R2 := rI CDiv fun i j => .int (i / j)
def rModI : R2 := rI (fun _ j => 0 < j) fun i j => .int (i % j)
def rPowI : R2 := rI CPow fun i j => .int (i ^ j.toNat)
def rLtI : R2 := rI0 fun i j => .bl (decide (i < j))
def rLeI : R2 := rI0 fun i j => .bl (decide (i ≤ j))
def rGtI : R2 := rI0 fun i j => .bl (decide (j < i))
def rGeI : R2 := rI0 fun i j => .bl (decide (j ≤ i))
def rAddS : R2 := fun x y H Q => ∃ i j, x = .str i ∧ y = .str j ∧ i.length + j.length ≤ sizeLine ∧ Q (.str (i ++ j)) H
def rInC : R2 := fun x y H Q => ∃ (c : Nat) (z : Str), x = .str ⟨#[c]⟩ ∧ y = .str z ∧ Q (.bl (decide (c ∈ z.cps.toList))) H
def rNotInC : R2 := fun x y H Q => ∃ (c : Nat) (z : Str), x = .str ⟨#[c]⟩ ∧ y = .str z ∧ Q (.bl (!decide (c ∈ z.cps.toList))) H
def rIsNon : R2 := fun x y H Q => y = .non ∧ Q (.bl (decide (x = .non))) H
def rNotNon : R2 := fun x y H Q => y = .non ∧ Q (.bl (!decide (x = .non))) H
def rGtS : R2 := fun x y H Q => ∃ i j, x = .str i ∧ y = .str j ∧ Q (.bl (decide (j.cps.toList < i.cps.toList))) H
def rMulS : R2 := fun x y H Q => ∃ z n, x = .str z ∧ y = .int n ∧ MulOk z n ∧ Q (.str (Txt.mul z n)) H
def rLenQ (K : PySem.W.Frag) : List V → Hp → VK → Prop := fun xs H Q => ∃ p ys, xs = [.ref p] ∧ (SqL K H p ys ∨ SqT K H p ys) ∧ Q (.int ys.length) H
def rLenT : List V → Hp → VK → Prop := fun xs H Q => ∃ z, xs = [.str z] ∧ z.length ≤ sizeLine ∧ Q (.int z.length) H
def rMax2 : List V → Hp → VK → Prop := fun xs H Q => ∃ i j, xs = [.int i, .int j] ∧ Q (.int (if j > i then j else i)) H
def rMin2 : List V → Hp → VK → Prop := fun xs H Q => ∃ i j, xs = [.int i, .int j] ∧ Q (.int (if j < i then j else i)) H
def rIntQ : List V → Hp → VK → Prop := fun xs H Q => (∃ i, xs = [.int i] ∧ Q (.int i) H) ∨ ∃ k, xs = [.bl k] ∧ Q (.int (if k then 1 else 0)) H
def rTupQ (K : PySem.W.Frag) : List V → Hp → VK → Prop := fun xs H Q => ∃ p ys, xs = [.ref p] ∧ ((SqL K H p ys ∧ ∀ l, H l = none → Q (.ref l) (upd H l (.tup ys))) ∨ (SqT K H p ys ∧ Q (.ref p) H))
def rLstQ (K : PySem.W.Frag) : List V → Hp → VK → Prop := fun xs H Q => ∃ p ys, xs = [.ref p] ∧ (SqL K H p ys ∨ SqT K H p ys) ∧ ∀ l, H l = none → Q (.ref l) (upd H l (.lst ys))
def rJoin (K : PySem.W.Frag) : V → List V → Hp → VK → Prop := fun x xs H Q => ∃ a p, ∃ ys : List Str, x = .str a ∧ xs = [.ref p] ∧ (SqL K H p (ys.map V.str) ∨ SqT K H p (ys.map V.str)) ∧
      (ys.map (·.length)).sum + ys.length * a.length ≤ 16777216 ∧ Q (.str (Txt.join a ys)) H
def rReprB : List V → Hp → VK → Prop := fun xs H Q => ∃ b, xs = [.bl b] ∧ Q (.str (if b then "True" else "False")) H
section
variable {X : Cx}
theorem op_addI : OpR X (binaryOp .Add) rAddI := op_add
theorem op_subI : OpR X (binaryOp .Sub) rSubI := op_sub
theorem op_mulI : OpR X (binaryOp .Mult) rMulI := op_mul
theorem op_divI : OpR X (binaryOp .FloorDiv) rDivI := op_fdiv
theorem op_modI : OpR X (binaryOp .Mod) rModI := op_mod
theorem op_powI : OpR X (binaryOp .Pow) rPowI := op_pow
theorem op_ltI : OpR X (compareOp .Lt) rLtI := op_lt
theorem op_leI : OpR X (compareOp .LtE) rLeI := op_le
theorem op_gtI : OpR X (compareOp .Gt) rGtI := op_gt
theorem op_geI : OpR X (compareOp .GtE) rGeI := op_ge
theorem op_addS : OpR X (binaryOp .Add) rAddS := op_add_str
theorem op_inC : OpR X (compareOp .In) rInC := op_in_sign
theorem op_notInC : OpR X (compareOp .NotIn) rNotInC := op_notIn_sign
theorem op_isNon : OpR X (compareOp .Is) rIsNon := op_isN
theorem op_notNon : OpR X (compareOp .IsNot) rNotNon := op_notN
theorem op_gtS : OpR X (compareOp .Gt) rGtS := op_gt_str
theorem op_mulS : OpR X (binaryOp .Mult) rMulS := by
  intro pins s σ H x y v u Q I rx ry h
  obtain ⟨z, n, rfl, rfl, ok, q⟩ := h
  obtain ⟨t, rfl⟩ := rx
  obtain ⟨t', rfl⟩ := ry
  exact SB.mul ok fun t' k => ⟨.str (Txt.mul z n), H, I.tok _, ⟨_, rfl⟩, q⟩
theorem cr_lenQ : CallR X (.builtin "len") (rLenQ X.K) := call_len_seq
theorem cr_lenT : CallR X (.builtin "len") rLenT := call_len_str
theorem cr_max2 (hc : X.calm = true) : CallR X (.builtin "max") rMax2 := call_max2 hc
theorem cr_min2 (hc : X.calm = true) : CallR X (.builtin "min") rMin2 := call_min2 hc
theorem cr_intQ : CallR X (.type "int") rIntQ := call_int1
theorem cr_tupQ : CallR X (.type "tuple") (rTupQ X.K) := call_tuple_of
theorem cr_lstQ : CallR X (.type "list") (rLstQ X.K) := call_list_of
theorem cr_reprB : CallR X (.builtin "repr") rReprB := by
  intro pins s σ H xs us Q I r h
  obtain ⟨b, rfl, q⟩ := h
  obtain ⟨u, rfl, rx⟩ := vals1 r
  cases rx
  exact PySem.P.repr_of_bool ⟨.str _, H, I.tok _, ⟨_, rfl⟩, q⟩
theorem pe_joinQ {o e : Expr} {to te : TE} {apos pos : Pos} (ho : PE X o to) (he : PE X e te) (hs : starEach [e] X.env = [(false, eval e X.env)] := by rfl) (hbase : attributeBase o "join" X.env (eval o X.env) = eval o X.env := by rfl) (hline : (apos.endLine == pos.line) = true := by rfl) :
    PE X (.Call (.Attribute o "join" apos) [e] [] pos) (tM1 (rJoin X.K) to te) := pe_join ho he hs hbase hline
end
theorem w_v0 {v : V} {r : St} {H : Hp} {Q : VK} (h : Q v H) : tVar 0 (some v :: r) H Q := ⟨v, rfl, h⟩
theorem w_g0 {x : Option V} {v : V} {r : St} {H : Hp} {Q : St → Hp → Prop} (h : Q (some v :: r) H) : gName 0 v (x :: r) H Q := h
theorem w_v1 {a0 : Option V} {v : V} {r : St} {H : Hp} {Q : VK} (h : Q v H) : tVar 1 (a0 :: some v :: r) H Q := ⟨v, rfl, h⟩
theorem w_g1 {a0 : Option V} {x : Option V} {v : V} {r : St} {H : Hp} {Q : St → Hp → Prop} (h : Q (a0 :: some v :: r) H) : gName 1 v (a0 :: x :: r) H Q := h
theorem w_v2 {a0 a1 : Option V} {v : V} {r : St} {H : Hp} {Q : VK} (h : Q v H) : tVar 2 (a0 :: a1 :: some v :: r) H Q := ⟨v, rfl, h⟩
theorem w_g2 {a0 a1 : Option V} {x : Option V} {v : V} {r : St} {H : Hp} {Q : St → Hp → Prop} (h : Q (a0 :: a1 :: some v :: r) H) : gName 2 v (a0 :: a1 :: x :: r) H Q := h
theorem w_v3 {a0 a1 a2 : Option V} {v : V} {r : St} {H : Hp} {Q : VK} (h : Q v H) : tVar 3 (a0 :: a1 :: a2 :: some v :: r) H Q := ⟨v, rfl, h⟩
theorem w_g3 {a0 a1 a2 : Option V} {x : Option V} {v : V} {r : St} {H : Hp} {Q : St → Hp → Prop} (h : Q (a0 :: a1 :: a2 :: some v :: r) H) : gName 3 v (a0 :: a1 :: a2 :: x :: r) H Q := h
theorem w_v4 {a0 a1 a2 a3 : Option V} {v : V} {r : St} {H : Hp} {Q : VK} (h : Q v H) : tVar 4 (a0 :: a1 :: a2 :: a3 :: some v :: r) H Q := ⟨v, rfl, h⟩
theorem w_g4 {a0 a1 a2 a3 : Option V} {x : Option V} {v : V} {r : St} {H : Hp} {Q : St → Hp → Prop} (h : Q (a0 :: a1 :: a2 :: a3 :: some v :: r) H) : gName 4 v (a0 :: a1 :: a2 :: a3 :: x :: r) H Q := h
theorem w_v5 {a0 a1 a2 a3 a4 : Option V} {v : V} {r : St} {H : Hp} {Q : VK} (h : Q v H) : tVar 5 (a0 :: a1 :: a2 :: a3 :: a4 :: some v :: r) H Q := ⟨v, rfl, h⟩
theorem w_g5 {a0 a1 a2 a3 a4 : Option V} {x : Option V} {v : V} {r : St} {H : Hp} {Q : St → Hp → Prop} (h : Q (a0 :: a1 :: a2 :: a3 :: a4 :: some v :: r) H) : gName 5 v (a0 :: a1 :: a2 :: a3 :: a4 :: x :: r) H Q := h
theorem w_v6 {a0 a1 a2 a3 a4 a5 : Option V} {v : V} {r : St} {H : Hp} {Q : VK} (h : Q v H) : tVar 6 (a0 :: a1 :: a2 :: a3 :: a4 :: a5 :: some v :: r) H Q := ⟨v, rfl, h⟩
theorem w_g6 {a0 a1 a2 a3 a4 a5 : Option V} {x : Option V} {v : V} {r : St} {H : Hp} {Q : St → Hp → Prop} (h : Q (a0 :: a1 :: a2 :: a3 :: a4 :: a5 :: some v :: r) H) : gName 6 v (a0 :: a1 :: a2 :: a3 :: a4 :: a5 :: x :: r) H Q := h
theorem w_v7 {a0 a1 a2 a3 a4 a5 a6 : Option V} {v : V} {r : St} {H : Hp} {Q : VK} (h : Q v H) : tVar 7 (a0 :: a1 :: a2 :: a3 :: a4 :: a5 :: a6 :: some v :: r) H Q := ⟨v, rfl, h⟩
theorem w_g7 {a0 a1 a2 a3 a4 a5 a6 : Option V} {x : Option V} {v : V} {r : St} {H : Hp} {Q : St → Hp → Prop} (h : Q (a0 :: a1 :: a2 :: a3 :: a4 :: a5 :: a6 :: some v :: r) H) : gName 7 v (a0 :: a1 :: a2 :: a3 :: a4 :: a5 :: a6 :: x :: r) H Q := h
theorem w_v8 {a0 a1 a2 a3 a4 a5 a6 a7 : Option V} {v : V} {r : St} {H : Hp} {Q : VK} (h : Q v H) : tVar 8 (a0 :: a1 :: a2 :: a3 :: a4 :: a5 :: a6 :: a7 :: some v :: r) H Q := ⟨v, rfl, h⟩
theorem w_g8 {a0 a1 a2 a3 a4 a5 a6 a7 : Option V} {x : Option V} {v : V} {r : St} {H : Hp} {Q : St → Hp → Prop} (h : Q (a0 :: a1 :: a2 :: a3 :: a4 :: a5 :: a6 :: a7 :: some v :: r) H) : gName 8 v (a0 :: a1 :: a2 :: a3 :: a4 :: a5 :: a6 :: a7 :: x :: r) H Q := h
theorem w_v9 {a0 a1 a2 a3 a4 a5 a6 a7 a8 : Option V} {v : V} {r : St} {H : Hp} {Q : VK} (h : Q v H) : tVar 9 (a0 :: a1 :: a2 :: a3 :: a4 :: a5 :: a6 :: a7 :: a8 :: some v :: r) H Q := ⟨v, rfl, h⟩
theorem w_g9 {a0 a1 a2 a3 a4 a5 a6 a7 a8 : Option V} {x : Option V} {v : V} {r : St} {H : Hp} {Q : St → Hp → Prop} (h : Q (a0 :: a1 :: a2 :: a3 :: a4 :: a5 :: a6 :: a7 :: a8 :: some v :: r) H) : gName 9 v (a0 :: a1 :: a2 :: a3 :: a4 :: a5 :: a6 :: a7 :: a8 :: x :: r) H Q := h
theorem w_v10 {a0 a1 a2 a3 a4 a5 a6 a7 a8 a9 : Option V} {v : V} {r : St} {H : Hp} {Q : VK} (h : Q v H) : tVar 10 (a0 :: a1 :: a2 :: a3 :: a4 :: a5 :: a6 :: a7 :: a8 :: a9 :: some v :: r) H Q := ⟨v, rfl, h⟩
theorem w_g10 {a0 a1 a2 a3 a4 a5 a6 a7 a8 a9 : Option V} {x : Option V} {v : V} {r : St} {H : Hp} {Q : St → Hp → Prop} (h : Q (a0 :: a1 :: a2 :: a3 :: a4 :: a5 :: a6 :: a7 :: a8 :: a9 :: some v :: r) H) : gName 10 v (a0 :: a1 :: a2 :: a3 :: a4 :: a5 :: a6 :: a7 :: a8 :: a9 :: x :: r) H Q := h
theorem w_v11 {a0 a1 a2 a3 a4 a5 a6 a7 a8 a9 a10 : Option V} {v : V} {r : St} {H : Hp} {Q : VK} (h : Q v H) : tVar 11 (a0 :: a1 :: a2 :: a3 :: a4 :: a5 :: a6 :: a7 :: a8 :: a9 :: a10 :: some v :: r) H Q := ⟨v, rfl, h⟩
theorem w_g11 {a0 a1 a2 a3 a4 a5 a6 a7 a8 a9 a10 : Option V} {x : Option V} {v : V} {r : St} {H : Hp} {Q : St → Hp → Prop} (h : Q (a0 :: a1 :: a2 :: a3 :: a4 :: a5 :: a6 :: a7 :: a8 :: a9 :: a10 :: some v :: r) H) : gName 11 v (a0 :: a1 :: a2 :: a3 :: a4 :: a5 :: a6 :: a7 :: a8 :: a9 :: a10 :: x :: r) H Q := h
theorem w_v12 {a0 a1 a2 a3 a4 a5 a6 a7 a8 a9 a10 a11 : Option V} {v : V} {r : St} {H : Hp} {Q : VK} (h : Q v H) : tVar 12 (a0 :: a1 :: a2 :: a3 :: a4 :: a5 :: a6 :: a7 :: a8 :: a9 :: a10 :: a11 :: some v :: r) H Q := ⟨v, rfl, h⟩
theorem w_g12 {a0 a1 a2 a3 a4 a5 a6 a7 a8 a9 a10 a11 : Option V} {x : Option V} {v : V} {r : St} {H : Hp} {Q : St → Hp → Prop} (h : Q (a0 :: a1 :: a2 :: a3 :: a4 :: a5 :: a6 :: a7 :: a8 :: a9 :: a10 :: a11 :: some v :: r) H) : gName 12 v (a0 :: a1 :: a2 :: a3 :: a4 :: a5 :: a6 :: a7 :: a8 :: a9 :: a10 :: a11 :: x :: r) H Q := h
theorem w_v13 {a0 a1 a2 a3 a4 a5 a6 a7 a8 a9 a10 a11 a12 : Option V} {v : V} {r : St} {H : Hp} {Q : VK} (h : Q v H) : tVar 13 (a0 :: a1 :: a2 :: a3 :: a4 :: a5 :: a6 :: a7 :: a8 :: a9 :: a10 :: a11 :: a12 :: some v :: r) H Q := ⟨v, rfl, h⟩
theorem w_g13 {a0 a1 a2 a3 a4 a5 a6 a7 a8 a9 a10 a11 a12 : Option V} {x : Option V} {v : V} {r : St} {H : Hp} {Q : St → Hp → Prop} (h : Q (a0 :: a1 :: a2 :: a3 :: a4 :: a5 :: a6 :: a7 :: a8 :: a9 :: a10 :: a11 :: a12 :: some v :: r) H) : gName 13 v (a0 :: a1 :: a2 :: a3 :: a4 :: a5 :: a6 :: a7 :: a8 :: a9 :: a10 :: a11 :: a12 :: x :: r) H Q := h
theorem w_v14 {a0 a1 a2 a3 a4 a5 a6 a7 a8 a9 a10 a11 a12 a13 : Option V} {v : V} {r : St} {H : Hp} {Q : VK} (h : Q v H) : tVar 14 (a0 :: a1 :: a2 :: a3 :: a4 :: a5 :: a6 :: a7 :: a8 :: a9 :: a10 :: a11 :: a12 :: a13 :: some v :: r) H Q := ⟨v, rfl, h⟩
theorem w_g14 {a0 a1 a2 a3 a4 a5 a6 a7 a8 a9 a10 a11 a12 a13 : Option V} {x : Option V} {v : V} {r : St} {H : Hp} {Q : St → Hp → Prop} (h : Q (a0 :: a1 :: a2 :: a3 :: a4 :: a5 :: a6 :: a7 :: a8 :: a9 :: a10 :: a11 :: a12 :: a13 :: some v :: r) H) : gName 14 v (a0 :: a1 :: a2 :: a3 :: a4 :: a5 :: a6 :: a7 :: a8 :: a9 :: a10 :: a11 :: a12 :: a13 :: x :: r) H Q := h
theorem w_v15 {a0 a1 a2 a3 a4 a5 a6 a7 a8 a9 a10 a11 a12 a13 a14 : Option V} {v : V} {r : St} {H : Hp} {Q : VK} (h : Q v H) : tVar 15 (a0 :: a1 :: a2 :: a3 :: a4 :: a5 :: a6 :: a7 :: a8 :: a9 :: a10 :: a11 :: a12 :: a13 :: a14 :: some v :: r) H Q := ⟨v, rfl, h⟩
theorem w_g15 {a0 a1 a2 a3 a4 a5 a6 a7 a8 a9 a10 a11 a12 a13 a14 : Option V} {x : Option V} {v : V} {r : St} {H : Hp} {Q : St → Hp → Prop} (h : Q (a0 :: a1 :: a2 :: a3 :: a4 :: a5 :: a6 :: a7 :: a8 :: a9 :: a10 :: a11 :: a12 :: a13 :: a14 :: some v :: r) H) : gName 15 v (a0 :: a1 :: a2 :: a3 :: a4 :: a5 :: a6 :: a7 :: a8 :: a9 :: a10 :: a11 :: a12 :: a13 :: a14 :: x :: r) H Q := h
theorem w_v16 {a0 a1 a2 a3 a4 a5 a6 a7 a8 a9 a10 a11 a12 a13 a14 a15 : Option V} {v : V} {r : St} {H : Hp} {Q : VK} (h : Q v H) : tVar 16 (a0 :: a1 :: a2 :: a3 :: a4 :: a5 :: a6 :: a7 :: a8 :: a9 :: a10 :: a11 :: a12 :: a13 :: a14 :: a15 :: some v :: r) H Q := ⟨v, rfl, h⟩
theorem w_g16 {a0 a1 a2 a3 a4 a5 a6 a7 a8 a9 a10 a11 a12 a13 a14 a15 : Option V} {x : Option V} {v : V} {r : St} {H : Hp} {Q : St → Hp → Prop} (h : Q (a0 :: a1 :: a2 :: a3 :: a4 :: a5 :: a6 :: a7 :: a8 :: a9 :: a10 :: a11 :: a12 :: a13 :: a14 :: a15 :: some v :: r) H) : gName 16 v (a0 :: a1 :: a2 :: a3 :: a4 :: a5 :: a6 :: a7 :: a8 :: a9 :: a10 :: a11 :: a12 :: a13 :: a14 :: a15 :: x :: r) H Q := h
theorem w_v17 {a0 a1 a2 a3 a4 a5 a6 a7 a8 a9 a10 a11 a12 a13 a14 a15 a16 : Option V} {v : V} {r : St} {H : Hp} {Q : VK} (h : Q v H) : tVar 17 (a0 :: a1 :: a2 :: a3 :: a4 :: a5 :: a6 :: a7 :: a8 :: a9 :: a10 :: a11 :: a12 :: a13 :: a14 :: a15 :: a16 :: some v :: r) H Q := ⟨v, rfl, h⟩
theorem w_g17 {a0 a1 a2 a3 a4 a5 a6 a7 a8 a9 a10 a11 a12 a13 a14 a15 a16 : Option V} {x : Option V} {v : V} {r : St} {H : Hp} {Q : St → Hp → Prop} (h : Q (a0 :: a1 :: a2 :: a3 :: a4 :: a5 :: a6 :: a7 :: a8 :: a9 :: a10 :: a11 :: a12 :: a13 :: a14 :: a15 :: a16 :: some v :: r) H) : gName 17 v (a0 :: a1 :: a2 :: a3 :: a4 :: a5 :: a6 :: a7 :: a8 :: a9 :: a10 :: a11 :: a12 :: a13 :: a14 :: a15 :: a16 :: x :: r) H Q := h
theorem w_v18 {a0 a1 a2 a3 a4 a5 a6 a7 a8 a9 a10 a11 a12 a13 a14 a15 a16 a17 : Option V} {v : V} {r : St} {H : Hp} {Q : VK} (h : Q v H) : tVar 18 (a0 :: a1 :: a2 :: a3 :: a4 :: a5 :: a6 :: a7 :: a8 :: a9 :: a10 :: a11 :: a12 :: a13 :: a14 :: a15 :: a16 :: a17 :: some v :: r) H Q := ⟨v, rfl, h⟩
theorem w_g18 {a0 a1 a2 a3 a4 a5 a6 a7 a8 a9 a10 a11 a12 a13 a14 a15 a16 a17 : Option V} {x : Option V} {v : V} {r : St} {H : Hp} {Q : St → Hp → Prop} (h : Q (a0 :: a1 :: a2 :: a3 :: a4 :: a5 :: a6 :: a7 :: a8 :: a9 :: a10 :: a11 :: a12 :: a13 :: a14 :: a15 :: a16 :: a17 :: some v :: r) H) : gName 18 v (a0 :: a1 :: a2 :: a3 :: a4 :: a5 :: a6 :: a7 :: a8 :: a9 :: a10 :: a11 :: a12 :: a13 :: a14 :: a15 :: a16 :: a17 :: x :: r) H Q := h
theorem w_v19 {a0 a1 a2 a3 a4 a5 a6 a7 a8 a9 a10 a11 a12 a13 a14 a15 a16 a17 a18 : Option V} {v : V} {r : St} {H : Hp} {Q : VK} (h : Q v H) : tVar 19 (a0 :: a1 :: a2 :: a3 :: a4 :: a5 :: a6 :: a7 :: a8 :: a9 :: a10 :: a11 :: a12 :: a13 :: a14 :: a15 :: a16 :: a17 :: a18 :: some v :: r) H Q := ⟨v, rfl, h⟩
theorem w_g19 {a0 a1 a2 a3 a4 a5 a6 a7 a8 a9 a10 a11 a12 a13 a14 a15 a16 a17 a18 : Option V} {x : Option V} {v : V} {r : St} {H : Hp} {Q : St → Hp → Prop} (h : Q (a0 :: a1 :: a2 :: a3 :: a4 :: a5 :: a6 :: a7 :: a8 :: a9 :: a10 :: a11 :: a12 :: a13 :: a14 :: a15 :: a16 :: a17 :: a18 :: some v :: r) H) : gName 19 v (a0 :: a1 :: a2 :: a3 :: a4 :: a5 :: a6 :: a7 :: a8 :: a9 :: a10 :: a11 :: a12 :: a13 :: a14 :: a15 :: a16 :: a17 :: a18 :: x :: r) H Q := h
theorem w_v20 {a0 a1 a2 a3 a4 a5 a6 a7 a8 a9 a10 a11 a12 a13 a14 a15 a16 a17 a18 a19 : Option V} {v : V} {r : St} {H : Hp} {Q : VK} (h : Q v H) : tVar 20 (a0 :: a1 :: a2 :: a3 :: a4 :: a5 :: a6 :: a7 :: a8 :: a9 :: a10 :: a11 :: a12 :: a13 :: a14 :: a15 :: a16 :: a17 :: a18 :: a19 :: some v :: r) H Q := ⟨v, rfl, h⟩
theorem w_g20 {a0 a1 a2 a3 a4 a5 a6 a7 a8 a9 a10 a11 a12 a13 a14 a15 a16 a17 a18 a19 : Option V} {x : Option V} {v : V} {r : St} {H : Hp} {Q : St → Hp → Prop} (h : Q (a0 :: a1 :: a2 :: a3 :: a4 :: a5 :: a6 :: a7 :: a8 :: a9 :: a10 :: a11 :: a12 :: a13 :: a14 :: a15 :: a16 :: a17 :: a18 :: a19 :: some v :: r) H) : gName 20 v (a0 :: a1 :: a2 :: a3 :: a4 :: a5 :: a6 :: a7 :: a8 :: a9 :: a10 :: a11 :: a12 :: a13 :: a14 :: a15 :: a16 :: a17 :: a18 :: a19 :: x :: r) H Q := h
theorem w_v21 {a0 a1 a2 a3 a4 a5 a6 a7 a8 a9 a10 a11 a12 a13 a14 a15 a16 a17 a18 a19 a20 : Option V} {v : V} {r : St} {H : Hp} {Q : VK} (h : Q v H) : tVar 21 (a0 :: a1 :: a2 :: a3 :: a4 :: a5 :: a6 :: a7 :: a8 :: a9 :: a10 :: a11 :: a12 :: a13 :: a14 :: a15 :: a16 :: a17 :: a18 :: a19 :: a20 :: some v :: r) H Q := ⟨v, rfl, h⟩
theorem w_g21 {a0 a1 a2 a3 a4 a5 a6 a7 a8 a9 a10 a11 a12 a13 a14 a15 a16 a17 a18 a19 a20 : Option V} {x : Option V} {v : V} {r : St} {H : Hp} {Q : St → Hp → Prop} (h : Q (a0 :: a1 :: a2 :: a3 :: a4 :: a5 :: a6 :: a7 :: a8 :: a9 :: a10 :: a11 :: a12 :: a13 :: a14 :: a15 :: a16 :: a17 :: a18 :: a19 :: a20 :: some v :: r) H) : gName 21 v (a0 :: a1 :: a2 :: a3 :: a4 :: a5 :: a6 :: a7 :: a8 :: a9 :: a10 :: a11 :: a12 :: a13 :: a14 :: a15 :: a16 :: a17 :: a18 :: a19 :: a20 :: x :: r) H Q := h
theorem w_v22 {a0 a1 a2 a3 a4 a5 a6 a7 a8 a9 a10 a11 a12 a13 a14 a15 a16 a17 a18 a19 a20 a21 : Option V} {v : V} {r : St} {H : Hp} {Q : VK} (h : Q v H) : tVar 22 (a0 :: a1 :: a2 :: a3 :: a4 :: a5 :: a6 :: a7 :: a8 :: a9 :: a10 :: a11 :: a12 :: a13 :: a14 :: a15 :: a16 :: a17 :: a18 :: a19 :: a20 :: a21 :: some v :: r) H Q := ⟨v, rfl, h⟩
theorem w_g22 {a0 a1 a2 a3 a4 a5 a6 a7 a8 a9 a10 a11 a12 a13 a14 a15 a16 a17 a18 a19 a20 a21 : Option V} {x : Option V} {v : V} {r : St} {H : Hp} {Q : St → Hp → Prop} (h : Q (a0 :: a1 :: a2 :: a3 :: a4 :: a5 :: a6 :: a7 :: a8 :: a9 :: a10 :: a11 :: a12 :: a13 :: a14 :: a15 :: a16 :: a17 :: a18 :: a19 :: a20 :: a21 :: some v :: r) H) : gName 22 v (a0 :: a1 :: a2 :: a3 :: a4 :: a5 :: a6 :: a7 :: a8 :: a9 :: a10 :: a11 :: a12 :: a13 :: a14 :: a15 :: a16 :: a17 :: a18 :: a19 :: a20 :: a21 :: x :: r) H Q := h
theorem w_v23 {a0 a1 a2 a3 a4 a5 a6 a7 a8 a9 a10 a11 a12 a13 a14 a15 a16 a17 a18 a19 a20 a21 a22 : Option V} {v : V} {r : St} {H : Hp} {Q : VK} (h : Q v H) : tVar 23 (a0 :: a1 :: a2 :: a3 :: a4 :: a5 :: a6 :: a7 :: a8 :: a9 :: a10 :: a11 :: a12 :: a13 :: a14 :: a15 :: a16 :: a17 :: a18 :: a19 :: a20 :: a21 :: a22 :: some v :: r) H Q := ⟨v, rfl, h⟩
theorem w_g23 {a0 a1 a2 a3 a4 a5 a6 a7 a8 a9 a10 a11 a12 a13 a14 a15 a16 a17 a18 a19 a20 a21 a22 : Option V} {x : Option V} {v : V} {r : St} {H : Hp} {Q : St → Hp → Prop} (h : Q (a0 :: a1 :: a2 :: a3 :: a4 :: a5 :: a6 :: a7 :: a8 :: a9 :: a10 :: a11 :: a12 :: a13 :: a14 :: a15 :: a16 :: a17 :: a18 :: a19 :: a20 :: a21 :: a22 :: some v :: r) H) : gName 23 v (a0 :: a1 :: a2 :: a3 :: a4 :: a5 :: a6 :: a7 :: a8 :: a9 :: a10 :: a11 :: a12 :: a13 :: a14 :: a15 :: a16 :: a17 :: a18 :: a19 :: a20 :: a21 :: a22 :: x :: r) H Q := h
theorem w_v24 {a0 a1 a2 a3 a4 a5 a6 a7 a8 a9 a10 a11 a12 a13 a14 a15 a16 a17 a18 a19 a20 a21 a22 a23 : Option V} {v : V} {r : St} {H : Hp} {Q : VK} (h : Q v H) : tVar 24 (a0 :: a1 :: a2 :: a3 :: a4 :: a5 :: a6 :: a7 :: a8 :: a9 :: a10 :: a11 :: a12 :: a13 :: a14 :: a15 :: a16 :: a17 :: a18 :: a19 :: a20 :: a21 :: a22 :: a23 :: some v :: r) H Q := ⟨v, rfl, h⟩
theorem w_g24 {a0 a1 a2 a3 a4 a5 a6 a7 a8 a9 a10 a11 a12 a13 a14 a15 a16 a17 a18 a19 a20 a21 a22 a23 : Option V} {x : Option V} {v : V} {r : St} {H : Hp} {Q : St → Hp → Prop} (h : Q (a0 :: a1 :: a2 :: a3 :: a4 :: a5 :: a6 :: a7 :: a8 :: a9 :: a10 :: a11 :: a12 :: a13 :: a14 :: a15 :: a16 :: a17 :: a18 :: a19 :: a20 :: a21 :: a22 :: a23 :: some v :: r) H) : gName 24 v (a0 :: a1 :: a2 :: a3 :: a4 :: a5 :: a6 :: a7 :: a8 :: a9 :: a10 :: a11 :: a12 :: a13 :: a14 :: a15 :: a16 :: a17 :: a18 :: a19 :: a20 :: a21 :: a22 :: a23 :: x :: r) H Q := h
theorem w_v25 {a0 a1 a2 a3 a4 a5 a6 a7 a8 a9 a10 a11 a12 a13 a14 a15 a16 a17 a18 a19 a20 a21 a22 a23 a24 : Option V} {v : V} {r : St} {H : Hp} {Q : VK} (h : Q v H) : tVar 25 (a0 :: a1 :: a2 :: a3 :: a4 :: a5 :: a6 :: a7 :: a8 :: a9 :: a10 :: a11 :: a12 :: a13 :: a14 :: a15 :: a16 :: a17 :: a18 :: a19 :: a20 :: a21 :: a22 :: a23 :: a24 :: some v :: r) H Q := ⟨v, rfl, h⟩
theorem w_g25 {a0 a1 a2 a3 a4 a5 a6 a7 a8 a9 a10 a11 a12 a13 a14 a15 a16 a17 a18 a19 a20 a21 a22 a23 a24 : Option V} {x : Option V} {v : V} {r : St} {H : Hp} {Q : St → Hp → Prop} (h : Q (a0 :: a1 :: a2 :: a3 :: a4 :: a5 :: a6 :: a7 :: a8 :: a9 :: a10 :: a11 :: a12 :: a13 :: a14 :: a15 :: a16 :: a17 :: a18 :: a19 :: a20 :: a21 :: a22 :: a23 :: a24 :: some v :: r) H) : gName 25 v (a0 :: a1 :: a2 :: a3 :: a4 :: a5 :: a6 :: a7 :: a8 :: a9 :: a10 :: a11 :: a12 :: a13 :: a14 :: a15 :: a16 :: a17 :: a18 :: a19 :: a20 :: a21 :: a22 :: a23 :: a24 :: x :: r) H Q := h
/-- the truth of a proposition, not to be reckoned out -/
noncomputable def bD (p : Prop) : Bool := @decide p (Classical.propDecidable p)
theorem bD_eq {p : Prop} [d : Decidable p] : bD p = decide p := by
  unfold bD
  congr
theorem bD_t {p : Prop} (h : p) : bD p = true := @decide_eq_true p (Classical.propDecidable p) h
theorem bD_f {p : Prop} (h : ¬ p) : bD p = false := @decide_eq_false p (Classical.propDecidable p) h
theorem bT {p : Prop} (h : bD p = true) : p := @of_decide_eq_true p (Classical.propDecidable p) h
theorem bF {p : Prop} (h : bD p = false) : ¬ p := @of_decide_eq_false p (Classical.propDecidable p) h
theorem bD_congr {p q : Prop} (h : p ↔ q) : bD p = bD q := by rw [propext h]
theorem w_dT {p : Prop} {A B : Prop} (h : p) (q : A) : if bD p = true then A else B := by rw [bD_t h]; exact iteT q
theorem w_dF {p : Prop} {A B : Prop} (h : ¬ p) (q : B) : if bD p = true then A else B := by rw [bD_f h]; exact iteF q
theorem w_nT {p : Prop} {A B : Prop} (h : ¬ p) (q : A) : if (!bD p) = true then A else B := by rw [bD_f h]; exact iteT q
theorem w_nF {p : Prop} {A B : Prop} (h : p) (q : B) : if (!bD p) = true then A else B := by rw [bD_t h]; exact iteF q
/-! ### readings, step by step -/
section
variable {K : PySem.W.Frag} {σ : St} {H : Hp} {Q : VK} {QT : Bool → Hp → Prop} {QA : List V → Hp → Prop} {QS : St → Hp → Prop} {D : Ends} {te ta tb tc : TE} {t u : TS} {tt tu : TT} {tas : TA} {g : TG} {gs : TGs} {r r' : R2} {v x y : V} {i j : Int} {a b p : Addr} {xs ys : List V} {z z' : Str}
theorem w_seq (h : t { D with nx := u D } σ H) : tSeq t u D σ H := h
theorem w_next (h : D.nx σ H) : tNext D σ H := h
theorem w_asg (h : te σ H fun x H1 => g x σ H1 D.nx) : tAsg te g D σ H := h
theorem w_c (h : Q v H) : tC v σ H Q := h
theorem w_op (h : ta σ H fun x H1 => tb σ H1 fun y H2 => r x y H2 Q) : tOp r ta tb σ H Q := h
theorem w_test (h : ta σ H fun x H' => ∃ k, x = .bl k ∧ QT k H') : tTest ta σ H QT := h
theorem w_tB (h : ta σ H fun x H' => ∃ k, x = .bl k ∧ QT k H') : tB ta σ H QT := h
theorem w_exb {R : Bool → Prop} {k : Bool} (h : R k) : ∃ k', V.bl k = .bl k' ∧ R k' := ⟨k, rfl, h⟩
theorem w_exi {R : Int → Prop} {k : Int} (h : R k) : ∃ k', V.int k = .int k' ∧ R k' := ⟨k, rfl, h⟩
theorem w_exs {R : Str → Prop} (h : R z) : ∃ k', V.str z = .str k' ∧ R k' := ⟨z, rfl, h⟩
theorem w_ifS (h : tt σ H fun b H1 => if b = true then t D σ H1 else u D σ H1) : tIfS tt t u D σ H := h
theorem w_if (h : tt σ H fun c H1 => if c = true then ta σ H1 Q else tb σ H1 Q) : tIf tt ta tb σ H Q := h
theorem w_and (h : tt σ H fun c H1 => if c = true then tu σ H1 QT else QT false H1) : tAnd tt tu σ H QT := h
theorem w_or (h : tt σ H fun c H1 => if c = true then QT true H1 else tu σ H1 QT) : tOr tt tu σ H QT := h
theorem w_not (h : tt σ H fun c H1 => QT (!c) H1) : tNot tt σ H QT := h
theorem w_andV (h : ta σ H fun x H1 => ∃ c, x = .bl c ∧ if c = true then tb σ H1 Q else Q (.bl false) H1) : tAndV ta tb σ H Q := h
theorem w_orV (h : ta σ H fun x H1 => ∃ c, x = .bl c ∧ if c = true then Q (.bl true) H1 else tb σ H1 Q) : tOrV ta tb σ H Q := h
theorem w_notV (h : ta σ H fun x H1 => ∃ c, x = .bl c ∧ Q (.bl (!c)) H1) : tNotV ta σ H Q := h
theorem w_ret (h : te σ H D.rt) : tRet te D σ H := h
theorem w_retN (h : D.rt .non H) : tRetN D σ H := h
theorem w_drop (h : te σ H fun _ H1 => D.nx σ H1) : tDrop te D σ H := h
theorem w_brk (h : D.bk σ H) : tBreak D σ H := h
theorem w_cont (h : D.ct σ H) : tCont D σ H := h
theorem w_cons {tr : TA} (h : ta σ H fun x H1 => tr σ H1 fun xs H2 => QA (x :: xs) H2) : tCons ta tr σ H QA := h
theorem w_nil (h : QA [] H) : tNil σ H QA := h
theorem w_tup (h : tas σ H fun xs H1 => xs.length ≤ sizeLine ∧ ∀ p, H1 p = none → Q (.ref p) (upd H1 p (.tup xs))) : tTup tas σ H Q := h
theorem w_lst (h : tas σ H fun xs H1 => xs.length ≤ sizeLine ∧ ∀ p, H1 p = none → Q (.ref p) (upd H1 p (.lst xs))) : tLst tas σ H Q := h
theorem w_cb {f : List V → Hp → VK → Prop} (h : tas σ H fun vs H1 => f vs H1 Q) : tCB f tas σ H Q := h
theorem w_call {sp : Sp} {E : XK} (h : tas σ H fun vs H1 => sp (vs ++ []) H1 Q E) : tCall sp [] E tas σ H Q := h
theorem w_sl {rs : V → Option Int → Option Int → Hp → VK → Prop} {tl th : TO} (h : te σ H fun x H1 => tl σ H1 fun l H2 => th σ H2 fun u H3 => rs x l u H3 Q) : tSl rs te tl th σ H Q := h
theorem w_part {Q : Option Int → Hp → Prop} (h : te σ H fun x H1 => ∃ i, x = .int i ∧ Q (some i) H1) : tPart te σ H Q := h
theorem w_nopart {Q : Option Int → Hp → Prop} (h : Q none H) : tNoPart σ H Q := h
theorem w_par {i j : Nat} (h : tas σ H fun vs H1 => ∃ v w, vs = [v, w] ∧ gName i v σ H1 fun σ' H2 => gName j w σ' H2 D.nx) : tPar i j tas D σ H := h
theorem w_par3 {i j l : Nat} (h : tas σ H fun vs H1 => ∃ u v w, vs = [u, v, w] ∧ gName i u σ H1 fun σ' H2 => gName j v σ' H2 fun σ2 H3 => gName l w σ2 H3 D.nx) : tPar3 i j l tas D σ H := h
theorem w_ex2 {R : V → V → Prop} (h : R x y) : ∃ v w, [x, y] = [v, w] ∧ R v w := ⟨x, y, rfl, h⟩
theorem w_ex3 {R : V → V → V → Prop} (h : R v x y) : ∃ u v' w, [v, x, y] = [u, v', w] ∧ R u v' w := ⟨v, x, y, rfl, h⟩
theorem w_gsub {to ti : TE} {ts : TSet} (h : to σ H fun o H1 => ti σ H1 fun i H2 => ts o i v H2 fun H3 => QS σ H3) : gSub to ti ts v σ H QS := h
theorem w_gtup {n : Nat} (h : SqT K H a xs) (hl : xs.length = n) (q : gs xs σ H QS) : gTup K n gs (.ref a) σ H QS := ⟨a, xs, rfl, h, hl, q⟩
theorem w_gcons {g : TG} (q : g v σ H fun σ' H' => gs xs σ' H' QS) : gCons g gs (v :: xs) σ H QS := ⟨v, xs, rfl, q⟩
theorem w_gnil (q : QS σ H) : gNil [] σ H QS := ⟨rfl, q⟩
theorem w_addI (h : Q (.int (i + j)) H) : rAddI (.int i) (.int j) H Q := ⟨i, j, rfl, rfl, h⟩
theorem w_subI (h : Q (.int (i - j)) H) : rSubI (.int i) (.int j) H Q := ⟨i, j, rfl, rfl, h⟩
theorem w_mulI (c : CMul i j) (h : Q (.int (i * j)) H) : rMulI (.int i) (.int j) H Q := ⟨i, j, rfl, rfl, c, h⟩
theorem w_divI (c : CDiv i j) (h : Q (.int (i / j)) H) : rDivI (.int i) (.int j) H Q := ⟨i, j, rfl, rfl, c, h⟩
theorem w_modI (c : 0 < j) (h : Q (.int (i % j)) H) : rModI (.int i) (.int j) H Q := ⟨i, j, rfl, rfl, c, h⟩
theorem w_ltI (h : Q (.bl (bD (i < j))) H) : rLtI (.int i) (.int j) H Q := ⟨i, j, rfl, rfl, by rw [bD_eq] at h; exact h⟩
theorem w_leI (h : Q (.bl (bD (i ≤ j))) H) : rLeI (.int i) (.int j) H Q := ⟨i, j, rfl, rfl, by rw [bD_eq] at h; exact h⟩
theorem w_gtI (h : Q (.bl (bD (j < i))) H) : rGtI (.int i) (.int j) H Q := ⟨i, j, rfl, rfl, by rw [bD_eq] at h; exact h⟩
theorem w_geI (h : Q (.bl (bD (j ≤ i))) H) : rGeI (.int i) (.int j) H Q := ⟨i, j, rfl, rfl, by rw [bD_eq] at h; exact h⟩
theorem w_addS (c : z.length + z'.length ≤ sizeLine) (h : Q (.str (z ++ z')) H) : rAddS (.str z) (.str z') H Q := ⟨z, z', rfl, rfl, c, h⟩
theorem w_inC {c : Nat} (h : Q (.bl (bD (c ∈ z.cps.toList))) H) : rInC (.str ⟨#[c]⟩) (.str z) H Q := ⟨c, z, rfl, rfl, by rw [bD_eq] at h; exact h⟩
theorem w_notInC {c : Nat} (h : Q (.bl (!bD (c ∈ z.cps.toList))) H) : rNotInC (.str ⟨#[c]⟩) (.str z) H Q := ⟨c, z, rfl, rfl, by rw [bD_eq] at h; exact h⟩
theorem w_isNon (h : Q (.bl (bD (x = .non))) H) : rIsNon x .non H Q := ⟨rfl, by rw [bD_eq] at h; exact h⟩
theorem w_notNon (h : Q (.bl (!bD (x = .non))) H) : rNotNon x .non H Q := ⟨rfl, by rw [bD_eq] at h; exact h⟩
theorem w_gtS (h : Q (.bl (bD (z'.cps.toList < z.cps.toList))) H) : rGtS (.str z) (.str z') H Q := ⟨z, z', rfl, rfl, by rw [bD_eq] at h; exact h⟩
theorem w_mulS (c : MulOk z i) (h : Q (.str (Txt.mul z i)) H) : rMulS (.str z) (.int i) H Q := ⟨z, i, rfl, rfl, c, h⟩
theorem w_eqI (h : Q (.bl (bD (i = j))) H) : rEq (.int i) (.int j) H Q := ⟨rfl, by rw [show decide (V.int i = V.int j) = bD (i = j) from by rw [bD_eq]; exact decide_eq_decide.mpr ⟨V.int.inj, congrArg _⟩]; exact h⟩
theorem w_neI (h : Q (.bl (!bD (i = j))) H) : rNe (.int i) (.int j) H Q := ⟨rfl, by rw [show decide (V.int i = V.int j) = bD (i = j) from by rw [bD_eq]; exact decide_eq_decide.mpr ⟨V.int.inj, congrArg _⟩]; exact h⟩
theorem w_eqS (h : Q (.bl (bD (z = z'))) H) : rEq (.str z) (.str z') H Q := ⟨rfl, by rw [show decide (V.str z = V.str z') = bD (z = z') from by rw [bD_eq]; exact decide_eq_decide.mpr ⟨V.str.inj, congrArg _⟩]; exact h⟩
theorem w_neS (h : Q (.bl (!bD (z = z'))) H) : rNe (.str z) (.str z') H Q := ⟨rfl, by rw [show decide (V.str z = V.str z') = bD (z = z') from by rw [bD_eq]; exact decide_eq_decide.mpr ⟨V.str.inj, congrArg _⟩]; exact h⟩
theorem w_eqV (c : scal x y = true) (h : Q (.bl (decide (x = y))) H) : rEq x y H Q := ⟨c, h⟩
theorem w_neV (c : scal x y = true) (h : Q (.bl (!decide (x = y))) H) : rNe x y H Q := ⟨c, h⟩
theorem w_ixL (h : SqL K H p xs) (e : atI xs i = some v) (q : Q v H) : rIxL K (.ref p) (.int i) H Q := ⟨p, xs, i, v, rfl, rfl, h, e, q⟩
theorem w_ixT (h : SqT K H p xs) (e : atI xs i = some v) (q : Q v H) : rIxT K (.ref p) (.int i) H Q := ⟨p, xs, i, v, rfl, rfl, h, e, q⟩
theorem w_lenL (h : SqL K H p xs) (q : Q (.int xs.length) H) : rLenQ K [.ref p] H Q := ⟨p, xs, rfl, .inl h, q⟩
theorem w_lenT (h : SqT K H p xs) (q : Q (.int xs.length) H) : rLenQ K [.ref p] H Q := ⟨p, xs, rfl, .inr h, q⟩
theorem w_lenS (h : z.length ≤ sizeLine) (q : Q (.int z.length) H) : rLenT [.str z] H Q := ⟨z, rfl, h, q⟩
theorem w_max2 (q : Q (.int (if j > i then j else i)) H) : rMax2 [.int i, .int j] H Q := ⟨i, j, rfl, q⟩
theorem w_min2 (q : Q (.int (if j < i then j else i)) H) : rMin2 [.int i, .int j] H Q := ⟨i, j, rfl, q⟩
theorem w_intB {k : Bool} (q : Q (.int (if k then 1 else 0)) H) : rIntQ [.bl k] H Q := .inr ⟨k, rfl, q⟩
theorem w_bm {T : String} {f : V → List V → Hp → VK → Prop} {to : TE} (h : to σ H fun x H1 => tyV K T x H1 ∧ tas σ H1 fun xs H2 => f x xs H2 Q) : tBM K T f to tas σ H Q := h
theorem w_bm0 {T : String} {f : V → List V → Hp → VK → Prop} {to : TE} (h : to σ H fun x H1 => tyV K T x H1 ∧ f x [] H1 Q) : tBM0 K T f to σ H Q := h
theorem w_tyL {R : Prop} (h : SqL K H p xs) (q : R) : tyV K "list" (.ref p) H ∧ R := ⟨.inl ⟨rfl, xs, h⟩, q⟩
theorem w_append (h : H p = some (.lst xs)) (hz : xs.length < sizeLine) (q : Q .non (upd H p (.lst (xs ++ [v])))) : rAppend (.ref p) [v] H Q := ⟨p, xs, v, rfl, rfl, h, hz, q⟩
theorem w_join1 {f : V → List V → Hp → VK → Prop} {to : TE} (h : to σ H fun x H1 => (∃ a, x = .str a) ∧ te σ H1 fun y H2 => f x [y] H2 Q) : tM1 f to te σ H Q := h
theorem w_isStr {R : Prop} (q : R) : (∃ a, V.str z = .str a) ∧ R := ⟨⟨z, rfl⟩, q⟩
theorem w_for {wi : TI} {tb : TS} (h : wi σ H fun J H1 => ∃ W : Nat → Nat → St → Hp → Prop, (∃ m, W 0 m σ H1) ∧ ∀ i m σ H, W i m σ H →
      (J.stop i H ∧ D.nx σ H) ∨ (J.go i H ∧ ∃ N : St → Hp → Prop, (∀ σ' H', N σ' H' → ∃ m', m' < m ∧ W (i + 1) m' σ' H') ∧ ∀ x H', J.yld i H x H' → g x σ H' fun σ2 H2 => tb { D with nx := N, ct := N, bk := D.nx } σ2 H2)) : tFor wi g tb D σ H := h
theorem w_iT {R : It → Hp → Prop} (h : te σ H fun x H1 => ∃ a, x = .ref a ∧ (∃ xs, SqT K H1 a xs) ∧ R (Itt K a) H1) : iTup K te σ H R := h
theorem w_iL {R : It → Hp → Prop} (h : te σ H fun x H1 => ∃ a, x = .ref a ∧ (∃ xs, SqL K H1 a xs) ∧ R (Itl K a) H1) : iList K te σ H R := h
theorem w_iS {R : It → Hp → Prop} (h : te σ H fun v H1 => ∃ x, v = .str x ∧ R (Its x) H1) : iStr te σ H R := h
theorem w_iR1 {R : It → Hp → Prop} (h : tas σ H fun vs H1 => ∃ j : Int, vs = [.int j] ∧ -(2 ^ 62) ≤ j ∧ j < 2 ^ 62 ∧ R (Itr 0 j.toNat) H1) : iRng1 tas σ H R := h
theorem w_iR2 {R : It → Hp → Prop} (h : tas σ H fun vs H1 => ∃ i j : Int, vs = [.int i, .int j] ∧ (-(2 ^ 62) ≤ i ∧ i < 2 ^ 62 ∧ -(2 ^ 62) ≤ j ∧ j < 2 ^ 62) ∧ R (Itr i (j - i).toNat) H1) : iRng2 tas σ H R := h
theorem w_exT {R : Addr → Prop} (h : SqT K H p xs) (q : R p) : ∃ a, V.ref p = .ref a ∧ (∃ xs, SqT K H a xs) ∧ R a := ⟨p, rfl, ⟨xs, h⟩, q⟩
theorem w_exL {R : Addr → Prop} (h : SqL K H p xs) (q : R p) : ∃ a, V.ref p = .ref a ∧ (∃ xs, SqL K H a xs) ∧ R a := ⟨p, rfl, ⟨xs, h⟩, q⟩
end
end HH
namespace L2
open PySem PySem.Spec
/-! ### defs of the top -/
structure DefOk (P : Program) (w : World) (K : PySem.W.Frag) (mg : Str → Option Value) (base : Heap) (CX : CXT) (k : Nat) (x : Str) (ps : List Str) (sp : Sp) : Prop where
  ex : ∃ (f : Addr) (fd : FuncData), FnOk P w K mg base CX k f fd ps sp ∧ mg x = some (.ref f) ∧ PySem.W.keepIn K (.ref f) = true ∧ Binds K fd ps []
theorem DefOk.of {P : Program} {w : World} {K : PySem.W.Frag} {mg : Str → Option Value} {base : Heap} {CX : CXT} {k : Nat} {x : Str} {ps : List Str} {sp : Sp} {st : Stmt} {f : Addr} {fd : FuncData} (F : Fun K x x st f fd) (gf : mg x = some (.ref f))
    (hb : ∀ (kV doc pm : Value) (an : Option Addr) (cdv ct : Value) (us : List Value), us.length = ps.length → bindArgs (PySem.W.fnOf x x (defArgs st) (defBody st) (defScope st) .none kV doc pm an cdv ct) ⟨us, []⟩ = pure (ps.zip us))
    (ok : FnOk P w K mg base CX k f fd ps sp) : DefOk P w K mg base CX k x ps sp := ⟨f, fd, ok, gf, F.kp, F.binds hb⟩
theorem pe_d {X : Cx} {k : Nat} {ps : List Str} {sp : Sp} {x : Str} {p pos : Pos} {e : Expr} {es : List Expr} {t : TA} (D : DefOk X.prog X.w X.K X.mg X.base CX0 k x ps sp) (hr : Room k X.A) (hg : Gl X x) (ha : PA X (e :: es) t)
    (hdb : (x == ("__debug__" : Str)) = false := by decide) (he : starEach (e :: es) X.env = (false, eval e X.env) :: starEach es X.env := by rfl) (hpl : (backTo pos (starEach es X.env)).any (·.1) = false := by rfl) :
    PE X (.Call (.Name x p) (e :: es) [] pos) (tCall sp [] E0 t) := by
  obtain ⟨f, fd, F, gf, kp, b⟩ := D.ex
  exact pe_call F hr hg gf kp b .nil pass0 ha hdb he hpl
theorem pe_d0 {X : Cx} {k : Nat} {ps : List Str} {sp : Sp} {x : Str} {p pos : Pos} (D : DefOk X.prog X.w X.K X.mg X.base CX0 k x ps sp) (hr : Room k X.A) (hg : Gl X x) (hdb : (x == ("__debug__" : Str)) = false := by decide) :
    PE X (.Call (.Name x p) [] [] pos) (tCall sp [] E0 tNil) := by
  obtain ⟨f, fd, F, gf, kp, b⟩ := D.ex
  exact pe_call0 F hr hg gf kp b .nil pass0 hdb

/-! ### heaps -/
section
variable {K : PySem.W.Frag} {H H1 H2 H' : Hp} {a b c p : Addr} {xs ys : List V} {o u : HO} {x v : V} {d : PyData}
theorem same_new (h : H p = none) : Same H (upd H p o) := fun b x e => by
  rw [upd_ne (ne_of_none e h)]
  exact e
/-- an object that H does not know is changed -/
theorem same_mut (s : Same H H1) (h : H p = none) : Same H (upd H1 p o) := fun b x e => by
  rw [upd_ne (ne_of_none e h)]
  exact s b x e
theorem Same.rd (s : Same H H') (h : Rd H a u) : Rd H' a u := by
  rcases h with h | ⟨o, h⟩
  · exact .inl (s _ _ h)
  · exact .inr ⟨o, s _ _ h⟩
theorem Same.sqT (s : Same H H') (h : SqT K H a xs) : SqT K H' a xs := by
  rcases h with h | h
  · exact .inl (s.rd h)
  · exact .inr h
theorem sqL_at (h : H a = some (.lst xs)) : SqL K H a xs := .inl (.inl h)
theorem sqT_at (h : H a = some (.tup xs)) : SqT K H a xs := .inl (.inl h)
theorem sqL_new : SqL K (upd H a (.lst xs)) a xs := sqL_at upd_same
theorem sqT_new : SqT K (upd H a (.tup xs)) a xs := sqT_at upd_same
theorem szOk (n : Nat) (h : n ≤ 10000000 := by first | decide | omega) : n ≤ sizeLine := Nat.le_trans h (by decide)
theorem szLt (n : Nat) (h : n < 10000000 := by first | decide | omega) : n < sizeLine := Nat.lt_of_lt_of_le h (by decide)
/-- the tuples stay -/
def Tp (K : PySem.W.Frag) (H H' : Hp) : Prop := ∀ a xs, SqT K H a xs → SqT K H' a xs
theorem Same.tp (s : Same H H') : Tp K H H' := fun _ _ h => s.sqT h
theorem Tp.refl : Tp K H H := fun _ _ h => h
theorem Tp.trans (s : Tp K H H1) (t : Tp K H1 H2) : Tp K H H2 := fun _ _ h => t _ _ (s _ _ h)
mutual
theorem Same.dp (s : Same H H') : ∀ (d : PyData) (v : V), Dp K H v d → Dp K H' v d
  | .none, _, h => by cases h; exact .non
  | .bool b, _, h => by cases h; exact .bl b
  | .int i, _, h => by cases h; exact .int i
  | .str x, _, h => by cases h; exact .str x
  | .list ds, _, h => by
    cases h with
    | lst hs ha => exact .lst (s.seq hs) (Same.dpAll s ds _ ha)
  | .tuple ds, _, h => by
    cases h with
    | tup hs ha => exact .tup (s.sqT hs) (Same.dpAll s ds _ ha)
  | .dict _, _, h => by cases h
theorem Same.dpAll (s : Same H H') : ∀ (ds : List PyData) (vs : List V), DpAll K H vs ds → DpAll K H' vs ds
  | [], _, h => by cases h; exact .nil
  | d :: ds, _, h => by
    cases h with
    | cons h1 h2 => exact .cons (Same.dp s d _ h1) (Same.dpAll s ds _ h2)
end
theorem Same.dat (s : Same H H') (h : Dp K H v d) : Dp K H' v d := s.dp d v h
mutual
/-- no list within -/
def noL : PyData → Bool
  | .none => true
  | .bool _ => true
  | .int _ => true
  | .str _ => true
  | .list _ => false
  | .tuple ds => noLs ds
  | .dict _ => false
def noLs : List PyData → Bool
  | [] => true
  | d :: ds => noL d && noLs ds
end
mutual
theorem Tp.dp (s : Tp K H H') : ∀ (d : PyData) (v : V), noL d = true → Dp K H v d → Dp K H' v d
  | .none, _, _, h => by cases h; exact .non
  | .bool b, _, _, h => by cases h; exact .bl b
  | .int i, _, _, h => by cases h; exact .int i
  | .str x, _, _, h => by cases h; exact .str x
  | .list ds, _, n, h => by cases (show false = true from n)
  | .tuple ds, _, n, h => by
    cases h with
    | tup hs ha => exact .tup (s _ _ hs) (Tp.dpAll s ds _ n ha)
  | .dict _, _, _, h => by cases h
theorem Tp.dpAll (s : Tp K H H') : ∀ (ds : List PyData) (vs : List V), noLs ds = true → DpAll K H vs ds → DpAll K H' vs ds
  | [], _, _, h => by cases h; exact .nil
  | d :: ds, _, n, h => by
    cases h with
    | cons h1 h2 =>
      have n' : (noL d && noLs ds) = true := n
      rw [Bool.and_eq_true] at n'
      exact .cons (Tp.dp s d _ n'.1 h1) (Tp.dpAll s ds _ n'.2 h2)
end
theorem DpAll.len : ∀ {vs : List V} {ds : List PyData}, DpAll K H vs ds → vs.length = ds.length
  | _, _, .nil => rfl
  | _, _, .cons _ t => congrArg (· + 1) t.len
theorem DpAll.get : ∀ {vs : List V} {ds : List PyData} {i : Nat} {v : V}, DpAll K H vs ds → vs[i]? = some v → ∃ d, ds[i]? = some d ∧ Dp K H v d
  | _, _, _, _, .nil, e => by simp at e
  | _, _, 0, _, .cons h _, e => by simp at e; subst e; exact ⟨_, rfl, h⟩
  | _, _, i + 1, v, .cons _ t, e => by
    obtain ⟨d, h1, h2⟩ := DpAll.get (i := i) t (by simpa using e)
    exact ⟨d, by simpa using h1, h2⟩
theorem DpAll.get' {vs : List V} {ds : List PyData} {i : Nat} {d : PyData} (h : DpAll K H vs ds) (e : ds[i]? = some d) : ∃ v, vs[i]? = some v ∧ Dp K H v d := by
  have hi : i < ds.length := (List.getElem?_eq_some_iff.mp e).1
  have hv : i < vs.length := by rw [h.len]; exact hi
  obtain ⟨d', e', q⟩ := h.get (List.getElem?_eq_getElem hv)
  rw [e] at e'
  cases e'
  exact ⟨_, List.getElem?_eq_getElem hv, q⟩
theorem DpAll.app : ∀ {vs ws : List V} {ds es : List PyData}, DpAll K H vs ds → DpAll K H ws es → DpAll K H (vs ++ ws) (ds ++ es)
  | _, _, _, _, .nil, s => s
  | _, _, _, _, .cons r t, s => .cons r (DpAll.app t s)
theorem DpAll.take : ∀ {vs : List V} {ds : List PyData} (n : Nat), DpAll K H vs ds → DpAll K H (vs.take n) (ds.take n)
  | _, _, 0, _ => .nil
  | _, _, _ + 1, .nil => .nil
  | _, _, n + 1, .cons r t => .cons r (DpAll.take n t)
theorem DpAll.drop : ∀ {vs : List V} {ds : List PyData} (n : Nat), DpAll K H vs ds → DpAll K H (vs.drop n) (ds.drop n)
  | _, _, 0, r => r
  | _, _, _ + 1, .nil => .nil
  | _, _, n + 1, .cons _ t => DpAll.drop n t
theorem DpAll.rev : ∀ {vs : List V} {ds : List PyData}, DpAll K H vs ds → DpAll K H vs.reverse ds.reverse
  | _, _, .nil => .nil
  | _, _, .cons r t => by
    rw [List.reverse_cons, List.reverse_cons]
    exact DpAll.app t.rev (.cons r .nil)
theorem dp_int {i : Int} (h : Dp K H v (.int i)) : v = .int i := by cases h; rfl
theorem dp_str {z : Str} (h : Dp K H v (.str z)) : v = .str z := by cases h; rfl
theorem dp_tup {ds : List PyData} (h : Dp K H v (.tuple ds)) : ∃ a xs, v = .ref a ∧ SqT K H a xs ∧ DpAll K H xs ds := by
  cases h with
  | tup hs ha => exact ⟨_, _, rfl, hs, ha⟩
theorem dp_lst {ds : List PyData} (h : Dp K H v (.list ds)) : ∃ a xs, v = .ref a ∧ SqL K H a xs ∧ DpAll K H xs ds := by
  cases h with
  | lst hs ha => exact ⟨_, _, rfl, hs, ha⟩

/-! ### a list changed: all else stays -/
structure Mv (b : Addr) (H H' : Hp) : Prop where
  but : ∀ a o, a ≠ b → H a = some o → H' a = some o
  l0 : ∃ xs, H b = some (.lst xs)
  l1 : ∃ xs, H' b = some (.lst xs)
theorem Mv.of_same (s : Same H H') (h : H b = some (.lst xs)) : Mv b H H' := ⟨fun a o _ e => s a o e, ⟨xs, h⟩, ⟨xs, s _ _ h⟩⟩
theorem Mv.trans (s : Mv b H H1) (t : Mv b H1 H2) : Mv b H H2 := ⟨fun a o n e => t.but a o n (s.but a o n e), s.l0, t.l1⟩
theorem Mv.same (s : Mv b H H1) (t : Same H1 H2) : Mv b H H2 := by
  obtain ⟨xs, h⟩ := s.l1
  exact s.trans (.of_same t h)
theorem Mv.set (s : Mv b H H1) : Mv b H (upd H1 b (.lst xs)) := ⟨fun a o n e => by rw [upd_ne n]; exact s.but a o n e, s.l0, xs, upd_same⟩
theorem Mv.none (s : Mv b H H') (h : H' p = none) : H p = none := by
  cases e : H p with
  | none => rfl
  | some o =>
    by_cases hb : p = b
    · obtain ⟨xs, q⟩ := s.l1
      rw [hb, q] at h
      cases h
    · rw [s.but p o hb e] at h
      cases h
theorem Mv.sqT (s : Mv b H H') (h : SqT K H a xs) : SqT K H' a xs := by
  obtain ⟨ys, q⟩ := s.l0
  rcases h with (h | ⟨o, h⟩) | h
  · exact .inl (.inl (s.but a _ (fun e => by rw [e, q] at h; cases h) h))
  · exact .inl (.inr ⟨o, s.but a _ (fun e => by rw [e, q] at h; cases h) h⟩)
  · exact .inr h
theorem Mv.tp (s : Mv b H H') : Tp K H H' := fun _ _ h => s.sqT h
theorem Mv.sqL (s : Mv b H H') (n : a ≠ b) (h : SqL K H a xs) : SqL K H' a xs := by
  rcases h with (h | ⟨o, h⟩) | h
  · exact .inl (.inl (s.but a _ n h))
  · exact .inl (.inr ⟨o, s.but a _ n h⟩)
  · exact .inr h
end
end L2
namespace HH
open PySem PySem.Spec L2
theorem w_chain {r r' : R2} {ta tb tc : TE} {σ : St} {H : Hp} {Q : VK} (h : ta σ H fun x H1 => tb σ H1 fun y H2 => r x y H2 fun z H3 => ∃ k, z = .bl k ∧ (if k = true then tc σ H3 fun w' H4 => r' y w' H4 Q else Q (.bl false) H3)) : tChain r r' ta tb tc σ H Q := h
theorem w_ifB {b : Bool} {A B : Prop} (h1 : b = true → A) (h2 : b = false → B) : if b = true then A else B := by
  cases b with
  | true => exact h1 rfl
  | false => exact h2 rfl
theorem w_all {K : PySem.W.Frag} {H : Hp} {Q : VK} {a : Addr} (bs : List Bool) (h : SqL K H a (bs.map V.bl)) (q : Q (.bl (bs.all id)) H) : rAll K [.ref a] H Q := ⟨a, bs, rfl, h, q⟩
theorem w_inT {K : PySem.W.Frag} {neg : Bool} {H : Hp} {Q : VK} {p : Addr} {x : V} {xs : List V} (h : SqT K H p xs) (hx : flatV x = true) (ha : xs.all flatV = true) (q : Q (.bl (if neg then !inV x xs else inV x xs)) H) : rIn K neg x (.ref p) H Q :=
  ⟨p, xs, rfl, .inr h, hx, ha, q⟩
theorem w_inL {K : PySem.W.Frag} {neg : Bool} {H : Hp} {Q : VK} {p : Addr} {x : V} {xs : List V} (h : SqL K H p xs) (hx : flatV x = true) (ha : xs.all flatV = true) (q : Q (.bl (if neg then !inV x xs else inV x xs)) H) : rIn K neg x (.ref p) H Q :=
  ⟨p, xs, rfl, .inl h, hx, ha, q⟩
theorem w_lc {wi : TI} {g : TG} {tt : TT} {te : TE} {vs : List Nat} {σ : St} {H : Hp} {Q : VK} (h : wi σ H fun J H1 => ∀ D, H1 D = none → ∃ W : Nat → Nat → Hp → Prop, (∃ m, W 0 m (upd H1 D (.lst []))) ∧ ∀ i m H, W i m H →
      (J.stop i H ∧ Q (.ref D) H) ∨ (J.go i H ∧ ∃ Nx : Hp → Prop, (∀ H', Nx H' → ∃ m', m' < m ∧ W (i + 1) m' H') ∧ ∀ x H', J.yld i H x H' → g x (wipe σ vs) H' fun σ2 H2 => wipe σ2 vs = wipe σ vs ∧ tt σ2 H2 fun b H3 =>
        if b = true then te σ2 H3 fun y H4 => ∃ acc, H4 D = some (.lst acc) ∧ acc.length < sizeLine ∧ Nx (upd H4 D (.lst (acc ++ [y]))) else Nx H3)) : tLc wi g tt te vs σ H Q := h
theorem w_yes {σ : St} {H : Hp} {Q : Bool → Hp → Prop} (h : Q true H) : tYes σ H Q := h
end HH
namespace HH
open PySem PySem.Spec L2
/-- between two turns of a comprehension that leaves all that stood: the new list at D is out i -/
def LcP (H1 : Hp) (D : Addr) (out : Nat → List V) (i : Nat) (H : Hp) : Prop := Same H1 H ∧ H D = some (.lst (out i))
theorem lc_put {H1 H H4 : Hp} {D : Addr} {out : Nat → List V} {i : Nat} {y : V} (nD : H1 D = none) (p : LcP H1 D out i H) (s : Same H H4) (hz : (out i).length < sizeLine) (e : out (i + 1) = out i ++ [y]) :
    ∃ acc, H4 D = some (.lst acc) ∧ acc.length < sizeLine ∧ LcP H1 D out (i + 1) (upd H4 D (.lst (acc ++ [y]))) :=
  ⟨out i, s _ _ p.2, hz, same_mut (p.1.trans s) nD, by rw [upd_same, e]⟩
theorem lc_skip {H1 H H3 : Hp} {D : Addr} {out : Nat → List V} {i : Nat} (p : LcP H1 D out i H) (s : Same H H3) (e : out (i + 1) = out i) : LcP H1 D out (i + 1) H3 :=
  ⟨p.1.trans s, by rw [e]; exact s _ _ p.2⟩
theorem lc_same {J : It} {n : Nat} {G : Hp → Prop} {Y : Nat → Hp → V → Hp → Prop} (w : Walk J n G Y) {g : TG} {tt : TT} {te : TE} {vs : List Nat} {σ : St} {H1 : Hp} {D : Addr} {Qd : Hp → Prop} (nD : H1 D = none) (σw : St) (hw : wipe σ vs = σw) (out : Nat → List V) (h0 : out 0 = []) (hG : ∀ H, Same H1 H → G H)
    (hs : ∀ i x H H', i < n → LcP H1 D out i H → Y i H x H' → g x σw H' fun σ2 H2 => wipe σ2 vs = σw ∧ tt σ2 H2 fun b H3 =>
      if b = true then te σ2 H3 fun y H4 => ∃ acc, H4 D = some (.lst acc) ∧ acc.length < sizeLine ∧ LcP H1 D out (i + 1) (upd H4 D (.lst (acc ++ [y]))) else LcP H1 D out (i + 1) H3)
    (hd : ∀ H, Same H1 H → H D = some (.lst (out n)) → Qd H) :
    ∃ W : Nat → Nat → Hp → Prop, (∃ m, W 0 m (upd H1 D (.lst []))) ∧ ∀ i m H, W i m H →
      (J.stop i H ∧ Qd H) ∨ (J.go i H ∧ ∃ Nx : Hp → Prop, (∀ H', Nx H' → ∃ m', m' < m ∧ W (i + 1) m' H') ∧ ∀ x H', J.yld i H x H' → g x (wipe σ vs) H' fun σ2 H2 => wipe σ2 vs = wipe σ vs ∧ tt σ2 H2 fun b H3 =>
        if b = true then te σ2 H3 fun y H4 => ∃ acc, H4 D = some (.lst acc) ∧ acc.length < sizeLine ∧ Nx (upd H4 D (.lst (acc ++ [y]))) else Nx H3) := by
  subst hw
  exact lc_it w (LcP H1 D out) ⟨same_new nD, by rw [upd_same, h0]⟩ (fun i H _ p => hG H p.1) (fun i x H H' hi p y => hs i x H H' hi p y) (fun H p => hd H p.1 p.2)
end HH
namespace HH
open PySem PySem.Spec L2
/-- one step of a reading -/
class Stp (P : Prop) (P' : outParam Prop) : Prop where
  h : P' → P
section
variable {K : PySem.W.Frag} {σ : St} {H : Hp} {Q : VK} {QT : Bool → Hp → Prop} {QA : List V → Hp → Prop} {QS : St → Hp → Prop} {D : Ends} {te ta tb tc : TE} {t u : TS} {tt tu : TT} {tas : TA} {g : TG} {gs : TGs} {r r' : R2} {v x y : V} {i j : Int} {a b p : Addr} {xs ys : List V} {z z' : Str}
theorem stp {P P' : Prop} [s : Stp P P'] (h : P') : P := s.h h
instance i_w_seq : Stp (tSeq t u D σ H) (t { D with nx := u D } σ H) := ⟨w_seq⟩
instance i_w_next : Stp (tNext D σ H) (D.nx σ H) := ⟨w_next⟩
instance i_w_asg : Stp (tAsg te g D σ H) (te σ H fun x H1 => g x σ H1 D.nx) := ⟨w_asg⟩
instance i_w_c : Stp (tC v σ H Q) (Q v H) := ⟨w_c⟩
instance i_w_op : Stp (tOp r ta tb σ H Q) (ta σ H fun x H1 => tb σ H1 fun y H2 => r x y H2 Q) := ⟨w_op⟩
instance i_w_test : Stp (tTest ta σ H QT) (ta σ H fun x H' => ∃ k, x = .bl k ∧ QT k H') := ⟨w_test⟩
instance i_w_tB : Stp (tB ta σ H QT) (ta σ H fun x H' => ∃ k, x = .bl k ∧ QT k H') := ⟨w_tB⟩
instance i_w_exb {R : Bool → Prop} {k : Bool} : Stp (∃ k', V.bl k = .bl k' ∧ R k') (R k) := ⟨w_exb⟩
instance i_w_exi {R : Int → Prop} {k : Int} : Stp (∃ k', V.int k = .int k' ∧ R k') (R k) := ⟨w_exi⟩
instance i_w_exs {R : Str → Prop} : Stp (∃ k', V.str z = .str k' ∧ R k') (R z) := ⟨w_exs⟩
instance i_w_ifS : Stp (tIfS tt t u D σ H) (tt σ H fun b H1 => if b = true then t D σ H1 else u D σ H1) := ⟨w_ifS⟩
instance i_w_if : Stp (tIf tt ta tb σ H Q) (tt σ H fun c H1 => if c = true then ta σ H1 Q else tb σ H1 Q) := ⟨w_if⟩
instance i_w_and : Stp (tAnd tt tu σ H QT) (tt σ H fun c H1 => if c = true then tu σ H1 QT else QT false H1) := ⟨w_and⟩
instance i_w_or : Stp (tOr tt tu σ H QT) (tt σ H fun c H1 => if c = true then QT true H1 else tu σ H1 QT) := ⟨w_or⟩
instance i_w_not : Stp (tNot tt σ H QT) (tt σ H fun c H1 => QT (!c) H1) := ⟨w_not⟩
instance i_w_andV : Stp (tAndV ta tb σ H Q) (ta σ H fun x H1 => ∃ c, x = .bl c ∧ if c = true then tb σ H1 Q else Q (.bl false) H1) := ⟨w_andV⟩
instance i_w_orV : Stp (tOrV ta tb σ H Q) (ta σ H fun x H1 => ∃ c, x = .bl c ∧ if c = true then Q (.bl true) H1 else tb σ H1 Q) := ⟨w_orV⟩
instance i_w_notV : Stp (tNotV ta σ H Q) (ta σ H fun x H1 => ∃ c, x = .bl c ∧ Q (.bl (!c)) H1) := ⟨w_notV⟩
instance i_w_ret : Stp (tRet te D σ H) (te σ H D.rt) := ⟨w_ret⟩
instance i_w_retN : Stp (tRetN D σ H) (D.rt .non H) := ⟨w_retN⟩
instance i_w_drop : Stp (tDrop te D σ H) (te σ H fun _ H1 => D.nx σ H1) := ⟨w_drop⟩
instance i_w_brk : Stp (tBreak D σ H) (D.bk σ H) := ⟨w_brk⟩
instance i_w_cont : Stp (tCont D σ H) (D.ct σ H) := ⟨w_cont⟩
instance i_w_cons {tr : TA} : Stp (tCons ta tr σ H QA) (ta σ H fun x H1 => tr σ H1 fun xs H2 => QA (x :: xs) H2) := ⟨w_cons⟩
instance i_w_nil : Stp (tNil σ H QA) (QA [] H) := ⟨w_nil⟩
instance i_w_tup : Stp (tTup tas σ H Q) (tas σ H fun xs H1 => xs.length ≤ sizeLine ∧ ∀ p, H1 p = none → Q (.ref p) (upd H1 p (.tup xs))) := ⟨w_tup⟩
instance i_w_lst : Stp (tLst tas σ H Q) (tas σ H fun xs H1 => xs.length ≤ sizeLine ∧ ∀ p, H1 p = none → Q (.ref p) (upd H1 p (.lst xs))) := ⟨w_lst⟩
instance i_w_cb {f : List V → Hp → VK → Prop} : Stp (tCB f tas σ H Q) (tas σ H fun vs H1 => f vs H1 Q) := ⟨w_cb⟩
instance i_w_call {sp : Sp} {E : XK} : Stp (tCall sp [] E tas σ H Q) (tas σ H fun vs H1 => sp (vs ++ []) H1 Q E) := ⟨w_call⟩
instance i_w_sl {rs : V → Option Int → Option Int → Hp → VK → Prop} {tl th : TO} : Stp (tSl rs te tl th σ H Q) (te σ H fun x H1 => tl σ H1 fun l H2 => th σ H2 fun u H3 => rs x l u H3 Q) := ⟨w_sl⟩
instance i_w_part {Q : Option Int → Hp → Prop} : Stp (tPart te σ H Q) (te σ H fun x H1 => ∃ i, x = .int i ∧ Q (some i) H1) := ⟨w_part⟩
instance i_w_nopart {Q : Option Int → Hp → Prop} : Stp (tNoPart σ H Q) (Q none H) := ⟨w_nopart⟩
instance i_w_par {i j : Nat} : Stp (tPar i j tas D σ H) (tas σ H fun vs H1 => ∃ v w, vs = [v, w] ∧ gName i v σ H1 fun σ' H2 => gName j w σ' H2 D.nx) := ⟨w_par⟩
instance i_w_par3 {i j l : Nat} : Stp (tPar3 i j l tas D σ H) (tas σ H fun vs H1 => ∃ u v w, vs = [u, v, w] ∧ gName i u σ H1 fun σ' H2 => gName j v σ' H2 fun σ2 H3 => gName l w σ2 H3 D.nx) := ⟨w_par3⟩
instance i_w_ex2 {R : V → V → Prop} : Stp (∃ v w, [x, y] = [v, w] ∧ R v w) (R x y) := ⟨w_ex2⟩
instance i_w_ex3 {R : V → V → V → Prop} : Stp (∃ u v' w, [v, x, y] = [u, v', w] ∧ R u v' w) (R v x y) := ⟨w_ex3⟩
instance i_w_gsub {to ti : TE} {ts : TSet} : Stp (gSub to ti ts v σ H QS) (to σ H fun o H1 => ti σ H1 fun i H2 => ts o i v H2 fun H3 => QS σ H3) := ⟨w_gsub⟩
instance i_w_gcons {g : TG} : Stp (gCons g gs (v :: xs) σ H QS) (g v σ H fun σ' H' => gs xs σ' H' QS) := ⟨w_gcons⟩
instance i_w_gnil : Stp (gNil [] σ H QS) (QS σ H) := ⟨w_gnil⟩
instance i_w_addI : Stp (rAddI (.int i) (.int j) H Q) (Q (.int (i + j)) H) := ⟨w_addI⟩
instance i_w_subI : Stp (rSubI (.int i) (.int j) H Q) (Q (.int (i - j)) H) := ⟨w_subI⟩
instance i_w_ltI : Stp (rLtI (.int i) (.int j) H Q) (Q (.bl (bD (i < j))) H) := ⟨w_ltI⟩
instance i_w_leI : Stp (rLeI (.int i) (.int j) H Q) (Q (.bl (bD (i ≤ j))) H) := ⟨w_leI⟩
instance i_w_gtI : Stp (rGtI (.int i) (.int j) H Q) (Q (.bl (bD (j < i))) H) := ⟨w_gtI⟩
instance i_w_geI : Stp (rGeI (.int i) (.int j) H Q) (Q (.bl (bD (j ≤ i))) H) := ⟨w_geI⟩
instance i_w_inC {c : Nat} : Stp (rInC (.str ⟨#[c]⟩) (.str z) H Q) (Q (.bl (bD (c ∈ z.cps.toList))) H) := ⟨w_inC⟩
instance i_w_notInC {c : Nat} : Stp (rNotInC (.str ⟨#[c]⟩) (.str z) H Q) (Q (.bl (!bD (c ∈ z.cps.toList))) H) := ⟨w_notInC⟩
instance i_w_isNon : Stp (rIsNon x .non H Q) (Q (.bl (bD (x = .non))) H) := ⟨w_isNon⟩
instance i_w_notNon : Stp (rNotNon x .non H Q) (Q (.bl (!bD (x = .non))) H) := ⟨w_notNon⟩
instance i_w_gtS : Stp (rGtS (.str z) (.str z') H Q) (Q (.bl (bD (z'.cps.toList < z.cps.toList))) H) := ⟨w_gtS⟩
instance i_w_eqI : Stp (rEq (.int i) (.int j) H Q) (Q (.bl (bD (i = j))) H) := ⟨w_eqI⟩
instance i_w_neI : Stp (rNe (.int i) (.int j) H Q) (Q (.bl (!bD (i = j))) H) := ⟨w_neI⟩
instance i_w_eqS : Stp (rEq (.str z) (.str z') H Q) (Q (.bl (bD (z = z'))) H) := ⟨w_eqS⟩
instance i_w_neS : Stp (rNe (.str z) (.str z') H Q) (Q (.bl (!bD (z = z'))) H) := ⟨w_neS⟩
instance i_w_max2 : Stp (rMax2 [.int i, .int j] H Q) (Q (.int (if j > i then j else i)) H) := ⟨w_max2⟩
instance i_w_min2 : Stp (rMin2 [.int i, .int j] H Q) (Q (.int (if j < i then j else i)) H) := ⟨w_min2⟩
instance i_w_intB {k : Bool} : Stp (rIntQ [.bl k] H Q) (Q (.int (if k then 1 else 0)) H) := ⟨w_intB⟩
instance i_w_bm {T : String} {f : V → List V → Hp → VK → Prop} {to : TE} : Stp (tBM K T f to tas σ H Q) (to σ H fun x H1 => tyV K T x H1 ∧ tas σ H1 fun xs H2 => f x xs H2 Q) := ⟨w_bm⟩
instance i_w_bm0 {T : String} {f : V → List V → Hp → VK → Prop} {to : TE} : Stp (tBM0 K T f to σ H Q) (to σ H fun x H1 => tyV K T x H1 ∧ f x [] H1 Q) := ⟨w_bm0⟩
instance i_w_join1 {f : V → List V → Hp → VK → Prop} {to : TE} : Stp (tM1 f to te σ H Q) (to σ H fun x H1 => (∃ a, x = .str a) ∧ te σ H1 fun y H2 => f x [y] H2 Q) := ⟨w_join1⟩
instance i_w_isStr {R : Prop} : Stp ((∃ a, V.str z = .str a) ∧ R) (R) := ⟨w_isStr⟩
instance i_w_for {wi : TI} {tb : TS} : Stp (tFor wi g tb D σ H) (wi σ H fun J H1 => ∃ W : Nat → Nat → St → Hp → Prop, (∃ m, W 0 m σ H1) ∧ ∀ i m σ H, W i m σ H →
      (J.stop i H ∧ D.nx σ H) ∨ (J.go i H ∧ ∃ N : St → Hp → Prop, (∀ σ' H', N σ' H' → ∃ m', m' < m ∧ W (i + 1) m' σ' H') ∧ ∀ x H', J.yld i H x H' → g x σ H' fun σ2 H2 => tb { D with nx := N, ct := N, bk := D.nx } σ2 H2)) := ⟨w_for⟩
instance i_w_iT {R : It → Hp → Prop} : Stp (iTup K te σ H R) (te σ H fun x H1 => ∃ a, x = .ref a ∧ (∃ xs, SqT K H1 a xs) ∧ R (Itt K a) H1) := ⟨w_iT⟩
instance i_w_iL {R : It → Hp → Prop} : Stp (iList K te σ H R) (te σ H fun x H1 => ∃ a, x = .ref a ∧ (∃ xs, SqL K H1 a xs) ∧ R (Itl K a) H1) := ⟨w_iL⟩
instance i_w_iS {R : It → Hp → Prop} : Stp (iStr te σ H R) (te σ H fun v H1 => ∃ x, v = .str x ∧ R (Its x) H1) := ⟨w_iS⟩
instance i_w_iR1 {R : It → Hp → Prop} : Stp (iRng1 tas σ H R) (tas σ H fun vs H1 => ∃ j : Int, vs = [.int j] ∧ -(2 ^ 62) ≤ j ∧ j < 2 ^ 62 ∧ R (Itr 0 j.toNat) H1) := ⟨w_iR1⟩
instance i_w_iR2 {R : It → Hp → Prop} : Stp (iRng2 tas σ H R) (tas σ H fun vs H1 => ∃ i j : Int, vs = [.int i, .int j] ∧ (-(2 ^ 62) ≤ i ∧ i < 2 ^ 62 ∧ -(2 ^ 62) ≤ j ∧ j < 2 ^ 62) ∧ R (Itr i (j - i).toNat) H1) := ⟨w_iR2⟩
instance i_w_chain {r r' : R2} {ta tb tc : TE} {σ : St} {H : Hp} {Q : VK} : Stp (tChain r r' ta tb tc σ H Q) (ta σ H fun x H1 => tb σ H1 fun y H2 => r x y H2 fun z H3 => ∃ k, z = .bl k ∧ (if k = true then tc σ H3 fun w' H4 => r' y w' H4 Q else Q (.bl false) H3)) := ⟨w_chain⟩
instance i_w_lc {wi : TI} {g : TG} {tt : TT} {te : TE} {vs : List Nat} {σ : St} {H : Hp} {Q : VK} : Stp (tLc wi g tt te vs σ H Q) (wi σ H fun J H1 => ∀ D, H1 D = none → ∃ W : Nat → Nat → Hp → Prop, (∃ m, W 0 m (upd H1 D (.lst []))) ∧ ∀ i m H, W i m H →
      (J.stop i H ∧ Q (.ref D) H) ∨ (J.go i H ∧ ∃ Nx : Hp → Prop, (∀ H', Nx H' → ∃ m', m' < m ∧ W (i + 1) m' H') ∧ ∀ x H', J.yld i H x H' → g x (wipe σ vs) H' fun σ2 H2 => wipe σ2 vs = wipe σ vs ∧ tt σ2 H2 fun b H3 =>
        if b = true then te σ2 H3 fun y H4 => ∃ acc, H4 D = some (.lst acc) ∧ acc.length < sizeLine ∧ Nx (upd H4 D (.lst (acc ++ [y]))) else Nx H3)) := ⟨w_lc⟩
instance i_w_yes {σ : St} {H : Hp} {Q : Bool → Hp → Prop} : Stp (tYes σ H Q) (Q true H) := ⟨w_yes⟩
instance i_v0 {v : V} {r : St} {H : Hp} {Q : VK} : Stp (tVar 0 (some v :: r) H Q) (Q v H) := ⟨w_v0⟩
instance i_g0 {x : Option V} {v : V} {r : St} {H : Hp} {Q : St → Hp → Prop} : Stp (gName 0 v (x :: r) H Q) (Q (some v :: r) H) := ⟨w_g0⟩
instance i_v1 {a0 : Option V} {v : V} {r : St} {H : Hp} {Q : VK} : Stp (tVar 1 (a0 :: some v :: r) H Q) (Q v H) := ⟨w_v1⟩
instance i_g1 {a0 : Option V} {x : Option V} {v : V} {r : St} {H : Hp} {Q : St → Hp → Prop} : Stp (gName 1 v (a0 :: x :: r) H Q) (Q (a0 :: some v :: r) H) := ⟨w_g1⟩
instance i_v2 {a0 a1 : Option V} {v : V} {r : St} {H : Hp} {Q : VK} : Stp (tVar 2 (a0 :: a1 :: some v :: r) H Q) (Q v H) := ⟨w_v2⟩
instance i_g2 {a0 a1 : Option V} {x : Option V} {v : V} {r : St} {H : Hp} {Q : St → Hp → Prop} : Stp (gName 2 v (a0 :: a1 :: x :: r) H Q) (Q (a0 :: a1 :: some v :: r) H) := ⟨w_g2⟩
instance i_v3 {a0 a1 a2 : Option V} {v : V} {r : St} {H : Hp} {Q : VK} : Stp (tVar 3 (a0 :: a1 :: a2 :: some v :: r) H Q) (Q v H) := ⟨w_v3⟩
instance i_g3 {a0 a1 a2 : Option V} {x : Option V} {v : V} {r : St} {H : Hp} {Q : St → Hp → Prop} : Stp (gName 3 v (a0 :: a1 :: a2 :: x :: r) H Q) (Q (a0 :: a1 :: a2 :: some v :: r) H) := ⟨w_g3⟩
instance i_v4 {a0 a1 a2 a3 : Option V} {v : V} {r : St} {H : Hp} {Q : VK} : Stp (tVar 4 (a0 :: a1 :: a2 :: a3 :: some v :: r) H Q) (Q v H) := ⟨w_v4⟩
instance i_g4 {a0 a1 a2 a3 : Option V} {x : Option V} {v : V} {r : St} {H : Hp} {Q : St → Hp → Prop} : Stp (gName 4 v (a0 :: a1 :: a2 :: a3 :: x :: r) H Q) (Q (a0 :: a1 :: a2 :: a3 :: some v :: r) H) := ⟨w_g4⟩
instance i_v5 {a0 a1 a2 a3 a4 : Option V} {v : V} {r : St} {H : Hp} {Q : VK} : Stp (tVar 5 (a0 :: a1 :: a2 :: a3 :: a4 :: some v :: r) H Q) (Q v H) := ⟨w_v5⟩
instance i_g5 {a0 a1 a2 a3 a4 : Option V} {x : Option V} {v : V} {r : St} {H : Hp} {Q : St → Hp → Prop} : Stp (gName 5 v (a0 :: a1 :: a2 :: a3 :: a4 :: x :: r) H Q) (Q (a0 :: a1 :: a2 :: a3 :: a4 :: some v :: r) H) := ⟨w_g5⟩
instance i_v6 {a0 a1 a2 a3 a4 a5 : Option V} {v : V} {r : St} {H : Hp} {Q : VK} : Stp (tVar 6 (a0 :: a1 :: a2 :: a3 :: a4 :: a5 :: some v :: r) H Q) (Q v H) := ⟨w_v6⟩
instance i_g6 {a0 a1 a2 a3 a4 a5 : Option V} {x : Option V} {v : V} {r : St} {H : Hp} {Q : St → Hp → Prop} : Stp (gName 6 v (a0 :: a1 :: a2 :: a3 :: a4 :: a5 :: x :: r) H Q) (Q (a0 :: a1 :: a2 :: a3 :: a4 :: a5 :: some v :: r) H) := ⟨w_g6⟩
instance i_v7 {a0 a1 a2 a3 a4 a5 a6 : Option V} {v : V} {r : St} {H : Hp} {Q : VK} : Stp (tVar 7 (a0 :: a1 :: a2 :: a3 :: a4 :: a5 :: a6 :: some v :: r) H Q) (Q v H) := ⟨w_v7⟩
instance i_g7 {a0 a1 a2 a3 a4 a5 a6 : Option V} {x : Option V} {v : V} {r : St} {H : Hp} {Q : St → Hp → Prop} : Stp (gName 7 v (a0 :: a1 :: a2 :: a3 :: a4 :: a5 :: a6 :: x :: r) H Q) (Q (a0 :: a1 :: a2 :: a3 :: a4 :: a5 :: a6 :: some v :: r) H) := ⟨w_g7⟩
instance i_v8 {a0 a1 a2 a3 a4 a5 a6 a7 : Option V} {v : V} {r : St} {H : Hp} {Q : VK} : Stp (tVar 8 (a0 :: a1 :: a2 :: a3 :: a4 :: a5 :: a6 :: a7 :: some v :: r) H Q) (Q v H) := ⟨w_v8⟩
instance i_g8 {a0 a1 a2 a3 a4 a5 a6 a7 : Option V} {x : Option V} {v : V} {r : St} {H : Hp} {Q : St → Hp → Prop} : Stp (gName 8 v (a0 :: a1 :: a2 :: a3 :: a4 :: a5 :: a6 :: a7 :: x :: r) H Q) (Q (a0 :: a1 :: a2 :: a3 :: a4 :: a5 :: a6 :: a7 :: some v :: r) H) := ⟨w_g8⟩
instance i_v9 {a0 a1 a2 a3 a4 a5 a6 a7 a8 : Option V} {v : V} {r : St} {H : Hp} {Q : VK} : Stp (tVar 9 (a0 :: a1 :: a2 :: a3 :: a4 :: a5 :: a6 :: a7 :: a8 :: some v :: r) H Q) (Q v H) := ⟨w_v9⟩
instance i_g9 {a0 a1 a2 a3 a4 a5 a6 a7 a8 : Option V} {x : Option V} {v : V} {r : St} {H : Hp} {Q : St → Hp → Prop} : Stp (gName 9 v (a0 :: a1 :: a2 :: a3 :: a4 :: a5 :: a6 :: a7 :: a8 :: x :: r) H Q) (Q (a0 :: a1 :: a2 :: a3 :: a4 :: a5 :: a6 :: a7 :: a8 :: some v :: r) H) := ⟨w_g9⟩
instance i_v10 {a0 a1 a2 a3 a4 a5 a6 a7 a8 a9 : Option V} {v : V} {r : St} {H : Hp} {Q : VK} : Stp (tVar 10 (a0 :: a1 :: a2 :: a3 :: a4 :: a5 :: a6 :: a7 :: a8 :: a9 :: some v :: r) H Q) (Q v H) := ⟨w_v10⟩
instance i_g10 {a0 a1 a2 a3 a4 a5 a6 a7 a8 a9 : Option V} {x : Option V} {v : V} {r : St} {H : Hp} {Q : St → Hp → Prop} : Stp (gName 10 v (a0 :: a1 :: a2 :: a3 :: a4 :: a5 :: a6 :: a7 :: a8 :: a9 :: x :: r) H Q) (Q (a0 :: a1 :: a2 :: a3 :: a4 :: a5 :: a6 :: a7 :: a8 :: a9 :: some v :: r) H) := ⟨w_g10⟩
instance i_v11 {a0 a1 a2 a3 a4 a5 a6 a7 a8 a9 a10 : Option V} {v : V} {r : St} {H : Hp} {Q : VK} : Stp (tVar 11 (a0 :: a1 :: a2 :: a3 :: a4 :: a5 :: a6 :: a7 :: a8 :: a9 :: a10 :: some v :: r) H Q) (Q v H) := ⟨w_v11⟩
instance i_g11 {a0 a1 a2 a3 a4 a5 a6 a7 a8 a9 a10 : Option V} {x : Option V} {v : V} {r : St} {H : Hp} {Q : St → Hp → Prop} : Stp (gName 11 v (a0 :: a1 :: a2 :: a3 :: a4 :: a5 :: a6 :: a7 :: a8 :: a9 :: a10 :: x :: r) H Q) (Q (a0 :: a1 :: a2 :: a3 :: a4 :: a5 :: a6 :: a7 :: a8 :: a9 :: a10 :: some v :: r) H) := ⟨w_g11⟩
instance i_v12 {a0 a1 a2 a3 a4 a5 a6 a7 a8 a9 a10 a11 : Option V} {v : V} {r : St} {H : Hp} {Q : VK} : Stp (tVar 12 (a0 :: a1 :: a2 :: a3 :: a4 :: a5 :: a6 :: a7 :: a8 :: a9 :: a10 :: a11 :: some v :: r) H Q) (Q v H) := ⟨w_v12⟩
instance i_g12 {a0 a1 a2 a3 a4 a5 a6 a7 a8 a9 a10 a11 : Option V} {x : Option V} {v : V} {r : St} {H : Hp} {Q : St → Hp → Prop} : Stp (gName 12 v (a0 :: a1 :: a2 :: a3 :: a4 :: a5 :: a6 :: a7 :: a8 :: a9 :: a10 :: a11 :: x :: r) H Q) (Q (a0 :: a1 :: a2 :: a3 :: a4 :: a5 :: a6 :: a7 :: a8 :: a9 :: a10 :: a11 :: some v :: r) H) := ⟨w_g12⟩
instance i_v13 {a0 a1 a2 a3 a4 a5 a6 a7 a8 a9 a10 a11 a12 : Option V} {v : V} {r : St} {H : Hp} {Q : VK} : Stp (tVar 13 (a0 :: a1 :: a2 :: a3 :: a4 :: a5 :: a6 :: a7 :: a8 :: a9 :: a10 :: a11 :: a12 :: some v :: r) H Q) (Q v H) := ⟨w_v13⟩
instance i_g13 {a0 a1 a2 a3 a4 a5 a6 a7 a8 a9 a10 a11 a12 : Option V} {x : Option V} {v : V} {r : St} {H : Hp} {Q : St → Hp → Prop} : Stp (gName 13 v (a0 :: a1 :: a2 :: a3 :: a4 :: a5 :: a6 :: a7 :: a8 :: a9 :: a10 :: a11 :: a12 :: x :: r) H Q) (Q (a0 :: a1 :: a2 :: a3 :: a4 :: a5 :: a6 :: a7 :: a8 :: a9 :: a10 :: a11 :: a12 :: some v :: r) H) := ⟨w_g13⟩
instance i_v14 {a0 a1 a2 a3 a4 a5 a6 a7 a8 a9 a10 a11 a12 a13 : Option V} {v : V} {r : St} {H : Hp} {Q : VK} : Stp (tVar 14 (a0 :: a1 :: a2 :: a3 :: a4 :: a5 :: a6 :: a7 :: a8 :: a9 :: a10 :: a11 :: a12 :: a13 :: some v :: r) H Q) (Q v H) := ⟨w_v14⟩
instance i_g14 {a0 a1 a2 a3 a4 a5 a6 a7 a8 a9 a10 a11 a12 a13 : Option V} {x : Option V} {v : V} {r : St} {H : Hp} {Q : St → Hp → Prop} : Stp (gName 14 v (a0 :: a1 :: a2 :: a3 :: a4 :: a5 :: a6 :: a7 :: a8 :: a9 :: a10 :: a11 :: a12 :: a13 :: x :: r) H Q) (Q (a0 :: a1 :: a2 :: a3 :: a4 :: a5 :: a6 :: a7 :: a8 :: a9 :: a10 :: a11 :: a12 :: a13 :: some v :: r) H) := ⟨w_g14⟩
instance i_v15 {a0 a1 a2 a3 a4 a5 a6 a7 a8 a9 a10 a11 a12 a13 a14 : Option V} {v : V} {r : St} {H : Hp} {Q : VK} : Stp (tVar 15 (a0 :: a1 :: a2 :: a3 :: a4 :: a5 :: a6 :: a7 :: a8 :: a9 :: a10 :: a11 :: a12 :: a13 :: a14 :: some v :: r) H Q) (Q v H) := ⟨w_v15⟩
instance i_g15 {a0 a1 a2 a3 a4 a5 a6 a7 a8 a9 a10 a11 a12 a13 a14 : Option V} {x : Option V} {v : V} {r : St} {H : Hp} {Q : St → Hp → Prop} : Stp (gName 15 v (a0 :: a1 :: a2 :: a3 :: a4 :: a5 :: a6 :: a7 :: a8 :: a9 :: a10 :: a11 :: a12 :: a13 :: a14 :: x :: r) H Q) (Q (a0 :: a1 :: a2 :: a3 :: a4 :: a5 :: a6 :: a7 :: a8 :: a9 :: a10 :: a11 :: a12 :: a13 :: a14 :: some v :: r) H) := ⟨w_g15⟩
instance i_v16 {a0 a1 a2 a3 a4 a5 a6 a7 a8 a9 a10 a11 a12 a13 a14 a15 : Option V} {v : V} {r : St} {H : Hp} {Q : VK} : Stp (tVar 16 (a0 :: a1 :: a2 :: a3 :: a4 :: a5 :: a6 :: a7 :: a8 :: a9 :: a10 :: a11 :: a12 :: a13 :: a14 :: a15 :: some v :: r) H Q) (Q v H) := ⟨w_v16⟩
instance i_g16 {a0 a1 a2 a3 a4 a5 a6 a7 a8 a9 a10 a11 a12 a13 a14 a15 : Option V} {x : Option V} {v : V} {r : St} {H : Hp} {Q : St → Hp → Prop} : Stp (gName 16 v (a0 :: a1 :: a2 :: a3 :: a4 :: a5 :: a6 :: a7 :: a8 :: a9 :: a10 :: a11 :: a12 :: a13 :: a14 :: a15 :: x :: r) H Q) (Q (a0 :: a1 :: a2 :: a3 :: a4 :: a5 :: a6 :: a7 :: a8 :: a9 :: a10 :: a11 :: a12 :: a13 :: a14 :: a15 :: some v :: r) H) := ⟨w_g16⟩
instance i_v17 {a0 a1 a2 a3 a4 a5 a6 a7 a8 a9 a10 a11 a12 a13 a14 a15 a16 : Option V} {v : V} {r : St} {H : Hp} {Q : VK} : Stp (tVar 17 (a0 :: a1 :: a2 :: a3 :: a4 :: a5 :: a6 :: a7 :: a8 :: a9 :: a10 :: a11 :: a12 :: a13 :: a14 :: a15 :: a16 :: some v :: r) H Q) (Q v H) := ⟨w_v17⟩
instance i_g17 {a0 a1 a2 a3 a4 a5 a6 a7 a8 a9 a10 a11 a12 a13 a14 a15 a16 : Option V} {x : Option V} {v : V} {r : St} {H : Hp} {Q : St → Hp → Prop} : Stp (gName 17 v (a0 :: a1 :: a2 :: a3 :: a4 :: a5 :: a6 :: a7 :: a8 :: a9 :: a10 :: a11 :: a12 :: a13 :: a14 :: a15 :: a16 :: x :: r) H Q) (Q (a0 :: a1 :: a2 :: a3 :: a4 :: a5 :: a6 :: a7 :: a8 :: a9 :: a10 :: a11 :: a12 :: a13 :: a14 :: a15 :: a16 :: some v :: r) H) := ⟨w_g17⟩
instance i_v18 {a0 a1 a2 a3 a4 a5 a6 a7 a8 a9 a10 a11 a12 a13 a14 a15 a16 a17 : Option V} {v : V} {r : St} {H : Hp} {Q : VK} : Stp (tVar 18 (a0 :: a1 :: a2 :: a3 :: a4 :: a5 :: a6 :: a7 :: a8 :: a9 :: a10 :: a11 :: a12 :: a13 :: a14 :: a15 :: a16 :: a17 :: some v :: r) H Q) (Q v H) := ⟨w_v18⟩
instance i_g18 {a0 a1 a2 a3 a4 a5 a6 a7 a8 a9 a10 a11 a12 a13 a14 a15 a16 a17 : Option V} {x : Option V} {v : V} {r : St} {H : Hp} {Q : St → Hp → Prop} : Stp (gName 18 v (a0 :: a1 :: a2 :: a3 :: a4 :: a5 :: a6 :: a7 :: a8 :: a9 :: a10 :: a11 :: a12 :: a13 :: a14 :: a15 :: a16 :: a17 :: x :: r) H Q) (Q (a0 :: a1 :: a2 :: a3 :: a4 :: a5 :: a6 :: a7 :: a8 :: a9 :: a10 :: a11 :: a12 :: a13 :: a14 :: a15 :: a16 :: a17 :: some v :: r) H) := ⟨w_g18⟩
instance i_v19 {a0 a1 a2 a3 a4 a5 a6 a7 a8 a9 a10 a11 a12 a13 a14 a15 a16 a17 a18 : Option V} {v : V} {r : St} {H : Hp} {Q : VK} : Stp (tVar 19 (a0 :: a1 :: a2 :: a3 :: a4 :: a5 :: a6 :: a7 :: a8 :: a9 :: a10 :: a11 :: a12 :: a13 :: a14 :: a15 :: a16 :: a17 :: a18 :: some v :: r) H Q) (Q v H) := ⟨w_v19⟩
instance i_g19 {a0 a1 a2 a3 a4 a5 a6 a7 a8 a9 a10 a11 a12 a13 a14 a15 a16 a17 a18 : Option V} {x : Option V} {v : V} {r : St} {H : Hp} {Q : St → Hp → Prop} : Stp (gName 19 v (a0 :: a1 :: a2 :: a3 :: a4 :: a5 :: a6 :: a7 :: a8 :: a9 :: a10 :: a11 :: a12 :: a13 :: a14 :: a15 :: a16 :: a17 :: a18 :: x :: r) H Q) (Q (a0 :: a1 :: a2 :: a3 :: a4 :: a5 :: a6 :: a7 :: a8 :: a9 :: a10 :: a11 :: a12 :: a13 :: a14 :: a15 :: a16 :: a17 :: a18 :: some v :: r) H) := ⟨w_g19⟩
instance i_v20 {a0 a1 a2 a3 a4 a5 a6 a7 a8 a9 a10 a11 a12 a13 a14 a15 a16 a17 a18 a19 : Option V} {v : V} {r : St} {H : Hp} {Q : VK} : Stp (tVar 20 (a0 :: a1 :: a2 :: a3 :: a4 :: a5 :: a6 :: a7 :: a8 :: a9 :: a10 :: a11 :: a12 :: a13 :: a14 :: a15 :: a16 :: a17 :: a18 :: a19 :: some v :: r) H Q) (Q v H) := ⟨w_v20⟩
instance i_g20 {a0 a1 a2 a3 a4 a5 a6 a7 a8 a9 a10 a11 a12 a13 a14 a15 a16 a17 a18 a19 : Option V} {x : Option V} {v : V} {r : St} {H : Hp} {Q : St → Hp → Prop} : Stp (gName 20 v (a0 :: a1 :: a2 :: a3 :: a4 :: a5 :: a6 :: a7 :: a8 :: a9 :: a10 :: a11 :: a12 :: a13 :: a14 :: a15 :: a16 :: a17 :: a18 :: a19 :: x :: r) H Q) (Q (a0 :: a1 :: a2 :: a3 :: a4 :: a5 :: a6 :: a7 :: a8 :: a9 :: a10 :: a11 :: a12 :: a13 :: a14 :: a15 :: a16 :: a17 :: a18 :: a19 :: some v :: r) H) := ⟨w_g20⟩
instance i_v21 {a0 a1 a2 a3 a4 a5 a6 a7 a8 a9 a10 a11 a12 a13 a14 a15 a16 a17 a18 a19 a20 : Option V} {v : V} {r : St} {H : Hp} {Q : VK} : Stp (tVar 21 (a0 :: a1 :: a2 :: a3 :: a4 :: a5 :: a6 :: a7 :: a8 :: a9 :: a10 :: a11 :: a12 :: a13 :: a14 :: a15 :: a16 :: a17 :: a18 :: a19 :: a20 :: some v :: r) H Q) (Q v H) := ⟨w_v21⟩
instance i_g21 {a0 a1 a2 a3 a4 a5 a6 a7 a8 a9 a10 a11 a12 a13 a14 a15 a16 a17 a18 a19 a20 : Option V} {x : Option V} {v : V} {r : St} {H : Hp} {Q : St → Hp → Prop} : Stp (gName 21 v (a0 :: a1 :: a2 :: a3 :: a4 :: a5 :: a6 :: a7 :: a8 :: a9 :: a10 :: a11 :: a12 :: a13 :: a14 :: a15 :: a16 :: a17 :: a18 :: a19 :: a20 :: x :: r) H Q) (Q (a0 :: a1 :: a2 :: a3 :: a4 :: a5 :: a6 :: a7 :: a8 :: a9 :: a10 :: a11 :: a12 :: a13 :: a14 :: a15 :: a16 :: a17 :: a18 :: a19 :: a20 :: some v :: r) H) := ⟨w_g21⟩
instance i_v22 {a0 a1 a2 a3 a4 a5 a6 a7 a8 a9 a10 a11 a12 a13 a14 a15 a16 a17 a18 a19 a20 a21 : Option V} {v : V} {r : St} {H : Hp} {Q : VK} : Stp (tVar 22 (a0 :: a1 :: a2 :: a3 :: a4 :: a5 :: a6 :: a7 :: a8 :: a9 :: a10 :: a11 :: a12 :: a13 :: a14 :: a15 :: a16 :: a17 :: a18 :: a19 :: a20 :: a21 :: some v :: r) H Q) (Q v H) := ⟨w_v22⟩
instance i_g22 {a0 a1 a2 a3 a4 a5 a6 a7 a8 a9 a10 a11 a12 a13 a14 a15 a16 a17 a18 a19 a20 a21 : Option V} {x : Option V} {v : V} {r : St} {H : Hp} {Q : St → Hp → Prop} : Stp (gName 22 v (a0 :: a1 :: a2 :: a3 :: a4 :: a5 :: a6 :: a7 :: a8 :: a9 :: a10 :: a11 :: a12 :: a13 :: a14 :: a15 :: a16 :: a17 :: a18 :: a19 :: a20 :: a21 :: x :: r) H Q) (Q (a0 :: a1 :: a2 :: a3 :: a4 :: a5 :: a6 :: a7 :: a8 :: a9 :: a10 :: a11 :: a12 :: a13 :: a14 :: a15 :: a16 :: a17 :: a18 :: a19 :: a20 :: a21 :: some v :: r) H) := ⟨w_g22⟩
instance i_v23 {a0 a1 a2 a3 a4 a5 a6 a7 a8 a9 a10 a11 a12 a13 a14 a15 a16 a17 a18 a19 a20 a21 a22 : Option V} {v : V} {r : St} {H : Hp} {Q : VK} : Stp (tVar 23 (a0 :: a1 :: a2 :: a3 :: a4 :: a5 :: a6 :: a7 :: a8 :: a9 :: a10 :: a11 :: a12 :: a13 :: a14 :: a15 :: a16 :: a17 :: a18 :: a19 :: a20 :: a21 :: a22 :: some v :: r) H Q) (Q v H) := ⟨w_v23⟩
instance i_g23 {a0 a1 a2 a3 a4 a5 a6 a7 a8 a9 a10 a11 a12 a13 a14 a15 a16 a17 a18 a19 a20 a21 a22 : Option V} {x : Option V} {v : V} {r : St} {H : Hp} {Q : St → Hp → Prop} : Stp (gName 23 v (a0 :: a1 :: a2 :: a3 :: a4 :: a5 :: a6 :: a7 :: a8 :: a9 :: a10 :: a11 :: a12 :: a13 :: a14 :: a15 :: a16 :: a17 :: a18 :: a19 :: a20 :: a21 :: a22 :: x :: r) H Q) (Q (a0 :: a1 :: a2 :: a3 :: a4 :: a5 :: a6 :: a7 :: a8 :: a9 :: a10 :: a11 :: a12 :: a13 :: a14 :: a15 :: a16 :: a17 :: a18 :: a19 :: a20 :: a21 :: a22 :: some v :: r) H) := ⟨w_g23⟩
instance i_v24 {a0 a1 a2 a3 a4 a5 a6 a7 a8 a9 a10 a11 a12 a13 a14 a15 a16 a17 a18 a19 a20 a21 a22 a23 : Option V} {v : V} {r : St} {H : Hp} {Q : VK} : Stp (tVar 24 (a0 :: a1 :: a2 :: a3 :: a4 :: a5 :: a6 :: a7 :: a8 :: a9 :: a10 :: a11 :: a12 :: a13 :: a14 :: a15 :: a16 :: a17 :: a18 :: a19 :: a20 :: a21 :: a22 :: a23 :: some v :: r) H Q) (Q v H) := ⟨w_v24⟩
instance i_g24 {a0 a1 a2 a3 a4 a5 a6 a7 a8 a9 a10 a11 a12 a13 a14 a15 a16 a17 a18 a19 a20 a21 a22 a23 : Option V} {x : Option V} {v : V} {r : St} {H : Hp} {Q : St → Hp → Prop} : Stp (gName 24 v (a0 :: a1 :: a2 :: a3 :: a4 :: a5 :: a6 :: a7 :: a8 :: a9 :: a10 :: a11 :: a12 :: a13 :: a14 :: a15 :: a16 :: a17 :: a18 :: a19 :: a20 :: a21 :: a22 :: a23 :: x :: r) H Q) (Q (a0 :: a1 :: a2 :: a3 :: a4 :: a5 :: a6 :: a7 :: a8 :: a9 :: a10 :: a11 :: a12 :: a13 :: a14 :: a15 :: a16 :: a17 :: a18 :: a19 :: a20 :: a21 :: a22 :: a23 :: some v :: r) H) := ⟨w_g24⟩
instance i_v25 {a0 a1 a2 a3 a4 a5 a6 a7 a8 a9 a10 a11 a12 a13 a14 a15 a16 a17 a18 a19 a20 a21 a22 a23 a24 : Option V} {v : V} {r : St} {H : Hp} {Q : VK} : Stp (tVar 25 (a0 :: a1 :: a2 :: a3 :: a4 :: a5 :: a6 :: a7 :: a8 :: a9 :: a10 :: a11 :: a12 :: a13 :: a14 :: a15 :: a16 :: a17 :: a18 :: a19 :: a20 :: a21 :: a22 :: a23 :: a24 :: some v :: r) H Q) (Q v H) := ⟨w_v25⟩
instance i_g25 {a0 a1 a2 a3 a4 a5 a6 a7 a8 a9 a10 a11 a12 a13 a14 a15 a16 a17 a18 a19 a20 a21 a22 a23 a24 : Option V} {x : Option V} {v : V} {r : St} {H : Hp} {Q : St → Hp → Prop} : Stp (gName 25 v (a0 :: a1 :: a2 :: a3 :: a4 :: a5 :: a6 :: a7 :: a8 :: a9 :: a10 :: a11 :: a12 :: a13 :: a14 :: a15 :: a16 :: a17 :: a18 :: a19 :: a20 :: a21 :: a22 :: a23 :: a24 :: x :: r) H Q) (Q (a0 :: a1 :: a2 :: a3 :: a4 :: a5 :: a6 :: a7 :: a8 :: a9 :: a10 :: a11 :: a12 :: a13 :: a14 :: a15 :: a16 :: a17 :: a18 :: a19 :: a20 :: a21 :: a22 :: a23 :: a24 :: some v :: r) H) := ⟨w_g25⟩
theorem ite_T {b : Bool} {A B : Prop} (e : b = true) (h : A) : if b = true then A else B := by rw [e]; exact iteT h
end
end HH
namespace HH
open PySem PySem.Spec L2
section
variable {H : Hp} {Q : VK}
instance i_p18 : Stp (rPowI (.int 10) (.int 18) H Q) (Q (.int 1000000000000000000) H) := ⟨fun h => ⟨10, 18, rfl, rfl, ⟨by decide, by decide, by decide⟩, h⟩⟩
instance i_p15 : Stp (rPowI (.int 10) (.int 15) H Q) (Q (.int 1000000000000000) H) := ⟨fun h => ⟨10, 15, rfl, rfl, ⟨by decide, by decide, by decide⟩, h⟩⟩
instance i_p14 : Stp (rPowI (.int 10) (.int 14) H Q) (Q (.int 100000000000000) H) := ⟨fun h => ⟨10, 14, rfl, rfl, ⟨by decide, by decide, by decide⟩, h⟩⟩
instance i_p13 : Stp (rPowI (.int 10) (.int 13) H Q) (Q (.int 10000000000000) H) := ⟨fun h => ⟨10, 13, rfl, rfl, ⟨by decide, by decide, by decide⟩, h⟩⟩
end
end HH
namespace HH
open PySem PySem.Spec L2
theorem w_setL {H : Hp} {p : Addr} {xs : List V} {k : Int} {j : Nat} {v : V} {Q : Hp → Prop} (h : H p = some (.lst xs)) (e : ixN xs.length k = some j) (q : Q (upd H p (.lst (xs.set j v)))) : rSetL (.ref p) (.int k) v H Q := ⟨p, xs, k, j, rfl, rfl, h, e, q⟩
theorem w_tupL {K : PySem.W.Frag} {H : Hp} {p : Addr} {ys : List V} {Q : VK} (h : SqL K H p ys) (q : ∀ l, H l = none → Q (.ref l) (upd H l (.tup ys))) : rTupQ K [.ref p] H Q := ⟨p, ys, rfl, .inl ⟨h, q⟩⟩
theorem w_joinQ {K : PySem.W.Frag} {H : Hp} {p : Addr} {a : Str} {Q : VK} (ys : List Str) (h : SqL K H p (ys.map V.str)) (z : (ys.map (·.length)).sum + ys.length * a.length ≤ 16777216) (q : Q (.str (Txt.join a ys)) H) : rJoin K (.str a) [.ref p] H Q := ⟨a, p, ys, rfl, rfl, .inl h, z, q⟩
theorem w_ixS {H : Hp} {z : Str} {i : Int} {c : Nat} {Q : VK} (hz : z.length ≤ sizeLine) (e : atI z.cps.toList i = some c) (q : Q (.str ⟨#[c]⟩) H) : rIxS (.str z) (.int i) H Q := ⟨z, i, c, rfl, rfl, hz, e, q⟩
theorem w_cat {H : Hp} {l b : Addr} {xs zs : List V} {Q : VK} (h1 : H l = some (.lst xs)) (h2 : H b = some (.lst zs)) (z : xs.length + zs.length ≤ sizeLine) (q : ∀ p, H p = none → Q (.ref p) (upd H p (.lst (xs ++ zs)))) : rCat (.ref l) (.ref b) H Q := ⟨l, b, xs, zs, rfl, rfl, h1, h2, z, q⟩
end HH
namespace HH
open PySem PySem.Spec L2
theorem isIf {tt : TT} {t u : TS} {D : Ends} {σ : St} {H : Hp} (h : tIfS tt t u D σ H) : tIfS tt t u D σ H := h
/-- an if whose test is false on every way -/
theorem w_ifNo {tt : TT} {t u : TS} {D : Ends} {σ : St} {H : Hp} (P : Hp → Prop) (h1 : ∀ QT : Bool → Hp → Prop, (∀ H', P H' → QT false H') → tt σ H QT) (h2 : ∀ H', P H' → u D σ H') : tIfS tt t u D σ H :=
  h1 _ fun H' p => iteF (h2 H' p)
end HH

namespace HH
open PySem PySem.Spec PyProof.Rows L2
section
variable {prog : Program} {w : World} {A : Around} {E : Value → Shared → Prop} {s : Shared}
theorem rev_adjust (n : Nat) : Builtin.Slice.sliceAdjust none none (-1) (n : Int) = ((n : Int) - 1, -1) := rfl
theorem rev_places (n : Nat) : Builtin.Slice.slicePlaces ((n : Int) - 1) (-1) (-1) = n := by
  unfold Builtin.Slice.slicePlaces
  rw [if_neg (by decide)]
  by_cases h : n = 0
  · subst h
    rfl
  · rw [if_pos (by omega)]
    have : ((n : Int) - 1 - -1 - 1) / (- -1) + 1 = n := by
      rw [show (- -1 : Int) = 1 from rfl, Int.ediv_one]
      omega
    rw [this]
    exact Int.toNat_natCast n
theorem sliceApplied_rev {sl : Addr} {vl vu vs : Value} {n : Nat} {Q : Int × Int × Nat → Shared → Prop} (hs : s.heap.IsSliceOf sl vl vu vs) (pl : IsPart vl none) (pu : IsPart vu none) (ps : IsPart vs (some (-1)))
    (h : Q ((n : Int) - 1, -1, n) s) : wpAny (model prog w) A (Builtin.Slice.sliceApplied (.ref sl) (pure (n : Int))) Q E s := by
  obtain ⟨os, hos, hcs, hds⟩ := id hs
  unfold Builtin.Slice.sliceApplied Builtin.Slice.sliceFields
  refine wpAny_bind (wpAny_bind (wpAny_field hos hds (x := vl) rfl (wpAny_bind (wpAny_field hos hds (x := vu) rfl (wpAny_bind (wpAny_field hos hds (x := vs) rfl (wpAny_pure ?_)))))))
  refine wpAny_bind (HT.slicePart_ ps ?_)
  show wpAny _ _ (if ((-1 : Int) == 0) = true then _ else _) _ _ s
  rw [if_neg (by decide)]
  refine wpAny_bind (HT.slicePart_ pl (wpAny_bind (HT.slicePart_ pu (wpAny_bind (wpAny_pure ?_)))))
  show wpAny _ _ (match Builtin.Slice.sliceAdjust none none (-1) (n : Int) with | (lo, hi) => pure (lo, (-1 : Int), Builtin.Slice.slicePlaces lo hi (-1))) _ _ s
  rw [rev_adjust n]
  show wpAny _ _ (pure ((n : Int) - 1, (-1 : Int), Builtin.Slice.slicePlaces ((n : Int) - 1) (-1) (-1))) _ _ s
  rw [rev_places]
  exact wpAny_pure h
theorem fm_map {α β : Type} {f : α → Option β} {g : α → β} : ∀ {l : List α}, (∀ m ∈ l, f m = some (g m)) → l.filterMap f = l.map g
  | [], _ => rfl
  | a :: l, h => by
    rw [List.filterMap_cons, h a List.mem_cons_self, List.map_cons, fm_map fun m hm => h m (List.mem_cons_of_mem _ hm)]
theorem pick_rev (xs : Array Value) : ((List.range xs.size).filterMap fun (m : Nat) => xs[(((xs.size : Int) - 1) + (m : Int) * (-1)).toNat]?).toArray = xs.toList.reverse.toArray := by
  have e : ∀ m ∈ List.range xs.size, (fun (m : Nat) => xs[(((xs.size : Int) - 1) + (m : Int) * (-1)).toNat]?) m = some (xs.toList.reverse[m]?.getD .none) := by
    intro m hm
    have hm' : m < xs.size := List.mem_range.mp hm
    have : (((xs.size : Int) - 1) + (m : Int) * (-1)).toNat = xs.size - 1 - m := by omega
    show xs[(((xs.size : Int) - 1) + (m : Int) * (-1)).toNat]? = _
    rw [this, List.getElem?_reverse (by simpa using hm'), Array.length_toList]
    have h2 : xs.size - 1 - m < xs.size := by omega
    simp [h2]
  rw [fm_map e]
  congr 1
  apply List.ext_getElem?
  intro i
  rw [List.getElem?_map]
  by_cases hi : i < xs.size
  · rw [List.getElem?_range hi]
    have : i < xs.toList.reverse.length := by simpa using hi
    simp [this, hi]
  · have h1 : (List.range xs.size)[i]? = none := List.getElem?_eq_none (by simpa using Nat.le_of_not_lt hi)
    rw [h1, List.getElem?_eq_none (by simpa using Nat.le_of_not_lt hi)]
    rfl
theorem getItem_tuple_rev {t sl : Addr} {items : Array Value} {vl vu vs : Value} {Q : Value → Shared → Prop} (ht : PyProof.Rows.IsTup s.heap t items) (hs : s.heap.IsSliceOf sl vl vu vs) (pl : IsPart vl none) (pu : IsPart vu none) (ps : IsPart vs (some (-1)))
    (h : Q (.ref s.heap.objs.size) { s with heap := s.heap.push { cls := .type "tuple", data := .seq items.toList.reverse.toArray } })
    (hsz : items.size ≤ sizeLine) : wpAny (model prog w) A (getItem (.ref t) (.ref sl)) Q E s := by
  have htake : sizeOk (.seq items.toList.reverse.toArray) := by
    show items.toList.reverse.toArray.size ≤ sizeLine
    rw [List.size_toArray, List.length_reverse, Array.length_toList]
    exact hsz
  obtain ⟨os, hos, hcs, hds⟩ := id hs
  have hTs : s.TypeIs (.ref sl) "slice" := ⟨os, hos, hcs⟩
  unfold getItem
  try with_reducible refine wpAny_holding ?_
  first | refine wpAny_bind (wpAny_pure ?_) | skip
  refine wpAny_bind (wpAny_sequenceKey ht.typeIs (by decide) ?_)
  refine wpAny_bind (wpAny_callSpecial?_slot (name := Str.ofString "__getitem__") ht.typeIs PyProof.Rows.slot_tuple_getitem
    (wpAny_call_entry PyProof.Rows.slot_tuple_getitem ht.typeIs PyProof.Rows.entry_tuple_getitem ?_ (PyProof.Rows.args_tuple_getitem _ _)))
  show wpAny _ _ (Builtin.Tuple.tupleItemsOf (.ref t) >>= _) _ _ s
  refine wpAny_bind (PyProof.Rows.tupleItemsOf_ ht ?_)
  refine wpAny_bind (wpAny_typeOf hTs ?_)
  rw [if_pos (by decide)]
  refine wpAny_bind (sliceApplied_rev hs pl pu ps ?_)
  have hno : ¬ (((((items.size : Int) - 1)) == 0 && (-1 : Int) == 1 && items.size == items.size) = true) := by
    intro q
    rw [Bool.and_eq_true, Bool.and_eq_true] at q
    exact absurd q.1.2 (by decide)
  show wpAny _ _ (if ((((items.size : Int) - 1)) == 0 && (-1 : Int) == 1 && items.size == items.size) = true then _ else _) _ _ s
  rw [if_neg hno, pick_rev]
  first
    | exact wpAny_bind (m := Builtin.Tuple.tupleExact _) (wpAny_newObj_type (wpAny_pure ⟨_, rfl, wpAny_pure h⟩) htake)
    | exact wpAny_bind (m := Builtin.Tuple.tupleExact _) (wpAny_newObj_type (wpAny_bind (wpAny_pure (wpAny_pure ⟨_, rfl, wpAny_pure h⟩))) htake)
    | exact wpAny_bind (wpAny_bind (m := Builtin.Tuple.tupleExact _) (wpAny_newObj_type (wpAny_pure (wpAny_pure ⟨_, rfl, wpAny_pure h⟩)) htake))
    | exact wpAny_bind (wpAny_bind (m := Builtin.Tuple.tupleExact _) (wpAny_newObj_type (wpAny_pure ⟨_, rfl, wpAny_pure h⟩) htake))
end
/-- t[::-1] -/
def tRevT (K : PySem.W.Frag) (te : TE) : TE := fun σ H Q => te σ H fun x H1 => ∃ a xs, x = .ref a ∧ SqT K H1 a xs ∧ ∀ p, H1 p = none → Q (.ref p) (upd H1 p (.tup xs.reverse))
theorem pe_revT {X : Cx} {e : Expr} {te : TE} {k : Nat} {p1 p2 p3 pos : Pos} (he : PE X e te) : PE X (.Subscript e (.Slice none none (some (.UnaryOp .USub (.Constant (.int 1) k p1) p2)) p3) pos) (tRevT X.K te) := by
  refine ⟨fun pins s σ H Q I h => ?_⟩
  refine PyProof.Rows.Subscript_ (thn (he.run pins s σ H _ I h) fun v s1 ⟨x, H1, I1, r1, q1⟩ => ?_)
  obtain ⟨a, xs, ex, hx, q⟩ := q1
  subst ex
  cases r1
  have hst : PO X (some (.UnaryOp .USub (.Constant (.int 1) k p1) p2)) (tPart (tUn (rU fun i => .int (-i)) (tC (.int 1)))) := po_some (pe_un un_neg pe_int)
  refine wpAny_Slice (thn (po_none.run pins s1 σ H1 (fun o H2 => o = none ∧ H2 = H1) I1 ⟨rfl, rfl⟩) fun vl s2 ⟨l, H2, I2, pl, el, e2⟩ => ?_)
  subst el e2
  refine thn (po_none.run pins s2 σ H2 (fun o H3 => o = none ∧ H3 = H2) I2 ⟨rfl, rfl⟩) fun vu s3 ⟨u, H3, I3, pu, eu, e3⟩ => ?_
  subst eu e3
  refine thn (hst.run pins s3 σ H3 (fun o H4 => o = some (-1) ∧ H4 = H3) I3 ⟨1, rfl, -1, rfl, rfl, rfl⟩) fun vs s4 ⟨o, H4, I4, ps, eo, e4⟩ => ?_
  subst eo e4
  have I5 : Inv X pins σ H4 { s4 with heap := s4.heap.push { cls := .type "slice", data := .fields #[vl, vu, vs] } } := I4.kept (t' := s4.toks) fun b ob q => Heap.get?_push_of_some _ q
  obtain ⟨its, r, ht, hz⟩ := I5.tuple hx
  have hlen := r.length
  show wpAny (model X.prog X.w) X.A (subscriptTail e (.Slice none none (some (.UnaryOp .USub (.Constant (.int 1) k p1) p2)) p3) (.ref a) (.ref s4.heap.objs.size)) (EP X pins σ Q) X.xe { s4 with heap := s4.heap.push { cls := .type "slice", data := .fields #[vl, vu, vs] } }
  refine PyProof.Rows.tail_any (ops := [.ref a, .ref s4.heap.objs.size]) ht.typeIs (PyProof.Rows.slot_tuple_getitem.lookup) ?_ (by with_unfolding_all rfl)
  refine getItem_tuple_rev ht (Heap.IsSliceOf.new _ vl vu vs) pl pu ps ?_ (by rw [List.size_toArray]; omega)
  refine ⟨.ref _, _, I5.laid (t' := s4.toks) (o := .tup xs.reverse) (fun b ob q => Heap.get?_push_of_some _ q) (Nat.le_refl _) ?_, rfl, q _ (I5.hok.fresh (Nat.le_refl _))⟩
  exact ⟨by rw [List.length_reverse]; exact hz, _, r.reverse, PyProof.Rows.IsTup.new _ _⟩
end HH

namespace HH
open PySem PySem.Spec PyProof.Rows L2
/-! ### enumerate(tuple) -/
theorem meets_enum1 {v : Value} {o : Obj} {H : Heap → Prop} (B : Begins v o H) :
    Meets (Builtin.«enumerate.__new__» ⟨[.type "enumerate", v], []⟩) (fun _ R s => H s.heap ∧
      R (.ok (.ret (.ref (s.heap.push o).objs.size))) { s with heap := (s.heap.push o).push { cls := .type "enumerate", data := .fields #[.none, .bool false, .ref s.heap.objs.size, rawInt 0, .none, .none] } }) :=
  .of_wp fun prog w A R s h => by
    obtain ⟨hp, g, d, tk, os⟩ := s; obtain ⟨h1, h⟩ := h
    have hsub := sub_enumerate
    have q1 : ∀ {A' : Around} {E : Value → Shared → Prop} {Q : Value → Shared → Prop}, Q (.ref hp.objs.size) ⟨hp.push o, g, d, tk, os⟩ → wpAny (model prog w) A' (pyIter v) Q E ⟨hp, g, d, tk, os⟩ :=
      fun q => B.iter prog w _ _ ⟨hp, g, d, tk, os⟩ _ h1 q
    wp_walk using q1
    refine wpAny_stack_any fun st => wpAny_pure ?_
    split
    · rename_i c _ _ _ _ _
      cases (c == Value.type "enumerate")
      · wp_walk using q1
        exact ⟨_, rfl, h⟩
      · wp_walk using q1
        exact ⟨_, rfl, h⟩
    · wp_walk using q1
      exact ⟨_, rfl, h⟩
section
variable {prog : Program} {w : World} {A : Around} {E : Value → Shared → Prop} {s : Shared}
theorem enum_begins1 {v : Value} {o : Obj} {H : Heap → Prop} {Q : Value → Shared → Prop} (B : Begins v o H) (h1 : H s.heap)
    (h : ∀ h', IsEnum h' (s.heap.objs.size + 1) s.heap.objs.size 0 .none → h'.get? s.heap.objs.size = some o → h'.objs.size = s.heap.objs.size + 2 →
      (∀ b o, s.heap.get? b = some o → h'.get? b = some o) → Q (.ref (s.heap.objs.size + 1)) { s with heap := h' }) :
    wpAny (model prog w) A (call (.type "enumerate") [v]) Q E s := by
  refine callType_new F.called_enumerate (by decide) (F.typeCall_enumerate_1 _) (F.newCall_enumerate_1 _) (fun obj => F.args_object_init_2 obj _) F.entry_enumerate_new
    (meets_enum1 B) ⟨h1, ?_⟩
  have hz : (s.heap.push o).objs.size = s.heap.objs.size + 1 := Heap.size_push ..
  show _ ∧ _
  rw [hz]
  have he : IsEnum ((s.heap.push o).push { cls := .type "enumerate", data := .fields #[.none, .bool false, .ref s.heap.objs.size, rawInt 0, .none, .none] }) (s.heap.objs.size + 1) s.heap.objs.size 0 .none := by
    have := Heap.get?_push_size (s.heap.push o) (o := { cls := .type "enumerate", data := .fields #[.none, .bool false, .ref s.heap.objs.size, rawInt 0, .none, .none] }) rfl
    rw [hz] at this; exact this
  refine ⟨⟨_, he, rfl⟩, h _ he (Heap.get?_push_of_some _ (Heap.get?_push_size _ B.free)) (by rw [Heap.size_push, hz]) fun b o x => Heap.get?_push_of_some _ (Heap.get?_push_of_some _ x)⟩
end
def IteT (K : PySem.W.Frag) (a : Addr) : It :=
  ⟨fun i H => ∃ (xs : List V) (x : V), SqT K H a xs ∧ xs[i]? = some x, fun i H v H' => ∃ T x, v = .ref T ∧ H T = none ∧ H' = upd H T (.tup [.int (i : Nat), x]) ∧ ∀ xs, SqT K H a xs → xs[i]? = some x, fun i H => ∃ xs : List V, SqT K H a xs ∧ xs.length = i⟩
theorem turn_enumT {P : Program} {w : World} {K : PySem.W.Frag} {elts : List Expr} {kk : Nat} {tpos : Pos} (a e it : Addr) (hai : a ≠ it) (hae : a ≠ e) :
    Turn P w K (.Tuple elts kk tpos) (IteT K a) [e, it] e (fun i h => (∃ old, IsEnum h e it ((i : Nat) : Int) old) ∧ h.IsTupleIter it a i ∧ e ≠ it) where
  mem := by simp
  obj := fun i h st b hb => by
    obtain ⟨⟨old, he⟩, ⟨o, ho, hc, hd⟩, _⟩ := st
    have e' : b = e ∨ b = it := by simpa using hb
    rcases e' with z | z
    · rw [z]; exact ⟨_, he, fun v q => nomatch q⟩
    · rw [z]; exact ⟨o, ho, fun v q => by rw [hd] at q; cases q⟩
  keep := fun i h h' st k => let ⟨⟨old, he⟩, hi, hne⟩ := st; ⟨⟨old, k e (by simp) _ he⟩, hi.at fun o q => k it (by simp) o q, hne⟩
  item := by
    intro X hP hw hK hc i pins s σ H E I hf st hg
    subst hP hw hK
    obtain ⟨⟨old, he⟩, hit, hne⟩ := st
    obtain ⟨xs, x, hq, hx⟩ := hg
    obtain ⟨its, rv, p, hz⟩ := I.tuple hq
    obtain ⟨u, hu, ru⟩ := rv.get hx
    have hel : e < s.heap.objs.size := Heap.lt_size he
    have hil : it < s.heap.objs.size := by obtain ⟨_, q, _⟩ := hit; exact Heap.lt_size q
    have hlt : i < its.toArray.size := by
      have := (List.getElem?_eq_some_iff.mp hu).1
      simpa using this
    refine wpAny_pyNext_enum_itemC (Draws.tuple (prog := X.prog) (w := X.w) (A := X.A.in1) (I.ok.hd hc) it a hai its.toArray) he ⟨hit, p⟩ hlt hne (by simp [hne, Ne.symm hae]) fun y h' tk hy ho st' hT hsz hk => ?_
    have ey : y = u := by
      have h1 : its.toArray[i]? = some u := by simpa using hu
      exact Option.some.inj (hy.symm.trans h1)
    subst ey
    refine ⟨_, rfl, wpAny_letOwnedTupleGo_enum (s := { s with heap := h', toks := tk + 1 }) ho fun h'' he' sb => ?_⟩
    have hT2 : h''.get? s.heap.objs.size = some { cls := .type "tuple", data := .seq #[.int i tk, y] } := (sb.2 _ (Nat.ne_of_gt hel)).trans hT
    have new : ObjOk X.prog X.w (upd H s.heap.objs.size (.tup [.int (i : Nat), x])) h'' s.heap.objs.size (.tup [.int (i : Nat), x]) :=
      ⟨by show 2 ≤ sizeLine; decide, [.int i tk, y], .cons ⟨_, rfl⟩ (.cons ru .nil), ⟨_, hT2, rfl, _, rfl⟩⟩
    have I1 : Inv X pins σ (upd H s.heap.objs.size (.tup [.int (i : Nat), x])) { s with heap := h'', toks := tk + 1 } :=
      I.turnedNew (ch := [e, it]) (fun b ob hb q => (sb.2 b (fun z => hb (by simp [z]))).trans (hk b ob (fun z => hb (by simp [z])) (fun z => hb (by simp [z])) q)) hf (Nat.le_refl _) new
    refine ⟨.ref s.heap.objs.size, _, I1, rfl, ⟨_, x, rfl, I.hok.fresh (Nat.le_refl _), rfl, fun ys hy => by rw [I.tuple_inj hy hq]; exact hx⟩, ⟨⟨y, ?_⟩, st'.1.at fun o q => (sb.2 it (Ne.symm hne)).trans q, hne⟩, fun b hb => ?_⟩
    · have e1 : ((i + 1 : Nat) : Int) = (i : Int) + 1 := by omega
      rw [e1]; exact he'
    · have hb' : b < s.heap.objs.size := by
        have e' : b = e ∨ b = it := by simpa using hb
        rcases e' with z | z
        · rw [z]; exact hel
        · rw [z]; exact hil
      rw [upd_ne (Nat.ne_of_lt hb')]
      exact (hf b hb).1
  done := by
    intro X hP hw hK hc i pins s σ H E I hf st hg
    subst hP hw hK
    obtain ⟨⟨old, he⟩, hit, hne⟩ := st
    obtain ⟨xs, hq, hx⟩ := hg
    obtain ⟨its, rv, p, hz⟩ := I.tuple hq
    obtain ⟨f0, f1, f2, f3, f4, f5⟩ := hf it (by simp)
    have hl := rv.length
    have hn : its.toArray.size = i := by simp; omega
    exact wpAny_pyNext_enum_endD (Draws.tuple (prog := X.prog) (w := X.w) (A := X.A.in1) (I.ok.hd hc) it a hai its.toArray) he (show _ ∧ _ from ⟨by rw [hn]; exact hit, p⟩) fun h' eb => ⟨rfl, I.turned (t' := s.toks) (fun b o hb q => eb b o hb q) f0 f1 f3 f4 f5⟩
  self := fun A i s Q E st h => let ⟨⟨_, he⟩, _⟩ := st; wpAny_pyIter_enum he h
def iEnumT (K : PySem.W.Frag) (ta : TA) : TI := fun σ H R => ta σ H fun vs H1 => ∃ a xs, vs = [.ref a] ∧ SqT K H1 a xs ∧ R (IteT K a) H1
theorem pi_enumT {X : Cx} {e : Expr} {ta : TA} {p pos tpos : Pos} {elts : List Expr} {kk : Nat} (hg : Gl X "enumerate") (hm : X.mg "enumerate" = none) (ha : PA X [e] ta) (hs : starEach [e] X.env = [(false, eval e X.env)] := by rfl) :
    PI X (.Tuple elts kk tpos) (.Call (.Name "enumerate" p) [e] [] pos) (iEnumT X.K ta) := by
  refine ⟨fun pins s σ H R I h => ?_⟩
  refine Call_ (ld_blt I hg hm boot_enumerate (PyProof.Rows.callWith_type1 (thn (ha.run pos pins s σ H _ I h) fun us s1 ⟨vs, H1, I1, r1, q1⟩ => ?_) hs rfl))
  obtain ⟨a, xs, ex, hq, q⟩ := q1
  subst ex
  cases r1 with
  | cons r rr =>
    cases rr
    cases r
    obtain ⟨its, rv, p', hz⟩ := I1.tuple hq
    refine enum_begins1 (begins_tuple a its.toArray) p' fun h' he hit hsz hk => wpAny_pyIter_enum he ?_
    have I2 : Inv X pins σ H1 { s1 with heap := h' } := I1.kept (t' := s1.toks) hk
    have hal : a < s1.heap.objs.size := by obtain ⟨_, q, _⟩ := p'; exact Heap.lt_size q
    have hit' : h'.IsTupleIter s1.heap.objs.size a 0 := ⟨_, hit, rfl, rfl⟩
    refine ⟨s1.heap.objs.size + 1, [s1.heap.objs.size + 1, s1.heap.objs.size], _, _, H1, rfl, I2, turn_enumT a (s1.heap.objs.size + 1) s1.heap.objs.size (Nat.ne_of_lt hal) (Nat.ne_of_lt (Nat.lt_succ_of_lt hal)), ⟨⟨.none, he⟩, hit', Nat.succ_ne_self _⟩, fun b hb => ?_, q⟩
    have e' : b = s1.heap.objs.size + 1 ∨ b = s1.heap.objs.size := by simpa using hb
    have hle : s1.heap.objs.size ≤ b := by
      rcases e' with z | z
      · rw [z]; exact Nat.le_add_right _ _
      · rw [z]; exact Nat.le_refl _
    exact I1.fpOk hle (I1.hok.fresh hle)
theorem walk_enumT {K : PySem.W.Frag} {a : Addr} {xs : List V} : Walk (IteT K a) xs.length (fun H => SqT K H a xs) (YPair (fun i => some (.int (i : Nat))) (fun i => xs[i]?)) := by
  refine ⟨fun i _ hi q => ⟨xs, xs[i], q, by simp [hi]⟩, fun _ q => ⟨xs, q, rfl⟩, fun i H v H' _ q y => ?_⟩
  obtain ⟨T, x, h1, h2, h3, h4⟩ := y
  exact ⟨T, .int (i : Nat), x, h1, h2, h3, rfl, h4 xs q⟩
instance i_enumT {K : PySem.W.Frag} {tas : TA} {σ : L2.St} {H : Hp} {R : It → Hp → Prop} : Stp (iEnumT K tas σ H R) (tas σ H fun vs H1 => ∃ a xs, vs = [.ref a] ∧ SqT K H1 a xs ∧ R (IteT K a) H1) := ⟨fun h => h⟩
end HH

namespace HH
open PySem PySem.Spec PyProof.Rows L2
/-! ### zip(tuple, list) -/
def ItzTL (K : PySem.W.Frag) (a b : Addr) : It :=
  ⟨fun i H => ∃ (xs ys : List V) (x y : V), SqT K H a xs ∧ SqL K H b ys ∧ xs[i]? = some x ∧ ys[i]? = some y,
    fun i H v H' => ∃ T x y, v = .ref T ∧ H T = none ∧ H' = upd H T (.tup [x, y]) ∧ (∀ xs, SqT K H a xs → xs[i]? = some x) ∧ ∀ ys, SqL K H b ys → ys[i]? = some y,
    fun i H => ∃ xs ys : List V, SqT K H a xs ∧ SqL K H b ys ∧ i ≤ xs.length ∧ i ≤ ys.length ∧ (i = xs.length ∨ i = ys.length)⟩
theorem turn_zipTL {P : Program} {w : World} {K : PySem.W.Frag} {elts : List Expr} {kk : Nat} {tpos : Pos} {a b z TI TO i1 i2 : Addr} (S : ZipSep2 z TI TO i1 i2 [i1, a] [i2, b]) (ha1 : a ≠ i1) (hb2 : b ≠ i2) :
    Turn P w K (.Tuple elts kk tpos) (ItzTL K a b) [z, TI, TO, i1, i2] z (fun i h => IsZip h z TI TO .none ∧ IsTupOf2 h TI (.ref i1) (.ref i2) ∧ (∃ x y, IsTupOf2 h TO x y) ∧ h.IsTupleIter i1 a i ∧ h.IsListIter i2 b i) where
  mem := by simp
  obj := fun i h st c hc => by
    obtain ⟨hz, hTI, ⟨x, y, hTO⟩, ⟨o1, e1, _, d1⟩, ⟨o2, e2, _, d2⟩⟩ := st
    have e' : c = z ∨ c = TI ∨ c = TO ∨ c = i1 ∨ c = i2 := by simpa using hc
    rcases e' with q | q | q | q | q
    · rw [q]; exact ⟨_, hz, fun v q => nomatch q⟩
    · rw [q]; exact ⟨_, hTI, fun v q => nomatch q⟩
    · rw [q]; exact ⟨_, hTO, fun v q => nomatch q⟩
    · rw [q]; exact ⟨o1, e1, fun v q => by rw [d1] at q; cases q⟩
    · rw [q]; exact ⟨o2, e2, fun v q => by rw [d2] at q; cases q⟩
  keep := fun i h h' st k => by
    obtain ⟨hz, hTI, ⟨x, y, hTO⟩, h1, h2⟩ := st
    exact ⟨k z (by simp) _ hz, k TI (by simp) _ hTI, ⟨x, y, k TO (by simp) _ hTO⟩, h1.at fun o q => k i1 (by simp) o q, h2.at fun o q => k i2 (by simp) o q⟩
  item := by
    intro X hP hw hK hc i pins s σ H E I hf st hg
    subst hP hw hK
    obtain ⟨hz, hTI, ⟨x0, y0, hTO⟩, h1, h2⟩ := st
    obtain ⟨xs, ys, x, y, hqx, hqy, hx, hy⟩ := hg
    obtain ⟨its1, rv1, p1, _⟩ := I.tuple hqx
    obtain ⟨u1, hu1, ru1⟩ := rv1.get hx
    obtain ⟨its2, rv2, p2, _⟩ := I.list hqy
    obtain ⟨u2, hu2, ru2⟩ := rv2.get hy
    have hzl : z < s.heap.objs.size := Heap.lt_size hz
    have hlt1 : i < its1.toArray.size := by
      have := (List.getElem?_eq_some_iff.mp hu1).1
      simpa using this
    have hlt2 : i < its2.toArray.size := by
      have := (List.getElem?_eq_some_iff.mp hu2).1
      simpa using this
    refine wpAny_pyNext_zipD2_item S (Draws.tuple (prog := X.prog) (w := X.w) (A := X.A.in1) (I.ok.hd hc) i1 a ha1 its1.toArray) (Draws.list (prog := X.prog) (w := X.w) (A := X.A.in1) (I.ok.hd hc) i2 b hb2 its2.toArray) hz hTI hTO ⟨h1, p1⟩ ⟨h2, p2.isList⟩ hlt1 hlt2 fun v1 v2 h' tk y1 y2 z' TO' h1' h2' hT hsz hk => ?_
    have ex : v1 = u1 := by
      have h1 : its1.toArray[i]? = some u1 := by simpa using hu1
      exact Option.some.inj (y1.symm.trans h1)
    subst ex
    have ey : v2 = u2 := by
      have h1 : its2.toArray[i]? = some u2 := by simpa using hu2
      exact Option.some.inj (y2.symm.trans h1)
    subst ey
    refine ⟨_, rfl, wpAny_letOwnedTupleGo_zip (s := { s with heap := h', toks := tk }) z' fun h'' z'' sb => ?_⟩
    have hT2 : h''.get? s.heap.objs.size = some { cls := .type "tuple", data := .seq #[v1, v2] } := (sb.2 _ (Nat.ne_of_gt hzl)).trans hT
    have new : ObjOk X.prog X.w (upd H s.heap.objs.size (.tup [x, y])) h'' s.heap.objs.size (.tup [x, y]) :=
      ⟨by show 2 ≤ sizeLine; decide, [v1, v2], .cons ru1 (.cons ru2 .nil), ⟨_, hT2, rfl, _, rfl⟩⟩
    have I1 : Inv X pins σ (upd H s.heap.objs.size (.tup [x, y])) { s with heap := h'', toks := tk } :=
      I.turnedNew (ch := [z, TI, TO, i1, i2]) (fun c o hb q => (sb.2 c (fun q' => hb (by simp [q']))).trans (hk c o (fun q' => hb (by simp [q'])) (fun q' => hb (by simp [q'])) (fun q' => hb (by simp [q'])) (fun q' => hb (by simp [q'])) q)) hf (Nat.le_refl _) new
    refine ⟨.ref s.heap.objs.size, _, I1, rfl, ⟨_, x, y, rfl, I.hok.fresh (Nat.le_refl _), rfl, (fun l hl => by rw [I.tuple_inj hl hqx]; exact hx), fun l hl => by rw [I.list_inj hl hqy]; exact hy⟩, ⟨z'', ?_, ⟨v1, v2, ?_⟩, ?_, ?_⟩, fun d hcm => ?_⟩
    · exact (sb.2 _ S.TIz).trans (hk _ _ S.TIz S.TITO S.TIi1 S.TIi2 hTI)
    · exact (sb.2 _ S.TOz).trans TO'
    · exact h1'.1.at fun o q => (sb.2 _ (Ne.symm S.zi1)).trans q
    · exact h2'.1.at fun o q => (sb.2 _ (Ne.symm S.zi2)).trans q
    · have hlt : d < s.heap.objs.size := by
        have e' : d = z ∨ d = TI ∨ d = TO ∨ d = i1 ∨ d = i2 := by simpa using hcm
        rcases e' with q | q | q | q | q
        · rw [q]; exact hzl
        · rw [q]; exact Heap.lt_size hTI
        · rw [q]; exact Heap.lt_size hTO
        · rw [q]; obtain ⟨_, e1, _⟩ := h1; exact Heap.lt_size e1
        · rw [q]; obtain ⟨_, e2, _⟩ := h2; exact Heap.lt_size e2
      rw [upd_ne (Nat.ne_of_lt hlt)]
      exact (hf d hcm).1
  done := by
    intro X hP hw hK hc i pins s σ H E I hf st hg
    subst hP hw hK
    obtain ⟨hz, hTI, ⟨x0, y0, hTO⟩, h1, h2⟩ := st
    obtain ⟨xs, ys, hqx, hqy, hi1, hi2, hend⟩ := hg
    obtain ⟨its1, rv1, p1, _⟩ := I.tuple hqx
    have l1 := rv1.length
    have hs1 : its1.toArray.size = xs.length := by simp; omega
    obtain ⟨its2, rv2, p2, _⟩ := I.list hqy
    have l2 := rv2.length
    have hs : its2.toArray.size = ys.length := by simp; omega
    exact wpAny_pyNext_zipD2_end S (Draws.tuple (prog := X.prog) (w := X.w) (A := X.A.in1) (I.ok.hd hc) i1 a ha1 its1.toArray) (Draws.list (prog := X.prog) (w := X.w) (A := X.A.in1) (I.ok.hd hc) i2 b hb2 its2.toArray) hz hTI hTO ⟨h1, p1⟩ ⟨h2, p2.isList⟩ (by rw [hs1]; exact hi1) (by rw [hs]; exact hi2) (by rw [hs, hs1]; exact hend) fun h' tk hk => ⟨rfl, I.turnedL (t' := tk) (ch := [z, TI, TO, i1, i2]) (fun c o hb q =>
      hk c o (fun q' => hb (by simp [q'])) (fun q' => hb (by simp [q'])) (fun q' => hb (by simp [q'])) (fun q' => hb (by simp [q'])) q) hf⟩
  self := fun A i s Q E st h => wpAny_pyIter_zip st.1 h
def iZipTL (K : PySem.W.Frag) (ta : TA) : TI := fun σ H R => ta σ H fun vs H1 => ∃ a b xs ys, vs = [.ref a, .ref b] ∧ SqT K H1 a xs ∧ SqL K H1 b ys ∧ R (ItzTL K a b) H1
theorem sep_newT {N a b : Nat} (la : a < N) (lb : b < N) : ZipSep2 (N + 4) (N + 2) (N + 3) N (N + 1) [N, a] [N + 1, b] where
  TIz := show (N + 2 : Nat) ≠ N + 4 by omega
  TOz := show (N + 3 : Nat) ≠ N + 4 by omega
  TITO := show (N + 2 : Nat) ≠ N + 3 by omega
  TIi1 := show (N + 2 : Nat) ≠ N by omega
  mem1 := List.mem_cons_self
  zf1 := fun h => by
    rcases List.mem_cons.mp h with h | h
    · exact absurd (show (N + 4 : Nat) = N from h) (by omega)
    · exact absurd (show (N + 4 : Nat) = a from List.mem_singleton.mp h) (by omega)
  Tf1 := fun h => by
    rcases List.mem_cons.mp h with h | h
    · exact absurd (show (N + 3 : Nat) = N from h) (by omega)
    · exact absurd (show (N + 3 : Nat) = a from List.mem_singleton.mp h) (by omega)
  TIi2 := show (N + 2 : Nat) ≠ N + 1 by omega
  mem2 := List.mem_cons_self
  zf2 := fun h => by
    rcases List.mem_cons.mp h with h | h
    · exact absurd (show (N + 4 : Nat) = N + 1 from h) (by omega)
    · exact absurd (show (N + 4 : Nat) = b from List.mem_singleton.mp h) (by omega)
  Tf2 := fun h => by
    rcases List.mem_cons.mp h with h | h
    · exact absurd (show (N + 3 : Nat) = N + 1 from h) (by omega)
    · exact absurd (show (N + 3 : Nat) = b from List.mem_singleton.mp h) (by omega)
  sep1_2 := fun h => by
    rcases List.mem_cons.mp h with h | h
    · exact absurd (show (N : Nat) = N + 1 from h) (by omega)
    · exact absurd (show (N : Nat) = b from List.mem_singleton.mp h) (by omega)
  sep2_1 := fun h => by
    rcases List.mem_cons.mp h with h | h
    · exact absurd (show (N + 1 : Nat) = N from h) (by omega)
    · exact absurd (show (N + 1 : Nat) = a from List.mem_singleton.mp h) (by omega)
theorem pi_zipTL {X : Cx} {e e2 : Expr} {ta : TA} {p pos tpos : Pos} {elts : List Expr} {kk : Nat} (hg : Gl X "zip") (hm : X.mg "zip" = none) (ha : PA X [e, e2] ta)
    (hs : starEach [e, e2] X.env = (false, eval e X.env) :: starEach [e2] X.env := by rfl) (hpl : (backTo pos (starEach [e2] X.env)).any (·.1) = false := by rfl) :
    PI X (.Tuple elts kk tpos) (.Call (.Name "zip" p) [e, e2] [] pos) (iZipTL X.K ta) := by
  refine ⟨fun pins s σ H R I h => ?_⟩
  refine Call_ (ld_blt I hg hm PyProof.Rows.boot_zip (PyProof.Rows.callWith_type1 (thn (ha.run pos pins s σ H _ I h) fun us s1 ⟨vs, H1, I1, r1, q1⟩ => ?_) hs hpl))
  obtain ⟨a, b, xs, ys, ex, hqx, hqy, q⟩ := q1
  subst ex
  cases r1 with
  | cons r rr =>
    cases rr with
    | cons r' rr =>
      cases rr
      cases r
      cases r'
      obtain ⟨its1, rv1, p1, _⟩ := I1.tuple hqx
      have la : a < s1.heap.objs.size := by
        obtain ⟨o1, ho1, _⟩ := id p1
        exact Heap.lt_size ho1
      obtain ⟨its2, rv2, p2, _⟩ := I1.list hqy
      have lb : b < s1.heap.objs.size := p2.lt
      refine zip_begins2 (begins_tuple a its1.toArray) (begins_list b its2.toArray) p1 p2.isList fun h' hz hTI hTO h1 h2 hsz hk => wpAny_pyIter_zip hz ?_
      have I2 : Inv X pins σ H1 { s1 with heap := h' } := I1.kept (t' := s1.toks) hk
      refine ⟨s1.heap.objs.size + 4, [s1.heap.objs.size + 4, s1.heap.objs.size + 2, s1.heap.objs.size + 3, s1.heap.objs.size, s1.heap.objs.size + 1], _, _, H1, rfl, I2, turn_zipTL (sep_newT la lb) (Nat.ne_of_lt la) (Nat.ne_of_lt (Nat.lt_succ_of_lt lb)), ⟨hz, hTI, ⟨_, _, hTO⟩, ⟨_, h1, rfl, rfl⟩, ⟨_, h2, rfl, rfl⟩⟩, fun c hcm => ?_, q⟩
      have e' : c = s1.heap.objs.size + 4 ∨ c = s1.heap.objs.size + 2 ∨ c = s1.heap.objs.size + 3 ∨ c = s1.heap.objs.size ∨ c = s1.heap.objs.size + 1 := by simpa using hcm
      have hle : s1.heap.objs.size ≤ c := by
        rcases e' with z | z | z | z | z
        · rw [z]; exact Nat.le_add_right _ _
        · rw [z]; exact Nat.le_add_right _ _
        · rw [z]; exact Nat.le_add_right _ _
        · rw [z]; exact Nat.le_refl _
        · rw [z]; exact Nat.le_add_right _ _
      exact I1.fpOk hle (I1.hok.fresh hle)
theorem walk_zipTL {K : PySem.W.Frag} {a b : Addr} {xs ys : List V} {n : Nat} (hn : n = min xs.length ys.length) : Walk (ItzTL K a b) n (fun H => SqT K H a xs ∧ SqL K H b ys) (fun i H v H' => ∃ T x y, v = .ref T ∧ H T = none ∧ H' = upd H T (.tup [x, y]) ∧ xs[i]? = some x ∧ ys[i]? = some y) := by
  refine ⟨fun i _ hi q => ⟨xs, ys, xs[i]'(by omega), ys[i]'(by omega), q.1, q.2, List.getElem?_eq_getElem _, List.getElem?_eq_getElem _⟩, fun _ q => ⟨xs, ys, q.1, q.2, by omega, by omega, by omega⟩, fun i H v H' _ q y => ?_⟩
  obtain ⟨T, x, y, h1, h2, h3, h4, h5⟩ := y
  exact ⟨T, x, y, h1, h2, h3, h4 xs q.1, h5 ys q.2⟩
theorem w_iZTL {K : PySem.W.Frag} {ta : TA} {σ : L2.St} {H : Hp} {R : It → Hp → Prop} (h : ta σ H fun vs H1 => ∃ a b xs ys, vs = [.ref a, .ref b] ∧ SqT K H1 a xs ∧ SqL K H1 b ys ∧ R (ItzTL K a b) H1) : iZipTL K ta σ H R := h
end HH

namespace HH
open PySem PySem.Spec L2
local macro_rules | `(tactic| walk_at "cy") => `(tactic| first
  | assumption
  | exact L2.upd_same
  | exact L2.sqL_new
  | exact L2.sqT_new
  | exact L2.sqL_at (by assumption)
  | exact L2.sqT_at (by assumption)
  | (refine' L2.Same.seq (by assumption) ?k0; (case k0 => walk_at "cy"))
  | (refine' L2.Same.sqT (by assumption) ?k0; (case k0 => walk_at "cy"))
  | (refine' L2.Same.dat (by assumption) ?k0; (case k0 => walk_at "cy"))
  | (refine' (by assumption : L2.Same _ _) _ _ ?k0; (case k0 => walk_at "cy"))
  | (refine' L2.Same.seq (L2.same_new (by assumption)) ?k0; (case k0 => walk_at "cy"))
  | (refine' L2.Same.sqT (L2.same_new (by assumption)) ?k0; (case k0 => walk_at "cy"))
  | (refine' L2.Same.dat (L2.same_new (by assumption)) ?k0; (case k0 => walk_at "cy"))
  | (refine' L2.same_new (by assumption) _ _ ?k0; (case k0 => walk_at "cy"))
  | (refine' L2.Mv.sqT (by assumption) ?k0; (case k0 => walk_at "cy")))
local macro_rules | `(tactic| walk_at "w") => `(tactic| repeat (first
  | refine HH.stp ?_
  | with_reducible refine L2.iteT ?_
  | with_reducible refine L2.iteF ?_
  | ((with_reducible refine' HH.w_gtup ?k1 ?k2 ?_); (case k1 => walk_at "cy"); (case k2 => exact rfl))
  | ((with_reducible refine' HH.w_ixT ?k1 ?k2 ?_); (case k1 => walk_at "cy"); (case k2 => exact rfl))
  | ((with_reducible refine' HH.w_ixL ?k1 ?k2 ?_); (case k1 => walk_at "cy"); (case k2 => exact rfl))
  | ((with_reducible refine' HH.w_lenL ?k1 ?_); (case k1 => walk_at "cy"))
  | ((with_reducible refine' HH.w_lenT ?k1 ?_); (case k1 => walk_at "cy"))
  | ((with_reducible refine' HH.w_exT ?k1 ?_); (case k1 => walk_at "cy"))
  | ((with_reducible refine' HH.w_exL ?k1 ?_); (case k1 => walk_at "cy"))
  | ((with_reducible refine' HH.w_tyL ?k1 ?_); (case k1 => walk_at "cy"))
  | ((with_reducible refine' HH.w_setL ?k1 ?k2 ?_); (case k1 => walk_at "cy"); (case k2 => exact rfl))
  | ((with_reducible refine' HH.w_modI ?k1 ?_); (case k1 => first | (with_reducible assumption) | omega))
  | ((with_reducible refine' HH.w_divI ?k1 ?_); (case k1 => (constructor <;> omega)))))
local macro_rules | `(tactic| walk_at "v") => `(tactic| ((repeat ((fail_if_success (with_reducible refine HH.isIf ?_)); first
  | refine HH.stp ?_
  | with_reducible refine L2.iteT ?_
  | with_reducible refine L2.iteF ?_
  | ((with_reducible refine' HH.w_gtup ?k1 ?k2 ?_); (case k1 => walk_at "cy"); (case k2 => exact rfl))
  | ((with_reducible refine' HH.w_ixT ?k1 ?k2 ?_); (case k1 => walk_at "cy"); (case k2 => exact rfl))
  | ((with_reducible refine' HH.w_ixL ?k1 ?k2 ?_); (case k1 => walk_at "cy"); (case k2 => exact rfl))
  | ((with_reducible refine' HH.w_lenL ?k1 ?_); (case k1 => walk_at "cy"))
  | ((with_reducible refine' HH.w_lenT ?k1 ?_); (case k1 => walk_at "cy"))
  | ((with_reducible refine' HH.w_exT ?k1 ?_); (case k1 => walk_at "cy"))
  | ((with_reducible refine' HH.w_exL ?k1 ?_); (case k1 => walk_at "cy"))
  | ((with_reducible refine' HH.w_tyL ?k1 ?_); (case k1 => walk_at "cy"))
  | ((with_reducible refine' HH.w_setL ?k1 ?k2 ?_); (case k1 => walk_at "cy"); (case k2 => exact rfl))
  | ((with_reducible refine' HH.w_modI ?k1 ?_); (case k1 => first | (with_reducible assumption) | omega))
  | ((with_reducible refine' HH.w_divI ?k1 ?_); (case k1 => (constructor <;> omega)))))); (try (with_reducible refine HH.isIf ?_)))
/-! ### folk: data and their readings -/
inductive Folk where
  | hears (a b : Nat)
  | ctr (tw : Bool) (e c : Nat)
  deriving DecidableEq, Inhabited
def kindOf : Bool → Str
  | true => "twice"
  | false => "drop"
def sg (c : Nat) : Str := ⟨#[c]⟩
def folkV : Folk → List V
  | .hears a b => [.str "hears", .str (sg a), .str (sg b)]
  | .ctr tw e c => [.str (kindOf tw), .int (e : Nat), .int (c : Nat)]
def folkD : Folk → PyData
  | .hears a b => .tuple [.str "hears", .str (sg a), .str (sg b)]
  | .ctr tw e c => .tuple [.str (kindOf tw), .int (e : Nat), .int (c : Nat)]
abbrev Row := List Folk
def rowD (r : Row) : PyData := .tuple (r.map folkD)
def isSmall (c : Nat) : Bool := decide (97 ≤ c) && decide (c ≤ 122)
def Folk.ok : Folk → Bool
  | .hears a b => isSmall a && isSmall b && decide (a ≠ b)
  | .ctr _ e c => decide (2 ≤ e) && decide (e ≤ 6) && decide (c < e)
def Row.Ok (r : Row) : Prop := r.length ≤ 4 ∧ ∀ f ∈ r, f.ok = true
mutual
/-- texts of at most 10,000 signs -/
def fitD : PyData → Bool
  | .str z => decide (z.length ≤ 10000)
  | .list ds => fitDs ds
  | .tuple ds => fitDs ds
  | _ => true
def fitDs : List PyData → Bool
  | [] => true
  | d :: ds => fitD d && fitDs ds
end
theorem fitDs_get : ∀ {ds : List PyData} {d : PyData}, fitDs ds = true → d ∈ ds → fitD d = true
  | e :: ds, d, h, m => by
    have h' : (fitD e && fitDs ds) = true := h
    rw [Bool.and_eq_true] at h'
    rcases List.mem_cons.mp m with rfl | m
    · exact h'.1
    · exact fitDs_get h'.2 m
/-! what the program tests of any thing -/
def isWithinD : PyData → Int → Int → Bool
  | .int n, lo, hi => decide (lo ≤ n) && decide (n ≤ hi)
  | _, _, _ => false
def isLetterD : PyData → Bool
  | .str z => decide (z.length = 1) && isSmall (z.cps.getD 0 0)
  | _ => false
def belowD : PyData → PyData → Bool
  | .int n, e => isWithinD e 0 (n - 1)
  | _, _ => false
def isOneD : PyData → Bool
  | .tuple [.str k, d, e] => if k = "hears" then isLetterD d && (isLetterD e && !PyData.eqv d e) else
      if k = "drop" ∨ k = "twice" then isWithinD d 2 6 && belowD d e else false
  | _ => false
def isRowD : PyData → Bool
  | .tuple ds => decide (ds.length ≤ 4) && ds.all isOneD
  | _ => false
section
variable {K : PySem.W.Frag} {H H' : Hp} {x : V}
theorem folk_inv {f : Folk} (h : Dp K H x (folkD f)) : ∃ a, x = .ref a ∧ SqT K H a (folkV f) := by
  cases f with
  | hears a b =>
    obtain ⟨p, xs, rfl, hs, ha⟩ := dp_tup h
    cases ha with
    | cons h1 t => cases t with
      | cons h2 t => cases t with
        | cons h3 t =>
          cases t
          cases dp_str h1; cases dp_str h2; cases dp_str h3
          exact ⟨p, rfl, hs⟩
  | ctr tw e c =>
    obtain ⟨p, xs, rfl, hs, ha⟩ := dp_tup h
    cases ha with
    | cons h1 t => cases t with
      | cons h2 t => cases t with
        | cons h3 t =>
          cases t
          cases dp_str h1; cases dp_int h2; cases dp_int h3
          exact ⟨p, rfl, hs⟩
theorem folk_of {f : Folk} {a : Addr} (h : SqT K H a (folkV f)) : Dp K H (.ref a) (folkD f) := by
  cases f with
  | hears a b => exact .tup h (.cons (.str _) (.cons (.str _) (.cons (.str _) .nil)))
  | ctr tw e c => exact .tup h (.cons (.str _) (.cons (.int _) (.cons (.int _) .nil)))
theorem noL_folk (f : Folk) : noL (folkD f) = true := by cases f <;> rfl
theorem noLs_folks : ∀ r : Row, noLs (r.map folkD) = true
  | [] => rfl
  | f :: r => by
    show (noL (folkD f) && noLs (r.map folkD)) = true
    rw [noL_folk f, noLs_folks r]
    rfl
theorem noL_row (r : Row) : noL (rowD r) = true := noLs_folks r
end
section
variable (K : PySem.W.Frag)
def sp_is_within : Sp := fun vs H Q _ => ∃ (x : V) (lo hi : Int) (d : PyData), vs = [x, .int lo, .int hi] ∧ Dp K H x d ∧ Q (.bl (isWithinD d lo hi)) H
def sp_is_letter : Sp := fun vs H Q _ => ∃ (x : V) (d : PyData), vs = [x] ∧ Dp K H x d ∧ fitD d = true ∧ Q (.bl (isLetterD d)) H
def sp_is_one : Sp := fun vs H Q _ => ∃ (x : V) (d : PyData), vs = [x] ∧ Dp K H x d ∧ fitD d = true ∧ ∀ H', Same H H' → Q (.bl (isOneD d)) H'
def sp_is_row : Sp := fun vs H Q _ => ∃ (x : V) (d : PyData), vs = [x] ∧ Dp K H x d ∧ fitD d = true ∧ ∀ H', Same H H' → Q (.bl (isRowD d)) H'
def sp_need_row : Sp := fun vs H Q _ => ∃ (x : V) (d : PyData), vs = [x] ∧ Dp K H x d ∧ fitD d = true ∧ isRowD d = true ∧ ∀ H', Same H H' → Q .non H'
theorem len_is_within : ∀ vs H Q E, sp_is_within K vs H Q E → vs.length = 3 := by rintro _ _ _ _ ⟨_, _, _, _, rfl, _⟩; rfl
theorem len_is_letter : ∀ vs H Q E, sp_is_letter K vs H Q E → vs.length = 1 := by rintro _ _ _ _ ⟨_, _, rfl, _⟩; rfl
theorem len_is_one : ∀ vs H Q E, sp_is_one K vs H Q E → vs.length = 1 := by rintro _ _ _ _ ⟨_, _, rfl, _⟩; rfl
theorem len_is_row : ∀ vs H Q E, sp_is_row K vs H Q E → vs.length = 1 := by rintro _ _ _ _ ⟨_, _, rfl, _⟩; rfl
theorem len_need_row : ∀ vs H Q E, sp_need_row K vs H Q E → vs.length = 1 := by rintro _ _ _ _ ⟨_, _, rfl, _⟩; rfl
end
/-! isinstance of data -/
def tyD : PyData → String
  | .none => "NoneType"
  | .bool _ => "bool"
  | .int _ => "int"
  | .str _ => "str"
  | .list _ => "list"
  | .tuple _ => "tuple"
  | .dict _ => "dict"
theorem ty_of {K : PySem.W.Frag} {H : Hp} {x : V} {d : PyData} (h : Dp K H x d) : TyX K H x (.type (tyD d)) := by
  cases h with
  | non => exact .base .non
  | bl b => exact .base (.bl b)
  | int i => exact .base (.int i)
  | str z => exact .base (.str z)
  | lst hs ha =>
    rcases hs with (h | ⟨o, h⟩) | ⟨o, its, n, e, c, _⟩
    · exact .base (.lst h)
    · exact .base (.frz h)
    · exact .kList e c
  | tup hs ha =>
    rcases hs with (h | ⟨o, h⟩) | ⟨o, its, n, e, c, _⟩
    · exact .base (.tup h)
    · exact .fTuple h
    · exact .kTuple e c
theorem w_isi {K : PySem.W.Frag} {H : Hp} {Q : VK} {x : V} {d : PyData} {c : String} {b : Bool} (h : Dp K H x d) (e : kitB (tyD d) c = some b) (q : Q (.bl b) H) : rIsi K [x, .ty c] H Q :=
  ⟨x, .ty c, .type (tyD d), .type c, b, rfl, .ty c, ty_of h, kit_ty e, q⟩
def isIntD : PyData → Bool | .int _ => true | .bool _ => true | _ => false
def isBoolD : PyData → Bool | .bool _ => true | _ => false
def isStrD : PyData → Bool | .str _ => true | _ => false
def isTupD : PyData → Bool | .tuple _ => true | _ => false
def isLstD : PyData → Bool | .list _ => true | _ => false
theorem kit_int (d : PyData) : kitB (tyD d) "int" = some (isIntD d) := by
  cases d with
  | none => exact (by decide +kernel : kitB "NoneType" "int" = some false)
  | bool _ => exact (by decide +kernel : kitB "bool" "int" = some true)
  | int _ => exact (by decide +kernel : kitB "int" "int" = some true)
  | str _ => exact (by decide +kernel : kitB "str" "int" = some false)
  | list _ => exact (by decide +kernel : kitB "list" "int" = some false)
  | tuple _ => exact (by decide +kernel : kitB "tuple" "int" = some false)
  | dict _ => exact (by decide +kernel : kitB "dict" "int" = some false)
theorem w_is_int {K : PySem.W.Frag} {H : Hp} {Q : VK} {x : V} {d : PyData} (h : Dp K H x d) (q : Q (.bl (isIntD d)) H) : rIsi K [x, .ty "int"] H Q := w_isi h (kit_int d) q
theorem kit_bool (d : PyData) : kitB (tyD d) "bool" = some (isBoolD d) := by
  cases d with
  | none => exact (by decide +kernel : kitB "NoneType" "bool" = some false)
  | bool _ => exact (by decide +kernel : kitB "bool" "bool" = some true)
  | int _ => exact (by decide +kernel : kitB "int" "bool" = some false)
  | str _ => exact (by decide +kernel : kitB "str" "bool" = some false)
  | list _ => exact (by decide +kernel : kitB "list" "bool" = some false)
  | tuple _ => exact (by decide +kernel : kitB "tuple" "bool" = some false)
  | dict _ => exact (by decide +kernel : kitB "dict" "bool" = some false)
theorem w_is_bool {K : PySem.W.Frag} {H : Hp} {Q : VK} {x : V} {d : PyData} (h : Dp K H x d) (q : Q (.bl (isBoolD d)) H) : rIsi K [x, .ty "bool"] H Q := w_isi h (kit_bool d) q
theorem kit_str (d : PyData) : kitB (tyD d) "str" = some (isStrD d) := by
  cases d with
  | none => exact (by decide +kernel : kitB "NoneType" "str" = some false)
  | bool _ => exact (by decide +kernel : kitB "bool" "str" = some false)
  | int _ => exact (by decide +kernel : kitB "int" "str" = some false)
  | str _ => exact (by decide +kernel : kitB "str" "str" = some true)
  | list _ => exact (by decide +kernel : kitB "list" "str" = some false)
  | tuple _ => exact (by decide +kernel : kitB "tuple" "str" = some false)
  | dict _ => exact (by decide +kernel : kitB "dict" "str" = some false)
theorem w_is_str {K : PySem.W.Frag} {H : Hp} {Q : VK} {x : V} {d : PyData} (h : Dp K H x d) (q : Q (.bl (isStrD d)) H) : rIsi K [x, .ty "str"] H Q := w_isi h (kit_str d) q
theorem kit_tuple (d : PyData) : kitB (tyD d) "tuple" = some (isTupD d) := by
  cases d with
  | none => exact (by decide +kernel : kitB "NoneType" "tuple" = some false)
  | bool _ => exact (by decide +kernel : kitB "bool" "tuple" = some false)
  | int _ => exact (by decide +kernel : kitB "int" "tuple" = some false)
  | str _ => exact (by decide +kernel : kitB "str" "tuple" = some false)
  | list _ => exact (by decide +kernel : kitB "list" "tuple" = some false)
  | tuple _ => exact (by decide +kernel : kitB "tuple" "tuple" = some true)
  | dict _ => exact (by decide +kernel : kitB "dict" "tuple" = some false)
theorem w_is_tuple {K : PySem.W.Frag} {H : Hp} {Q : VK} {x : V} {d : PyData} (h : Dp K H x d) (q : Q (.bl (isTupD d)) H) : rIsi K [x, .ty "tuple"] H Q := w_isi h (kit_tuple d) q
theorem kit_list (d : PyData) : kitB (tyD d) "list" = some (isLstD d) := by
  cases d with
  | none => exact (by decide +kernel : kitB "NoneType" "list" = some false)
  | bool _ => exact (by decide +kernel : kitB "bool" "list" = some false)
  | int _ => exact (by decide +kernel : kitB "int" "list" = some false)
  | str _ => exact (by decide +kernel : kitB "str" "list" = some false)
  | list _ => exact (by decide +kernel : kitB "list" "list" = some true)
  | tuple _ => exact (by decide +kernel : kitB "tuple" "list" = some false)
  | dict _ => exact (by decide +kernel : kitB "dict" "list" = some false)
theorem w_is_list {K : PySem.W.Frag} {H : Hp} {Q : VK} {x : V} {d : PyData} (h : Dp K H x d) (q : Q (.bl (isLstD d)) H) : rIsi K [x, .ty "list"] H Q := w_isi h (kit_list d) q
def t_is_within (K : PySem.W.Frag) : TS :=
  (tRet (tAndV (tCB (rIsi K) (tCons (tVar 0) (tCons (tC (.ty "int")) tNil))) (tAndV (tNotV (tCB (rIsi K) (tCons (tVar 0) (tCons (tC (.ty "bool")) tNil)))) (tChain rLeI rLeI (tVar 1) (tVar 0) (tVar 2)))))

def t_is_letter (K : PySem.W.Frag) : TS :=
  (tRet (tAndV (tCB (rIsi K) (tCons (tVar 0) (tCons (tC (.ty "str")) tNil))) (tAndV (tOp rEq (tCB rLenT (tCons (tVar 0) tNil)) (tC (.int 1))) (tOp rInC (tVar 0) (tC (.str "abcdefghijklmnopqrstuvwxyz"))))))

def t_is_one (K : PySem.W.Frag) : TS :=
  (tSeq (tIfS (tOr (tNot (tB (tCB (rIsi K) (tCons (tVar 0) (tCons (tC (.ty "tuple")) tNil))))) (tOr (tTest (tOp rNe (tCB (rLenQ K) (tCons (tVar 0) tNil)) (tC (.int 3)))) (tNot (tB (tCB (rIsi K) (tCons (tOp (rIxT K) (tVar 0) (tC (.int 0))) (tCons (tC (.ty "str")) tNil))))))) (tRet (tC (.bl false))) tNext)
  (tSeq (tIfS (tTest (tOp rEq (tOp (rIxT K) (tVar 0) (tC (.int 0))) (tC (.str "hears")))) (tRet (tAndV (tCall (sp_is_letter K) [] E0 (tCons (tOp (rIxT K) (tVar 0) (tC (.int 1))) tNil)) (tAndV (tCall (sp_is_letter K) [] E0 (tCons (tOp (rIxT K) (tVar 0) (tC (.int 2))) tNil)) (tOp rNe (tOp (rIxT K) (tVar 0) (tC (.int 1))) (tOp (rIxT K) (tVar 0) (tC (.int 2))))))) tNext)
  (tSeq (tIfS (tOr (tTest (tOp (rIn K true) (tOp (rIxT K) (tVar 0) (tC (.int 0))) (tTup (tCons (tC (.str "drop")) (tCons (tC (.str "twice")) tNil))))) (tNot (tB (tCall (sp_is_within K) [] E0 (tCons (tOp (rIxT K) (tVar 0) (tC (.int 1))) (tCons (tC (.int 2)) (tCons (tC (.int 6)) tNil))))))) (tRet (tC (.bl false))) tNext)
  (tRet (tCall (sp_is_within K) [] E0 (tCons (tOp (rIxT K) (tVar 0) (tC (.int 2))) (tCons (tC (.int 0)) (tCons (tOp rSubI (tOp (rIxT K) (tVar 0) (tC (.int 1))) (tC (.int 1))) tNil))))))))

def t_is_row (K : PySem.W.Frag) : TS :=
  (tRet (tAndV (tCB (rIsi K) (tCons (tVar 0) (tCons (tC (.ty "tuple")) tNil))) (tAndV (tOp rLeI (tCB (rLenQ K) (tCons (tVar 0) tNil)) (tC (.int 4))) (tCB (rAll K) (tCons (tLc (iTup K (tVar 0)) (gName 1) tYes (tCall (sp_is_one K) [] E0 (tCons (tVar 1) tNil)) [1]) tNil)))))

def t_need_row (K : PySem.W.Frag) : TS :=
  (tIfS (tNot (tB (tCall (sp_is_row K) [] E0 (tCons (tVar 0) tNil)))) tNever tNext)

local macro_rules | `(tactic| walk_at "is") => `(tactic| first
  | ((with_reducible refine' w_is_int ?k1 ?_); (case k1 => walk_at "cy"))
  | ((with_reducible refine' w_is_bool ?k1 ?_); (case k1 => walk_at "cy"))
  | ((with_reducible refine' w_is_str ?k1 ?_); (case k1 => walk_at "cy"))
  | ((with_reducible refine' w_is_tuple ?k1 ?_); (case k1 => walk_at "cy"))
  | ((with_reducible refine' w_is_list ?k1 ?_); (case k1 => walk_at "cy")))
section
variable (K : PySem.W.Frag)
theorem sem_is_within : ∀ vs H Q E, sp_is_within K vs H Q E → t_is_within K { nx := fun _ H' => Q .non H', rt := Q } (start ["thing", "low", "high"] vs) H := by
  rintro vs H Q E ⟨x, lo, hi, d, rfl, hd, q⟩
  show t_is_within K _ [some x, some (.int lo), some (.int hi)] H
  unfold t_is_within
  walk_at "w"; walk_at "is"; walk_at "w"
  cases d with
  | int n =>
    cases hd
    refine iteT ?_
    walk_at "w"
    refine w_is_bool (.int n) ?_
    walk_at "w"
    refine iteT ?_
    walk_at "w"
    refine w_ifB (fun e => ?_) (fun e => ?_) <;> rw [bD_eq] at e
    · walk_at "w"
      rw [bD_eq]
      rw [show (isWithinD (PyData.int n) lo hi) = (decide (lo ≤ n) && decide (n ≤ hi)) from rfl, e] at q
      exact q
    · rw [show (isWithinD (PyData.int n) lo hi) = (decide (lo ≤ n) && decide (n ≤ hi)) from rfl, e] at q
      exact q
  | bool b =>
    cases hd
    refine iteT ?_
    walk_at "w"
    refine w_is_bool (.bl b) ?_
    walk_at "w"
    exact iteF q
  | _ => exact iteF q
theorem small_mem (c : Nat) : decide (c ∈ (Str.ofString "abcdefghijklmnopqrstuvwxyz").cps.toList) = isSmall c := by
  have e : (Str.ofString "abcdefghijklmnopqrstuvwxyz").cps.toList = [97, 98, 99, 100, 101, 102, 103, 104, 105, 106, 107, 108, 109, 110, 111, 112, 113, 114, 115, 116, 117, 118, 119, 120, 121, 122] := by decide +kernel
  rw [e]
  unfold isSmall
  by_cases h : 97 ≤ c ∧ c ≤ 122
  · obtain ⟨h1, h2⟩ := h
    rw [decide_eq_true h1, decide_eq_true h2]
    simp
    omega
  · have : ¬ (c ∈ [97, 98, 99, 100, 101, 102, 103, 104, 105, 106, 107, 108, 109, 110, 111, 112, 113, 114, 115, 116, 117, 118, 119, 120, 121, 122]) := by
      simp
      omega
    rw [decide_eq_false this]
    by_cases h1 : 97 ≤ c
    · rw [decide_eq_true h1, decide_eq_false (by omega : ¬ c ≤ 122)]
      rfl
    · rw [decide_eq_false h1]
      rfl
theorem one_sign {z : Str} (h : z.length = 1) : ∃ c, z = sg c := by
  obtain ⟨⟨l⟩⟩ := z
  have h' : l.length = 1 := h
  match l, h' with
  | [c], _ => exact ⟨c, rfl⟩
theorem lenS_sg (c : Nat) : (sg c).length = 1 := rfl
theorem sem_is_letter : ∀ vs H Q E, sp_is_letter K vs H Q E → t_is_letter K { nx := fun _ H' => Q .non H', rt := Q } (start ["thing"] vs) H := by
  rintro vs H Q E ⟨x, d, rfl, hd, hf, q⟩
  show t_is_letter K _ [some x] H
  unfold t_is_letter
  walk_at "w"; walk_at "is"; walk_at "w"
  cases d with
  | str z =>
    cases hd
    refine iteT ?_
    walk_at "w"
    refine w_lenS (szOk _ (Nat.le_trans (of_decide_eq_true hf) (by decide))) ?_
    walk_at "w"
    refine w_ifB (fun e => ?_) (fun e => ?_)
    · have e' : z.length = 1 := Int.ofNat.inj (bT e)
      obtain ⟨c, rfl⟩ := one_sign e'
      walk_at "w"
      refine w_inC ?_
      rw [bD_eq, small_mem]
      exact q
    · have e' : ¬ z.length = 1 := fun h => (bF e) (congrArg Int.ofNat h)
      rw [show isLetterD (.str z) = (decide (z.length = 1) && isSmall (z.cps.getD 0 0)) from rfl, decide_eq_false e'] at q
      exact q
  | _ => exact iteF q
theorem eqv_str (z z' : Str) : PyData.eqv (.str z) (.str z') = decide (z = z') := by
  rw [Bool.eq_iff_iff, decide_eq_true_iff]
  show (z == z') = true ↔ _
  rw [beq_iff_eq]
theorem dAll_3 {H : Hp} {vs : List V} {d1 d2 d3 : PyData} (h : DpAll K H vs [d1, d2, d3]) : ∃ x y z, vs = [x, y, z] ∧ Dp K H x d1 ∧ Dp K H y d2 ∧ Dp K H z d3 := by
  cases h with
  | cons h1 t => cases t with
    | cons h2 t => cases t with
      | cons h3 t => cases t; exact ⟨_, _, _, rfl, h1, h2, h3⟩
theorem sem_is_one : ∀ vs H Q E, sp_is_one K vs H Q E → t_is_one K { nx := fun _ H' => Q .non H', rt := Q } (start ["thing"] vs) H := by
  rintro vs H Q E ⟨x, d, rfl, hd, hf, q⟩
  show t_is_one K _ [some x] H
  unfold t_is_one
  walk_at "w"; walk_at "is"; walk_at "w"
  cases d with
  | tuple ds =>
    refine iteF ?_
    obtain ⟨a, xs, rfl, hs, ha⟩ := dp_tup hd
    walk_at "w"
    refine w_ifB (fun e => ?_) (fun e => ?_)
    · refine iteT ?_
      walk_at "w"
      have e' : ¬ ds.length = 3 := fun h => by
        rw [Bool.not_eq_true'] at e
        exact bF e (by rw [ha.len, h]; rfl)
      have : isOneD (.tuple ds) = false := by
        unfold isOneD
        split
        · rename_i h; cases h; exact absurd rfl e'
        · rfl
      rw [this] at q
      exact q H (Same.refl H)
    · have e' : ds.length = 3 := by
        rw [ha.len] at e
        have e2 : bD ((ds.length : Int) = 3) = true := by rw [Bool.not_eq_false'] at e; exact e
        have := bT e2
        omega
      match ds, e' with
      | [d1, d2, d3], _ =>
        obtain ⟨x1, x2, x3, rfl, h1, h2, h3⟩ := dAll_3 K ha
        have hf' : (fitD d1 && (fitD d2 && (fitD d3 && true))) = true := hf
        simp only [Bool.and_eq_true] at hf'
        obtain ⟨f1, f2, f3, _⟩ := hf'
        walk_at "w"; walk_at "is"; walk_at "w"
        cases d1 with
        | str k =>
          cases h1
          refine iteF ?_
          walk_at "w"
          refine w_ifB (fun e => ?_) (fun e => ?_)
          · walk_at "w"
            have ek : k = "hears" := bT e
            subst ek
            refine ⟨x2, d2, rfl, h2, f2, ?_⟩
            walk_at "w"
            rw [show isOneD (.tuple [.str "hears", d2, d3]) = (isLetterD d2 && (isLetterD d3 && !PyData.eqv d2 d3)) from rfl] at q
            refine w_ifB (fun e2 => ?_) (fun e2 => ?_)
            · walk_at "w"
              refine ⟨x3, d3, rfl, h3, f3, ?_⟩
              walk_at "w"
              refine w_ifB (fun e3 => ?_) (fun e3 => ?_)
              · walk_at "w"
                rw [e2, e3] at q
                cases d2 with
                | str z2 =>
                  cases d3 with
                  | str z3 =>
                    cases h2; cases h3
                    refine w_neS ?_
                    rw [bD_eq]
                    rw [show PyData.eqv (.str z2) (.str z3) = decide (z2 = z3) from eqv_str z2 z3] at q
                    exact q H (Same.refl H)
                  | _ => cases e3
                | _ => cases e2
              · rw [e2, e3] at q
                exact q H (Same.refl H)
            · rw [e2] at q
              exact q H (Same.refl H)
          · walk_at "w"
            have ek : ¬ k = "hears" := bF e
            refine ⟨szOk 2, fun p np => ?_⟩
            refine w_inT sqT_new rfl rfl ?_
            walk_at "w"
            rw [show isOneD (.tuple [.str k, d2, d3]) = (if k = "hears" then isLetterD d2 && (isLetterD d3 && !PyData.eqv d2 d3) else if k = "drop" ∨ k = "twice" then isWithinD d2 2 6 && belowD d2 d3 else false) from rfl, if_neg ek] at q
            have ein : inV (.str k) [.str "drop", .str "twice"] = decide (k = "drop" ∨ k = "twice") := by
              show (("drop" : Str) == k || (("twice" : Str) == k || false)) = _
              rw [Bool.or_false, Bool.eq_iff_iff, Bool.or_eq_true, beq_iff_eq, beq_iff_eq, decide_eq_true_iff]
              exact ⟨fun h => h.imp Eq.symm Eq.symm, fun h => h.imp Eq.symm Eq.symm⟩
            rw [if_pos rfl, ein]
            refine w_ifB (fun e2 => ?_) (fun e2 => ?_)
            · walk_at "w"
              have e2' : ¬ (k = "drop" ∨ k = "twice") := of_decide_eq_false (by rw [Bool.not_eq_true'] at e2; exact e2)
              rw [if_neg e2'] at q
              exact q _ (same_new np)
            · walk_at "w"
              have e2' : (k = "drop" ∨ k = "twice") := of_decide_eq_true (by rw [Bool.not_eq_false'] at e2; exact e2)
              rw [if_pos e2'] at q
              refine ⟨x2, 2, 6, d2, rfl, (same_new np).dat h2, ?_⟩
              walk_at "w"
              refine w_ifB (fun e3 => ?_) (fun e3 => ?_)
              · walk_at "w"
                rw [show isWithinD d2 2 6 = false from by rw [Bool.not_eq_true'] at e3; exact e3] at q
                exact q _ (same_new np)
              · walk_at "w"
                rw [show isWithinD d2 2 6 = true from by rw [Bool.not_eq_false'] at e3; exact e3] at q
                cases d2 with
                | int n =>
                  cases h2
                  walk_at "w"
                  refine ⟨x3, 0, n - 1, d3, rfl, (same_new np).dat h3, ?_⟩
                  exact q _ (same_new np)
                | _ => cases e3
        | _ =>
          refine iteT ?_
          walk_at "w"
          exact q H (Same.refl H)
  | _ => exact iteT (q H (Same.refl H))
theorem sem_is_row : ∀ vs H Q E, sp_is_row K vs H Q E → t_is_row K { nx := fun _ H' => Q .non H', rt := Q } (start ["thing", "one"] vs) H := by
  rintro vs H Q E ⟨x, d, rfl, hd, hf, q⟩
  show t_is_row K _ [some x, none] H
  unfold t_is_row
  walk_at "w"; walk_at "is"; walk_at "w"
  cases d with
  | tuple ds =>
    refine iteT ?_
    obtain ⟨a, xs, rfl, hs, ha⟩ := dp_tup hd
    walk_at "w"
    rw [show isRowD (.tuple ds) = (decide (ds.length ≤ 4) && ds.all isOneD) from rfl] at q
    refine w_ifB (fun e => ?_) (fun e => ?_)
    · walk_at "w"
      have el : ds.length ≤ 4 := by rw [ha.len] at e; have := bT e; omega
      rw [decide_eq_true el] at q
      intro D nD
      refine lc_same (walk_tup (K := K) (a := a) (xs := xs)) nD [some (.ref a), none] rfl (fun i => ((ds.take i).map isOneD).map V.bl) rfl (fun H1 s => s.sqT hs) (fun i x H1 H1' hi p y => ?_) (fun H1 s hD => ?_)
      · obtain ⟨rfl, hx⟩ := y
        obtain ⟨d', hd', dd⟩ := ha.get hx
        walk_at "w"
        refine ⟨rfl, ?_⟩
        walk_at "w"
        refine ⟨x, d', rfl, p.1.dat dd, fitDs_get hf (List.mem_of_getElem? hd'), fun H' s' => ?_⟩
        refine lc_put nD p s' (szLt _ ?_) ?_
        · rw [List.length_map, List.length_map, List.length_take]
          omega
        · rw [List.take_add_one, hd', List.map_append, List.map_append]
          rfl
      · walk_at "w"
        refine w_all (ds.map isOneD) (sqL_at (by rw [hD, ha.len, List.take_length])) ?_
        rw [show (ds.map isOneD).all id = ds.all isOneD from by rw [List.all_map]; rfl]
        exact q H1 s
    · have el : ¬ ds.length ≤ 4 := by rw [ha.len] at e; have := bF e; omega
      rw [decide_eq_false el] at q
      exact q H (Same.refl H)
  | _ => exact iteF (q H (Same.refl H))
theorem sem_need_row : ∀ vs H Q E, sp_need_row K vs H Q E → t_need_row K { nx := fun _ H' => Q .non H', rt := Q } (start ["row"] vs) H := by
  rintro vs H Q E ⟨x, d, rfl, hd, hf, hr, q⟩
  show t_need_row K _ [some x] H
  unfold t_need_row
  walk_at "w"
  refine ⟨x, d, rfl, hd, hf, fun H' s => ?_⟩
  rw [hr]
  walk_at "w"
  refine iteF ?_
  exact q H' s
end
end HH

namespace HH
open PySem PySem.Spec L2
/-! ### the mathematics: what one does to signs, how many come -/
def stepOne (f : Folk) (n s : Nat) : List Nat × Nat :=
  match f with
  | .hears a b => ([if s = a then b else s], n)
  | .ctr tw e _ => (if (n + 1) % e = 0 then (if tw then [s, s] else []) else [s], (n + 1) % e)
def runOne (f : Folk) : Nat → List Nat → List Nat × Nat
  | n, [] => ([], n)
  | n, s :: ss => ((stepOne f n s).1 ++ (runOne f (stepOne f n s).2 ss).1, (runOne f (stepOne f n s).2 ss).2)
/-- signs through a row: what comes out, the counts behind it -/
def told : Row → List Nat → List Nat → List Nat × List Nat
  | f :: r, c :: cs, ss => ((told r cs (runOne f c ss).1).1, (runOne f c ss).2 :: (told r cs (runOne f c ss).1).2)
  | _, cs, ss => (ss, cs)
def Folk.begun : Folk → Nat
  | .hears _ _ => 0
  | .ctr _ _ c => c
def begun (r : Row) : List Nat := r.map Folk.begun
/-- what comes out of a word -/
def comes (r : Row) (w : List Nat) : List Nat := (told r (begun r) w).1
def Folk.now : Folk → Nat → Folk
  | .hears a b, _ => .hears a b
  | .ctr tw e _, n => .ctr tw e n
def passed : Folk → Nat → Nat
  | .hears _ _, n => n
  | .ctr tw e c, n => if tw then n + (n + c) / e else n - (n + c) / e
def wanted : Folk → Nat → Nat
  | .hears _ _, n => n
  | .ctr tw e c, n => if n = 0 then 0 else if tw then (n + c) - (n + c) / (e + 1) - c else (n + c) + (n + c - 1) / (e - 1) - c
def allCome : Row → Nat → Nat
  | [], n => n
  | f :: r, n => allCome r (passed f n)
def fewest : Row → Nat → Nat
  | [], n => n
  | f :: r, n => wanted f (fewest r n)
def fok (f : Folk) : Prop := match f with
  | .hears _ _ => True
  | .ctr _ e c => 2 ≤ e ∧ e ≤ 6 ∧ c < e
theorem fok_of {f : Folk} (h : f.ok = true) : fok f := by
  cases f with
  | hears a b => trivial
  | ctr tw e c =>
    have h' : (decide (2 ≤ e) && decide (e ≤ 6) && decide (c < e)) = true := h
    simp only [Bool.and_eq_true, decide_eq_true_eq] at h'
    exact ⟨h'.1.1, h'.1.2, h'.2⟩
def rok (r : Row) : Prop := ∀ f ∈ r, fok f
theorem runOne_app (f : Folk) : ∀ (n : Nat) (a b : List Nat), runOne f n (a ++ b) = ((runOne f n a).1 ++ (runOne f (runOne f n a).2 b).1, (runOne f (runOne f n a).2 b).2)
  | n, [], b => rfl
  | n, s :: a, b => by
    show ((stepOne f n s).1 ++ (runOne f (stepOne f n s).2 (a ++ b)).1, (runOne f (stepOne f n s).2 (a ++ b)).2) = _
    rw [runOne_app f _ a b]
    show _ = ((stepOne f n s).1 ++ (runOne f (stepOne f n s).2 a).1 ++ _, _)
    rw [List.append_assoc]
    rfl
theorem told_len : ∀ (r : Row) (cs ss : List Nat), (told r cs ss).2.length = cs.length
  | [], _, _ => rfl
  | _ :: _, [], _ => rfl
  | f :: r, c :: cs, ss => congrArg (· + 1) (told_len r cs _)
theorem told_app : ∀ (r : Row) (cs a b : List Nat), told r cs (a ++ b) = ((told r cs a).1 ++ (told r (told r cs a).2 b).1, (told r (told r cs a).2 b).2)
  | [], _, _, _ => rfl
  | _ :: _, [], _, _ => rfl
  | f :: r, c :: cs, a, b => by
    show ((told r cs (runOne f c (a ++ b)).1).1, (runOne f c (a ++ b)).2 :: (told r cs (runOne f c (a ++ b)).1).2) = _
    rw [runOne_app f c a b]
    show ((told r cs ((runOne f c a).1 ++ (runOne f (runOne f c a).2 b).1)).1, _ :: (told r cs ((runOne f c a).1 ++ (runOne f (runOne f c a).2 b).1)).2) = _
    rw [told_app r cs _ _]
    rfl
/-- how long one's words are, what one has counted behind them -/
theorem run_ctr (tw : Bool) (e : Nat) (he : 2 ≤ e) (c0 : Nat) : ∀ (ss : List Nat) (n : Nat), n < e → (runOne (.ctr tw e c0) n ss).1.length = passed (.ctr tw e n) ss.length ∧ (runOne (.ctr tw e c0) n ss).2 = (n + ss.length) % e ∧ (ss.length + n) / e ≤ ss.length
  | [], n, hn => by
    have h : (0 + n) / e = 0 := by rw [Nat.zero_add]; exact Nat.div_eq_of_lt hn
    refine ⟨?_, (Nat.mod_eq_of_lt hn).symm, ?_⟩
    · show 0 = if tw then 0 + (0 + n) / e else 0 - (0 + n) / e
      rw [h]
      cases tw <;> rfl
    · show (0 + n) / e ≤ 0
      rw [h]
      exact Nat.le_refl _
  | s :: ss, n, hn => by
    have hm : (n + 1) % e < e := Nat.mod_lt _ (by omega)
    obtain ⟨h1, h2, h3⟩ := run_ctr tw e he c0 ss ((n + 1) % e) hm
    have e2 : (runOne (.ctr tw e c0) n (s :: ss)).2 = (runOne (.ctr tw e c0) ((n + 1) % e) ss).2 := rfl
    have e1 : (runOne (.ctr tw e c0) n (s :: ss)).1.length = (if (n + 1) % e = 0 then (if tw then [s, s] else []) else [s]).length + (runOne (.ctr tw e c0) ((n + 1) % e) ss).1.length := by
      show ((if (n + 1) % e = 0 then (if tw then [s, s] else []) else [s]) ++ (runOne (.ctr tw e c0) ((n + 1) % e) ss).1).length = _
      rw [List.length_append]
    rw [e1, e2, h1, h2]
    have hl : (s :: ss).length = ss.length + 1 := rfl
    rw [hl]
    by_cases hz : (n + 1) % e = 0
    · have hne : n + 1 = e := by
        have := Nat.le_of_dvd (by omega) (Nat.dvd_of_mod_eq_zero hz)
        omega
      rw [hz, if_pos rfl]
      have q : (ss.length + 1 + n) / e = ss.length / e + 1 := by
        rw [show ss.length + 1 + n = ss.length + e by omega, Nat.add_div_right _ (by omega)]
      rw [hz, Nat.add_zero] at h3
      refine ⟨?_, ?_, by omega⟩
      · show _ + (if tw then ss.length + (ss.length + 0) / e else ss.length - (ss.length + 0) / e) = if tw then (ss.length + 1) + (ss.length + 1 + n) / e else (ss.length + 1) - (ss.length + 1 + n) / e
        rw [q, Nat.add_zero]
        cases tw
        · show 0 + (ss.length - ss.length / e) = (ss.length + 1) - (ss.length / e + 1)
          omega
        · show 2 + (ss.length + ss.length / e) = (ss.length + 1) + (ss.length / e + 1)
          omega
      · rw [show n + (ss.length + 1) = ss.length + e by omega, Nat.add_mod_right, Nat.zero_add]
    · have hlt : n + 1 < e := by
        rcases Nat.lt_or_ge (n + 1) e with h | h
        · exact h
        · exfalso
          exact hz (by rw [show n + 1 = e by omega, Nat.mod_self])
      rw [Nat.mod_eq_of_lt hlt] at h3 ⊢
      rw [if_neg (by omega)]
      rw [show ss.length + (n + 1) = ss.length + 1 + n by omega] at h3
      refine ⟨?_, ?_, by omega⟩
      · show 1 + (if tw then ss.length + (ss.length + (n + 1)) / e else ss.length - (ss.length + (n + 1)) / e) = if tw then (ss.length + 1) + (ss.length + 1 + n) / e else (ss.length + 1) - (ss.length + 1 + n) / e
        rw [show ss.length + (n + 1) = ss.length + 1 + n by omega]
        cases tw
        · show 1 + (ss.length - (ss.length + 1 + n) / e) = (ss.length + 1) - (ss.length + 1 + n) / e
          omega
        · show 1 + (ss.length + (ss.length + 1 + n) / e) = (ss.length + 1) + (ss.length + 1 + n) / e
          omega
      · rw [show n + 1 + ss.length = n + (ss.length + 1) by omega]
theorem run_hears (a b : Nat) : ∀ (ss : List Nat) (n : Nat), runOne (.hears a b) n ss = (ss.map fun s => if s = a then b else s, n)
  | [], n => rfl
  | s :: ss, n => by
    show ([if s = a then b else s] ++ (runOne (.hears a b) n ss).1, (runOne (.hears a b) n ss).2) = _
    rw [run_hears a b ss n]
    rfl
/-- the counts fit the row -/
def fit : Row → List Nat → Prop
  | [], [] => True
  | .hears _ _ :: r, c :: cs => c = 0 ∧ fit r cs
  | .ctr _ e _ :: r, c :: cs => c < e ∧ fit r cs
  | _, _ => False
/-- the row as it is now -/
def nowRow : Row → List Nat → Row
  | f :: r, c :: cs => f.now c :: nowRow r cs
  | _, _ => []
theorem fit_len : ∀ {r : Row} {cs : List Nat}, fit r cs → cs.length = r.length
  | [], [], _ => rfl
  | .hears _ _ :: r, c :: cs, h => congrArg (· + 1) (fit_len h.2)
  | .ctr _ _ _ :: r, c :: cs, h => congrArg (· + 1) (fit_len h.2)
  | [], _ :: _, h => h.elim
  | .hears _ _ :: _, [], h => h.elim
  | .ctr _ _ _ :: _, [], h => h.elim
theorem fit_begun : ∀ {r : Row}, rok r → fit r (begun r)
  | [], _ => trivial
  | .hears _ _ :: r, h => ⟨rfl, fit_begun fun f hf => h f (List.mem_cons_of_mem _ hf)⟩
  | .ctr tw e c :: r, h => ⟨(h _ List.mem_cons_self : fok (.ctr tw e c)).2.2, fit_begun fun f hf => h f (List.mem_cons_of_mem _ hf)⟩
theorem now_begun : ∀ (r : Row), nowRow r (begun r) = r
  | [] => rfl
  | .hears _ _ :: r => congrArg (List.cons _) (now_begun r)
  | .ctr _ _ _ :: r => congrArg (List.cons _) (now_begun r)
theorem told_fit : ∀ {r : Row} {cs : List Nat} (ss : List Nat), rok r → fit r cs → fit r (told r cs ss).2 ∧ (told r cs ss).1.length = allCome (nowRow r cs) ss.length
  | [], [], ss, _, _ => ⟨trivial, rfl⟩
  | .hears a b :: r, c :: cs, ss, h, hf => by
    have ih := told_fit (runOne (.hears a b) c ss).1 (fun f hf => h f (List.mem_cons_of_mem _ hf)) hf.2
    rw [run_hears] at ih
    refine ⟨⟨?_, ?_⟩, ?_⟩
    · show (runOne (.hears a b) c ss).2 = 0
      rw [run_hears]
      exact hf.1
    · rw [run_hears]
      exact ih.1
    · show (told r cs (runOne (.hears a b) c ss).1).1.length = allCome (nowRow r cs) ss.length
      rw [run_hears, ih.2, List.length_map]
  | .ctr tw e c0 :: r, c :: cs, ss, h, hf => by
    have he : fok (.ctr tw e c0) := h _ List.mem_cons_self
    have ih := told_fit (runOne (.ctr tw e c0) c ss).1 (fun f hf => h f (List.mem_cons_of_mem _ hf)) hf.2
    obtain ⟨h1, h2, h3⟩ := run_ctr tw e he.1 c0 ss c hf.1
    refine ⟨⟨?_, ih.1⟩, ?_⟩
    · show (runOne (.ctr tw e c0) c ss).2 < e
      rw [h2]
      have := he.1
      exact Nat.mod_lt _ (by omega)
    · show (told r cs (runOne (.ctr tw e c0) c ss).1).1.length = allCome (nowRow r cs) (passed (.ctr tw e c) ss.length)
      rw [ih.2, h1]
  | [], _ :: _, _, _, h => h.elim
  | .hears _ _ :: _, [], _, _, h => h.elim
  | .ctr _ _ _ :: _, [], _, _, h => h.elim
theorem comes_len {r : Row} (h : rok r) (w : List Nat) : (comes r w).length = allCome r w.length := by
  have := (told_fit w h (fit_begun h)).2
  rw [now_begun] at this
  exact this
/-- of each of so many signs, how many come out -/
def feed (r : Row) : List Nat → List Nat → List (List Nat) × List Nat
  | cs, [] => ([], cs)
  | cs, s :: ss => ((told r cs [s]).1 :: (feed r (told r cs [s]).2 ss).1, (feed r (told r cs [s]).2 ss).2)
theorem told_nil : ∀ (r : Row) (cs : List Nat), told r cs [] = ([], cs)
  | [], _ => rfl
  | _ :: _, [] => rfl
  | f :: r, c :: cs => by
    show ((told r cs []).1, c :: (told r cs []).2) = _
    rw [told_nil r cs]
theorem feed_told (r : Row) : ∀ (w cs : List Nat), ((feed r cs w).1.flatten, (feed r cs w).2) = told r cs w
  | [], cs => (told_nil r cs).symm
  | s :: w, cs => by
    have ih := feed_told r w (told r cs [s]).2
    have h := told_app r cs [s] w
    rw [show ([s] ++ w : List Nat) = s :: w from rfl] at h
    rw [h, ← ih]
    rfl
theorem feed_app (r : Row) : ∀ (a b cs : List Nat), feed r cs (a ++ b) = ((feed r cs a).1 ++ (feed r (feed r cs a).2 b).1, (feed r (feed r cs a).2 b).2)
  | [], _, _ => rfl
  | s :: a, b, cs => by
    show ((told r cs [s]).1 :: (feed r (told r cs [s]).2 (a ++ b)).1, (feed r (told r cs [s]).2 (a ++ b)).2) = _
    rw [feed_app r a b _]
    rfl
theorem feed_len (r : Row) : ∀ (w cs : List Nat), (feed r cs w).1.length = w.length
  | [], _ => rfl
  | s :: w, cs => congrArg (· + 1) (feed_len r w _)
def qs (n : Nat) : List Nat := List.replicate n 113
def copies (r : Row) (n : Nat) : List Nat := (feed r (begun r) (qs n)).1.map List.length
theorem sum_map_len : ∀ (l : List (List Nat)), (l.map List.length).sum = l.flatten.length
  | [] => rfl
  | a :: l => by
    rw [List.map_cons, List.sum_cons, List.flatten_cons, List.length_append, sum_map_len l]
theorem copies_sum {r : Row} (h : rok r) (k n : Nat) (hk : k ≤ n) : ((copies r n).take k).sum = allCome r k := by
  unfold copies
  rw [← List.map_take]
  have e : (feed r (begun r) (qs n)).1.take k = (feed r (begun r) (qs k)).1 := by
    have : qs n = qs k ++ qs (n - k) := by
      unfold qs
      rw [List.replicate_append_replicate]
      congr 1
      omega
    rw [this, feed_app]
    have hl : (feed r (begun r) (qs k)).1.length = k := by rw [feed_len]; exact List.length_replicate
    show List.take k ((feed r (begun r) (qs k)).1 ++ _) = _
    rw [List.take_append_of_le_length (by omega), List.take_of_length_le (by omega)]
  rw [e, sum_map_len]
  have ft := feed_told r (qs k) (begun r)
  have : (feed r (begun r) (qs k)).1.flatten = (told r (begun r) (qs k)).1 := congrArg Prod.fst ft
  rw [this]
  have := comes_len h (qs k)
  rw [show (qs k).length = k from List.length_replicate] at this
  exact this
end HH

namespace HH
open PySem PySem.Spec L2
/-! ### passed and wanted -/
theorem div_le_self' {n c e : Nat} (he : 2 ≤ e) (hc : c < e) : (n + c) / e ≤ n := by
  rcases Nat.eq_zero_or_pos n with h | h
  · subst h
    rw [Nat.zero_add, Nat.div_eq_of_lt hc]
    exact Nat.le_refl _
  · have : (n + c) / e ≤ (n * e) / e := by
      apply Nat.div_le_div_right
      have : n * 2 ≤ n * e := Nat.mul_le_mul_left n he
      have h2 : 1 * (e - 1) ≤ n * (e - 1) := Nat.mul_le_mul_right _ h
      have h3 : n * e = n * (e - 1) + n := by
        rw [show n * e = n * (e - 1 + 1) by rw [Nat.sub_add_cancel (by omega)], Nat.mul_add, Nat.mul_one]
      omega
    rw [Nat.mul_div_cancel _ (by omega)] at this
    exact this
theorem passed_mono1 {f : Folk} (h : fok f) (n : Nat) : passed f n ≤ passed f (n + 1) ∧ passed f (n + 1) ≤ passed f n + 2 := by
  cases f with
  | hears a b => exact ⟨Nat.le_succ n, Nat.le_succ _⟩
  | ctr tw e c =>
    obtain ⟨h2, h6, hc⟩ := h
    have e1 : (n + 1 + c) / e ≤ (n + c) / e + 1 := by
      have : (n + 1 + c) / e ≤ (n + c + e) / e := Nat.div_le_div_right (by omega)
      rw [Nat.add_div_right _ (by omega)] at this
      exact this
    have e2 : (n + c) / e ≤ (n + 1 + c) / e := Nat.div_le_div_right (by omega)
    have e3 := div_le_self' (n := n) h2 hc
    have e4 := div_le_self' (n := n + 1) h2 hc
    cases tw
    · show n - (n + c) / e ≤ (n + 1) - (n + 1 + c) / e ∧ (n + 1) - (n + 1 + c) / e ≤ n - (n + c) / e + 2
      omega
    · show n + (n + c) / e ≤ (n + 1) + (n + 1 + c) / e ∧ (n + 1) + (n + 1 + c) / e ≤ n + (n + c) / e + 2
      omega
theorem passed_mono {f : Folk} (h : fok f) {n m : Nat} (hnm : n ≤ m) : passed f n ≤ passed f m := by
  induction hnm with
  | refl => exact Nat.le_refl _
  | step _ ih => exact Nat.le_trans ih (passed_mono1 h _).1
theorem passed_le2 {f : Folk} (h : fok f) (n k : Nat) : passed f (n + k) ≤ passed f n + 2 * k := by
  induction k with
  | zero => exact Nat.le_refl _
  | succ k ih =>
    have := (passed_mono1 h (n + k)).2
    rw [show n + (k + 1) = n + k + 1 from rfl]
    omega
theorem passed_zero {f : Folk} (h : fok f) : passed f 0 = 0 := by
  cases f with
  | hears a b => rfl
  | ctr tw e c =>
    have : (0 + c) / e = 0 := by rw [Nat.zero_add]; exact Nat.div_eq_of_lt h.2.2
    show (if tw then 0 + (0 + c) / e else 0 - (0 + c) / e) = 0
    rw [this]
    cases tw <;> rfl
/-- wanted is the least -/
theorem wanted_iff {f : Folk} (h : fok f) (n m : Nat) : wanted f n ≤ m ↔ n ≤ passed f m := by
  cases f with
  | hears a b => exact Iff.rfl
  | ctr tw e c =>
    obtain ⟨h2, h6, hc⟩ := h
    by_cases h0 : n = 0
    · subst h0
      have : wanted (.ctr tw e c) 0 = 0 := rfl
      rw [this]
      exact ⟨fun _ => Nat.zero_le _, fun _ => Nat.zero_le _⟩
    · have dv : (m + c) / e ≤ m := div_le_self' h2 hc
      have hm1 := Nat.div_add_mod (m + c) e
      have hm2 := Nat.mod_lt (m + c) (show 0 < e by omega)
      cases tw
      · have ew : wanted (.ctr false e c) n = (n + c) + (n + c - 1) / (e - 1) - c := by
          show (if n = 0 then 0 else (n + c) + (n + c - 1) / (e - 1) - c) = _
          rw [if_neg h0]
        have ep : passed (.ctr false e c) m = m - (m + c) / e := rfl
        rw [ew, ep]
        have hn1 := Nat.div_add_mod (n + c - 1) (e - 1)
        have hn2 := Nat.mod_lt (n + c - 1) (show 0 < e - 1 by omega)
        have : e = 2 ∨ e = 3 ∨ e = 4 ∨ e = 5 ∨ e = 6 := by omega
        rcases this with rfl | rfl | rfl | rfl | rfl <;> omega
      · have ew : wanted (.ctr true e c) n = (n + c) - (n + c) / (e + 1) - c := by
          show (if n = 0 then 0 else (n + c) - (n + c) / (e + 1) - c) = _
          rw [if_neg h0]
        have ep : passed (.ctr true e c) m = m + (m + c) / e := rfl
        rw [ew, ep]
        have : e = 2 ∨ e = 3 ∨ e = 4 ∨ e = 5 ∨ e = 6 := by omega
        rcases this with rfl | rfl | rfl | rfl | rfl <;> omega
theorem rok_tail {f : Folk} {r : Row} (h : rok (f :: r)) : rok r := fun g hg => h g (List.mem_cons_of_mem _ hg)
theorem allCome_mono : ∀ {r : Row}, rok r → ∀ {n m : Nat}, n ≤ m → allCome r n ≤ allCome r m
  | [], _, _, _, h => h
  | f :: r, hr, _, _, h => allCome_mono (rok_tail hr) (passed_mono (hr f List.mem_cons_self) h)
theorem allCome_le : ∀ {r : Row}, rok r → ∀ (n k : Nat), allCome r (n + k) ≤ allCome r n + 2 ^ r.length * k
  | [], _, n, k => by show n + k ≤ n + 2 ^ 0 * k; omega
  | f :: r, hr, n, k => by
    have h1 := passed_le2 (hr f List.mem_cons_self) n k
    have h2 := passed_mono (hr f List.mem_cons_self) (Nat.le_add_right n k)
    have ih := allCome_le (rok_tail hr) (passed f n) (passed f (n + k) - passed f n)
    rw [show passed f n + (passed f (n + k) - passed f n) = passed f (n + k) by omega] at ih
    show allCome r (passed f (n + k)) ≤ allCome r (passed f n) + 2 ^ (r.length + 1) * k
    have h3 : 2 ^ r.length * (passed f (n + k) - passed f n) ≤ 2 ^ r.length * (2 * k) := Nat.mul_le_mul_left _ (by omega)
    rw [show 2 ^ (r.length + 1) * k = 2 ^ r.length * (2 * k) by rw [Nat.pow_succ, Nat.mul_assoc]]
    omega
theorem allCome_zero : ∀ {r : Row}, rok r → allCome r 0 = 0
  | [], _ => rfl
  | f :: r, hr => by
    show allCome r (passed f 0) = 0
    rw [passed_zero (hr f List.mem_cons_self)]
    exact allCome_zero (rok_tail hr)
theorem pow_le16 {k : Nat} (h : k ≤ 4) : 2 ^ k ≤ 16 := by
  have : k = 0 ∨ k = 1 ∨ k = 2 ∨ k = 3 ∨ k = 4 := by omega
  rcases this with rfl | rfl | rfl | rfl | rfl <;> decide
theorem allCome_16 {r : Row} (h : rok r) (hl : r.length ≤ 4) (n : Nat) : allCome r n ≤ 16 * n := by
  have := allCome_le h 0 n
  rw [Nat.zero_add, allCome_zero h, Nat.zero_add] at this
  exact Nat.le_trans this (Nat.mul_le_mul_right _ (pow_le16 hl))
theorem allCome_1 {r : Row} (h : rok r) (hl : r.length ≤ 4) (n : Nat) : allCome r n ≤ allCome r (n + 1) ∧ allCome r (n + 1) ≤ allCome r n + 16 := by
  refine ⟨allCome_mono h (Nat.le_succ n), ?_⟩
  have := allCome_le h n 1
  have := pow_le16 hl
  omega
theorem allCome_app : ∀ (a b : Row) (n : Nat), allCome (a ++ b) n = allCome b (allCome a n)
  | [], _, _ => rfl
  | f :: a, b, n => allCome_app a b _
theorem fewest_iff : ∀ {r : Row}, rok r → ∀ (n m : Nat), fewest r n ≤ m ↔ n ≤ allCome r m
  | [], _, _, _ => Iff.rfl
  | f :: r, hr, n, m => by
    show wanted f (fewest r n) ≤ m ↔ n ≤ allCome r (passed f m)
    rw [wanted_iff (hr f List.mem_cons_self), fewest_iff (rok_tail hr)]
theorem fewest_come {r : Row} (h : rok r) (n : Nat) : n ≤ allCome r (fewest r n) := (fewest_iff h n _).mp (Nat.le_refl _)
theorem fewest_least {r : Row} (h : rok r) {n m : Nat} (hm : m < fewest r n) : allCome r m < n := by
  rcases Nat.lt_or_ge (allCome r m) n with q | q
  · exact q
  · exact absurd ((fewest_iff h n m).mpr q) (by omega)
theorem fewest_zero {r : Row} (h : rok r) (n : Nat) : fewest r n = 0 ↔ n = 0 := by
  constructor
  · intro e
    have := (fewest_iff h n 0).mp (by omega)
    rw [allCome_zero h] at this
    omega
  · rintro rfl
    have := (fewest_iff h 0 0).mpr (Nat.zero_le _)
    omega
theorem wanted_bound {f : Folk} (h : fok f) (n : Nat) : wanted f n ≤ 2 * n := by
  rw [wanted_iff h]
  cases f with
  | hears a b => show n ≤ 2 * n; omega
  | ctr tw e c =>
    obtain ⟨h2, h6, hc⟩ := h
    cases tw
    · show n ≤ 2 * n - (2 * n + c) / e
      have := Nat.div_add_mod (2 * n + c) e
      have : e = 2 ∨ e = 3 ∨ e = 4 ∨ e = 5 ∨ e = 6 := by omega
      rcases this with rfl | rfl | rfl | rfl | rfl <;> omega
    · show n ≤ 2 * n + (2 * n + c) / e
      exact Nat.le_trans (by omega) (Nat.le_add_right _ _)
end HH

namespace HH
open PySem PySem.Spec L2
local macro_rules | `(tactic| walk_at "cy") => `(tactic| first
  | assumption
  | exact L2.upd_same
  | exact L2.sqL_new
  | exact L2.sqT_new
  | exact L2.sqL_at (by assumption)
  | exact L2.sqT_at (by assumption)
  | (refine' L2.Same.seq (by assumption) ?k0; (case k0 => walk_at "cy"))
  | (refine' L2.Same.sqT (by assumption) ?k0; (case k0 => walk_at "cy"))
  | (refine' L2.Same.dat (by assumption) ?k0; (case k0 => walk_at "cy"))
  | (refine' (by assumption : L2.Same _ _) _ _ ?k0; (case k0 => walk_at "cy"))
  | (refine' L2.Same.seq (L2.same_new (by assumption)) ?k0; (case k0 => walk_at "cy"))
  | (refine' L2.Same.sqT (L2.same_new (by assumption)) ?k0; (case k0 => walk_at "cy"))
  | (refine' L2.Same.dat (L2.same_new (by assumption)) ?k0; (case k0 => walk_at "cy"))
  | (refine' L2.same_new (by assumption) _ _ ?k0; (case k0 => walk_at "cy"))
  | (refine' L2.Mv.sqT (by assumption) ?k0; (case k0 => walk_at "cy")))
local macro_rules | `(tactic| walk_at "w") => `(tactic| repeat (first
  | refine HH.stp ?_
  | with_reducible refine L2.iteT ?_
  | with_reducible refine L2.iteF ?_
  | ((with_reducible refine' HH.w_gtup ?k1 ?k2 ?_); (case k1 => walk_at "cy"); (case k2 => exact rfl))
  | ((with_reducible refine' HH.w_ixT ?k1 ?k2 ?_); (case k1 => walk_at "cy"); (case k2 => exact rfl))
  | ((with_reducible refine' HH.w_ixL ?k1 ?k2 ?_); (case k1 => walk_at "cy"); (case k2 => exact rfl))
  | ((with_reducible refine' HH.w_lenL ?k1 ?_); (case k1 => walk_at "cy"))
  | ((with_reducible refine' HH.w_lenT ?k1 ?_); (case k1 => walk_at "cy"))
  | ((with_reducible refine' HH.w_exT ?k1 ?_); (case k1 => walk_at "cy"))
  | ((with_reducible refine' HH.w_exL ?k1 ?_); (case k1 => walk_at "cy"))
  | ((with_reducible refine' HH.w_tyL ?k1 ?_); (case k1 => walk_at "cy"))
  | ((with_reducible refine' HH.w_setL ?k1 ?k2 ?_); (case k1 => walk_at "cy"); (case k2 => exact rfl))
  | ((with_reducible refine' HH.w_modI ?k1 ?_); (case k1 => first | (with_reducible assumption) | omega))
  | ((with_reducible refine' HH.w_divI ?k1 ?_); (case k1 => (constructor <;> omega)))))
local macro_rules | `(tactic| walk_at "v") => `(tactic| ((repeat ((fail_if_success (with_reducible refine HH.isIf ?_)); first
  | refine HH.stp ?_
  | with_reducible refine L2.iteT ?_
  | with_reducible refine L2.iteF ?_
  | ((with_reducible refine' HH.w_gtup ?k1 ?k2 ?_); (case k1 => walk_at "cy"); (case k2 => exact rfl))
  | ((with_reducible refine' HH.w_ixT ?k1 ?k2 ?_); (case k1 => walk_at "cy"); (case k2 => exact rfl))
  | ((with_reducible refine' HH.w_ixL ?k1 ?k2 ?_); (case k1 => walk_at "cy"); (case k2 => exact rfl))
  | ((with_reducible refine' HH.w_lenL ?k1 ?_); (case k1 => walk_at "cy"))
  | ((with_reducible refine' HH.w_lenT ?k1 ?_); (case k1 => walk_at "cy"))
  | ((with_reducible refine' HH.w_exT ?k1 ?_); (case k1 => walk_at "cy"))
  | ((with_reducible refine' HH.w_exL ?k1 ?_); (case k1 => walk_at "cy"))
  | ((with_reducible refine' HH.w_tyL ?k1 ?_); (case k1 => walk_at "cy"))
  | ((with_reducible refine' HH.w_setL ?k1 ?k2 ?_); (case k1 => walk_at "cy"); (case k2 => exact rfl))
  | ((with_reducible refine' HH.w_modI ?k1 ?_); (case k1 => first | (with_reducible assumption) | omega))
  | ((with_reducible refine' HH.w_divI ?k1 ?_); (case k1 => (constructor <;> omega)))))); (try (with_reducible refine HH.isIf ?_)))
/-! ### the law's draws -/
/-- a bag: a list of four hundred draws and a number -/
def BagOk (_ : PySem.W.Frag) (H : Hp) (b : Addr) : Prop := ∃ (d : Addr) (i : Int) (ns : List Int), H b = some (.lst [.ref d, .int i]) ∧ H d = some (.lst (ns.map V.int)) ∧ ns.length = 400
theorem bag_same {K : PySem.W.Frag} {H H' : Hp} {b : Addr} (h : BagOk K H b) (s : Same H H') : BagOk K H' b := by
  obtain ⟨d, i, ns, h1, h2, h3⟩ := h
  exact ⟨d, i, ns, s _ _ h1, s _ _ h2, h3⟩
theorem sqL_of_lst {H : Hp} {a : Addr} {xs ys : List V} (h1 : H a = some (.lst xs)) (h : Rd H a (.lst ys)) : xs = ys := by
  rcases h with h | ⟨o, h⟩
  · rw [h1] at h; cases h; rfl
  · rw [h1] at h; cases h
/-- a bag is drawn from; all else stands -/
structure Dr (K : PySem.W.Frag) (b : Addr) (H H' : Hp) : Prop where
  mv : Mv b H H'
  b0 : BagOk K H b
  b1 : BagOk K H' b
theorem Dr.of_same {K : PySem.W.Frag} {H H' : Hp} {b : Addr} (s : Same H H') (h : BagOk K H b) : Dr K b H H' := by
  obtain ⟨d, i, ns, h1, h2, h3⟩ := id h
  exact ⟨.of_same s h1, h, bag_same h s⟩
theorem Dr.trans {K : PySem.W.Frag} {H H1 H2 : Hp} {b : Addr} (s : Dr K b H H1) (t : Dr K b H1 H2) : Dr K b H H2 := ⟨s.mv.trans t.mv, s.b0, t.b1⟩
theorem Dr.same {K : PySem.W.Frag} {H H1 H2 : Hp} {b : Addr} (s : Dr K b H H1) (t : Same H1 H2) : Dr K b H H2 := ⟨s.mv.same t, s.b0, bag_same s.b1 t⟩
theorem Dr.tp {K : PySem.W.Frag} {H H1 : Hp} {b : Addr} (s : Dr K b H H1) : Tp K H H1 := s.mv.tp
theorem Dr.fr {K : PySem.W.Frag} {H H1 : Hp} {b p : Addr} (s : Dr K b H H1) (h : H1 p = none) : H p = none := s.mv.none h
/-- what is no bag's own list stands -/
theorem Dr.at {K : PySem.W.Frag} {H H1 : Hp} {b p : Addr} {o : HO} (s : Dr K b H H1) (h : H p = some o) (ne : p ≠ b) : H1 p = some o := s.mv.but p o ne h
theorem bag_ne {K : PySem.W.Frag} {H : Hp} {b p : Addr} (hb : BagOk K H b) (h : H p = none) : p ≠ b := fun e => by
  obtain ⟨d, i, ns, h1, _⟩ := hb
  rw [e, h1] at h
  cases h
theorem Dr.ints {K : PySem.W.Frag} {H H1 : Hp} {b p : Addr} {ns : List Int} (s : Dr K b H H1) (h : SqL K H p (ns.map V.int)) : SqL K H1 p (ns.map V.int) := by
  by_cases e : p = b
  · rw [e] at h ⊢
    rcases h with h | h
    · obtain ⟨d, i, ms, h1, _⟩ := s.b0
      have e1 := sqL_of_lst h1 h
      cases ns with
      | nil => cases e1
      | cons n ns => cases e1
    · exact .inr h
  · exact s.mv.sqL e h
theorem Dr.ints' {K : PySem.W.Frag} {H H1 : Hp} {b p : Addr} {ns : List Int} (s : Dr K b H H1) (h : H p = some (.lst (ns.map V.int))) : H1 p = some (.lst (ns.map V.int)) := by
  by_cases e : p = b
  · rw [e] at h
    obtain ⟨d, i, ms, h1, _⟩ := s.b0
    rw [h1] at h
    cases ns with
    | nil => cases h
    | cons n ns => cases h
  · exact s.at h e
/-- another bag stands when one is drawn from -/
theorem Dr.bag {K : PySem.W.Frag} {H H' : Hp} {b c : Addr} (s : Dr K b H H') (hc : BagOk K H c) : BagOk K H' c := by
  by_cases e : c = b
  · rw [e]; exact s.b1
  · obtain ⟨d, i, ns, h1, h2, h3⟩ := hc
    exact ⟨d, i, ns, s.at h1 e, s.ints' h2, h3⟩
theorem Dr.dat {K : PySem.W.Frag} {H H' : Hp} {b : Addr} {v : V} {d : PyData} (s : Dr K b H H') (n : noL d = true) (h : Dp K H v d) : Dp K H' v d := s.tp.dp d v n h
theorem Dr.row {K : PySem.W.Frag} {H H' : Hp} {b : Addr} {v : V} {r : Row} (s : Dr K b H H') (h : Dp K H v (rowD r)) : Dp K H' v (rowD r) := s.dat (noL_row r) h
/-- a new object made while a bag is drawn from -/
theorem Dr.new {K : PySem.W.Frag} {H H1 : Hp} {b p : Addr} {o : HO} (s : Dr K b H H1) (h : H1 p = none) : Dr K b H (upd H1 p o) := s.same (same_new h)
/-- an object that the start does not know is changed -/
theorem Dr.mut {K : PySem.W.Frag} {H H1 : Hp} {b p : Addr} {o : HO} (s : Dr K b H H1) (h : H p = Option.none) (hb : BagOk K (upd H1 p o) b) : Dr K b H (upd H1 p o) :=
  ⟨⟨fun a u n e => by rw [upd_ne (ne_of_none e h)]; exact s.mv.but a u n e, s.mv.l0, by obtain ⟨d, i, ns, h1, _⟩ := hb; exact ⟨_, h1⟩⟩, s.b0, hb⟩

section
variable (K : PySem.W.Frag)
def sp_l_cell_at : Sp := fun vs H Q _ => ∃ (a : Addr) (ns : List Int) (k : Nat), vs = [.ref a, .int (k : Nat)] ∧ SqL K H a (ns.map V.int) ∧ ∀ c : Int, Q (.int c) H

def sp_l_draws (_ : PySem.W.Frag) : Sp := fun vs H Q _ => ∃ (c : Int) (many size : Nat), vs = [.int c, .int (many : Nat), .int (size : Nat)] ∧ many ≤ 1000 ∧ 0 < size ∧ size < 1000000 ∧
  ∀ (H' : Hp) (p : Addr) (ns : List Int), Same H H' → H p = none → H' p = some (.lst (ns.map V.int)) → ns.length = many → Q (.ref p) H'
def sp_l_bag : Sp := fun vs H Q _ => ∃ (a : Addr) (ns : List Int) (k : Nat), vs = [.ref a, .int (k : Nat)] ∧ SqL K H a (ns.map V.int) ∧ ∀ (H' : Hp) (b : Addr), Same H H' → H b = none → BagOk K H' b → Q (.ref b) H'
def sp_l_bags : Sp := fun vs H Q _ => ∃ (a : Addr) (ns : List Int) (k : Nat), vs = [.ref a, .int (k : Nat)] ∧ SqL K H a (ns.map V.int) ∧ k ≤ 100 ∧
  ∀ (H' : Hp) (p : Addr) (bs : List Addr), Same H H' → H' p = some (.lst (bs.map V.ref)) → bs.length ≤ 100 → (∀ b ∈ bs, BagOk K H' b ∧ p ≠ b) → Q (.ref p) H'
def sp_l_take : Sp := fun vs H Q _ => ∃ (b : Addr) (m : Int), vs = [.ref b, .int m] ∧ BagOk K H b ∧ 0 < m ∧ ∀ (r : Nat) (H' : Hp), (r : Int) < m → Dr K b H H' → Q (.int (r : Nat)) H'
theorem len_l_cell_at : ∀ vs H Q E, sp_l_cell_at K vs H Q E → vs.length = 2 := by rintro _ _ _ _ ⟨_, _, _, rfl, _⟩; rfl
theorem len_l_draws : ∀ vs H Q E, sp_l_draws K vs H Q E → vs.length = 3 := by rintro _ _ _ _ ⟨_, _, _, rfl, _⟩; rfl
theorem len_l_bag : ∀ vs H Q E, sp_l_bag K vs H Q E → vs.length = 2 := by rintro _ _ _ _ ⟨_, _, _, rfl, _⟩; rfl
theorem len_l_bags : ∀ vs H Q E, sp_l_bags K vs H Q E → vs.length = 2 := by rintro _ _ _ _ ⟨_, _, _, rfl, _⟩; rfl
theorem len_l_take : ∀ vs H Q E, sp_l_take K vs H Q E → vs.length = 2 := by rintro _ _ _ _ ⟨_, _, rfl, _⟩; rfl
end
def t_l_cell_at (K : PySem.W.Frag) : TS :=
  (tSeq (tIfS (tTest (tOp rLtI (tVar 1) (tCB (rLenQ K) (tCons (tVar 0) tNil)))) (tRet (tOp (rIxL K) (tVar 0) (tVar 1))) tNext)
  (tRet (tC (.int 0))))

def t_l_draws (K : PySem.W.Frag) : TS :=
  (tSeq (tAsg (tLst tNil) (gName 3))
  (tSeq (tAsg (tOp rMulI (tVar 0) (tCB rIntQ (tCons (tOp rGeI (tVar 0) (tOp rPowI (tC (.int 10)) (tC (.int 18)))) tNil))) (gName 4))
  (tSeq (tAsg (tOp rModI (tVar 0) (tC (.int 2305843009213693951))) (gName 5))
  (tSeq (tFor (iRng1 (tCons (tOp rAddI (tVar 1) (tC (.int 3))) tNil)) (gName 6)
  (tSeq (tAsg (tOp rModI (tOp rAddI (tOp rAddI (tOp rAddI (tOp rMulI (tVar 5) (tVar 5)) (tOp rMulI (tC (.int 48271)) (tVar 5))) (tVar 6)) (tC (.int 1))) (tC (.int 2305843009213693951))) (gName 5))
  (tIfS (tAnd (tTest (tOp rGtI (tVar 6) (tC (.int 2)))) (tTest (tOp rGtI (tVar 4) (tC (.int 0))))) (tSeq (tDrop (tBM K "list" rAppend (tVar 3) (tCons (tOp rModI (tVar 4) (tVar 2)) tNil)))
  (tAsg (tOp rDivI (tVar 4) (tVar 2)) (gName 4))) (tIfS (tTest (tOp rGtI (tVar 6) (tC (.int 2)))) (tDrop (tBM K "list" rAppend (tVar 3) (tCons (tOp rModI (tOp rDivI (tVar 5) (tC (.int 4096))) (tVar 2)) tNil))) tNext))))
  (tRet (tVar 3))))))

def t_l_bag (K : PySem.W.Frag) : TS :=
  (tRet (tLst (tCons (tCall (sp_l_draws K) [] E0 (tCons (tCall (sp_l_cell_at K) [] E0 (tCons (tVar 0) (tCons (tVar 1) tNil))) (tCons (tC (.int 400)) (tCons (tC (.int 1000)) tNil)))) (tCons (tC (.int 0)) tNil))))

def t_l_bags (K : PySem.W.Frag) : TS :=
  (tRet (tLc (iRng1 (tCons (tCB rMax2 (tCons (tC (.int 1)) (tCons (tCB rMin2 (tCons (tVar 1) (tCons (tCB (rLenQ K) (tCons (tVar 0) tNil)) tNil))) tNil))) tNil)) (gName 2) tYes (tCall (sp_l_bag K) [] E0 (tCons (tVar 0) (tCons (tVar 2) tNil))) [2]))

def t_l_take (K : PySem.W.Frag) : TS :=
  (tSeq (tAsg (tOp rAddI (tOp (rIxL K) (tVar 0) (tC (.int 1))) (tC (.int 1))) (gSub (tVar 0) (tC (.int 1)) rSetL))
  (tRet (tOp rModI (tOp (rIxL K) (tOp (rIxL K) (tVar 0) (tC (.int 0))) (tOp rModI (tOp (rIxL K) (tVar 0) (tC (.int 1))) (tCB (rLenQ K) (tCons (tOp (rIxL K) (tVar 0) (tC (.int 0))) tNil)))) (tVar 1))))

section
variable (K : PySem.W.Frag)
theorem at_ints {ns : List Int} {k : Nat} (h : k < ns.length) : atI (ns.map V.int) (k : Int) = some (.int ns[k]) := at_of rfl (by rw [List.getElem?_map, List.getElem?_eq_getElem h]; rfl)
theorem sem_l_cell_at : ∀ vs H Q E, sp_l_cell_at K vs H Q E → t_l_cell_at K { nx := fun _ H' => Q .non H', rt := Q } (start ["script", "k"] vs) H := by
  rintro vs H Q E ⟨a, ns, k, rfl, hs, q⟩
  show t_l_cell_at K _ [some (.ref a), some (.int (k : Nat))] H
  unfold t_l_cell_at
  walk_at "w"
  refine w_ifB (fun e => ?_) (fun e => ?_)
  · walk_at "w"
    have h : k < ns.length := by have := bT e; rw [List.length_map] at this; omega
    refine w_ixL hs (at_ints h) ?_
    exact q _
  · walk_at "w"
    exact q 0
theorem sem_l_draws : ∀ vs H Q E, sp_l_draws K vs H Q E → t_l_draws K { nx := fun _ H' => Q .non H', rt := Q } (start ["cell", "many", "size", "found", "rest", "stirred", "k"] vs) H := by
  rintro vs H Q E ⟨c, many, size, rfl, hm, hs0, hs1, q⟩
  show t_l_draws K _ [some (.int c), some (.int (many : Nat)), some (.int (size : Nat)), none, none, none, none] H
  unfold t_l_draws
  walk_at "w"
  refine ⟨szOk 0, fun o no => ?_⟩
  walk_at "w"
  refine w_mulI (.inr (by cases bD (1000000000000000000 ≤ c) <;> decide)) ?_
  walk_at "w"
  refine ⟨(many : Int) + 3, rfl, by omega, by omega, ?_⟩
  refine for_range (lo := 0) (n := ((many : Int) + 3).toNat) (fun i σ H1 => ∃ (rest : Int) (st : Nat) (y : Option V) (ns : List Int), σ = [some (.int c), some (.int (many : Nat)), some (.int (size : Nat)), some (.ref o), some (.int rest), some (.int (st : Nat)), y] ∧ st < 2305843009213693951 ∧ Same H H1 ∧ H1 o = some (.lst (ns.map V.int)) ∧ ns.length = i - 3) ?_ ?_ ?_
  · exact ⟨_, (c % 2305843009213693951).toNat, none, [], by rw [Int.toNat_of_nonneg (Int.emod_nonneg _ (by decide))], by have := Int.emod_lt_of_pos c (by decide : (0 : Int) < 2305843009213693951); omega, same_new no, upd_same, rfl⟩
  · rintro i σ H1 hi ⟨rest, st, y, ns, rfl, hst, sm, ho, hl⟩
    walk_at "w"
    refine w_mulI (.inl ⟨by omega, by omega⟩) ?_
    walk_at "w"
    refine w_mulI (.inl ⟨by decide, by decide⟩) ?_
    walk_at "w"
    generalize hst' : ((st : Int) * (st : Int) + 48271 * (st : Int) + (0 + (i : Int)) + 1) % 2305843009213693951 = st'
    have h0 : 0 ≤ st' := by rw [← hst']; exact Int.emod_nonneg _ (by decide)
    have h1 : st' < 2305843009213693951 := by rw [← hst']; exact Int.emod_lt_of_pos _ (by decide)
    obtain ⟨st2, rfl⟩ := Int.eq_ofNat_of_zero_le h0
    have app : ∀ (v : Int) (rest' : Int) (D : St → Hp → Prop), 2 < (0 + (i : Int)) → (∀ ms : List Int, ms.length = i + 1 - 3 → D [some (.int c), some (.int (many : Nat)), some (.int (size : Nat)), some (.ref o), some (.int rest'), some (.int (st2 : Nat)), some (.int (0 + (i : Int)))] (upd H1 o (.lst (ms.map V.int)))) →
        D [some (.int c), some (.int (many : Nat)), some (.int (size : Nat)), some (.ref o), some (.int rest'), some (.int (st2 : Nat)), some (.int (0 + (i : Int)))] (upd H1 o (.lst (ns.map V.int ++ [.int v]))) := fun v rest' D h2 h => by
      have := h (ns ++ [v]) (by rw [List.length_append, hl]; show i - 3 + 1 = _; omega)
      rw [List.map_append] at this
      exact this
    have fin : ∀ (rest' : Int) (H2 : Hp) (ms : List Int), Same H H2 → H2 o = some (.lst (ms.map V.int)) → ms.length = i + 1 - 3 → ∃ (rest : Int) (st : Nat) (y : Option V) (ns : List Int), [some (.int c), some (.int (many : Nat)), some (.int (size : Nat)), some (.ref o), some (.int rest'), some (.int (st2 : Nat)), some (.int (0 + (i : Int)))] = [some (.int c), some (.int (many : Nat)), some (.int (size : Nat)), some (.ref o), some (.int rest), some (.int (st : Nat)), y] ∧ st < 2305843009213693951 ∧ Same H H2 ∧ H2 o = some (.lst (ns.map V.int)) ∧ ns.length = i + 1 - 3 :=
      fun rest' H2 ms a b c => ⟨rest', st2, _, ms, rfl, by omega, a, b, c⟩
    have hz : (ns.map V.int).length < sizeLine := szLt _ (by rw [List.length_map]; omega)
    refine w_ifB (fun e => ?_) (fun e => ?_)
    · have h2 : 2 < (0 + (i : Int)) := bT e
      walk_at "w"
      refine w_ifB (fun e2 => ?_) (fun e2 => ?_)
      · walk_at "w"
        refine w_append ho hz ?_
        walk_at "w"
        exact app _ _ _ h2 fun ms hms => fin _ _ ms (same_mut sm no) upd_same hms
      · walk_at "w"
        rw [e]
        walk_at "w"
        refine w_append ho hz ?_
        walk_at "w"
        exact app _ _ _ h2 fun ms hms => fin _ _ ms (same_mut sm no) upd_same hms
    · walk_at "w"
      rw [e]
      walk_at "w"
      have h2 : ¬ 2 < (0 + (i : Int)) := bF e
      exact fin _ _ ns sm ho (by omega)
  · rintro σ H1 ⟨rest, st, y, ns, rfl, hst, sm, ho, hl⟩
    walk_at "w"
    exact q H1 o ns sm no ho (by omega)
end
section
variable (K : PySem.W.Frag)
theorem sem_l_bag : ∀ vs H Q E, sp_l_bag K vs H Q E → t_l_bag K { nx := fun _ H' => Q .non H', rt := Q } (start ["script", "k"] vs) H := by
  rintro vs H Q E ⟨a, ns, k, rfl, hs, q⟩
  show t_l_bag K _ [some (.ref a), some (.int (k : Nat))] H
  unfold t_l_bag
  walk_at "w"
  refine ⟨a, ns, k, rfl, hs, fun c => ?_⟩
  walk_at "w"
  refine ⟨c, 400, 1000, rfl, by decide, by decide, by decide, fun H' p ds sm np hp hl => ?_⟩
  walk_at "w"
  refine ⟨szOk 2, fun o no => ?_⟩
  exact q _ o (sm.trans (same_new no)) (sm.free no) ⟨p, 0, ds, upd_same, (same_new no) _ _ hp, hl⟩
theorem bag_mut {H : Hp} {b D : Addr} {xs ys : List V} (h : BagOk K H b) (hD : H D = some (.lst xs)) (hz : xs.length < 400) (ne : D ≠ b) : BagOk K (upd H D (.lst ys)) b := by
  obtain ⟨d, i, ns, h1, h2, h3⟩ := h
  refine ⟨d, i, ns, by rw [upd_ne ne.symm]; exact h1, ?_, h3⟩
  have nd : d ≠ D := fun e => by
    rw [e, hD] at h2
    cases h2
    rw [List.length_map] at hz
    omega
  rw [upd_ne nd]; exact h2
theorem sem_l_bags : ∀ vs H Q E, sp_l_bags K vs H Q E → t_l_bags K { nx := fun _ H' => Q .non H', rt := Q } (start ["script", "limit", "k"] vs) H := by
  rintro vs H Q E ⟨a, ns, k, rfl, hs, hk, q⟩
  show t_l_bags K _ [some (.ref a), some (.int (k : Nat)), none] H
  unfold t_l_bags
  walk_at "w"
  generalize hm : (if (if ((List.map V.int ns).length : Int) < (k : Int) then ((List.map V.int ns).length : Int) else (k : Int)) > 1 then (if ((List.map V.int ns).length : Int) < (k : Int) then ((List.map V.int ns).length : Int) else (k : Int)) else 1) = m
  have h0 : 0 ≤ m ∧ m ≤ 100 := by
    rw [← hm]
    split <;> split <;> omega
  refine ⟨m, rfl, by omega, by omega, fun D nD => ?_⟩
  refine lc_it walk_range (fun i H1 => ∃ bs : List Addr, Same H H1 ∧ H1 D = some (.lst (bs.map V.ref)) ∧ bs.length = i ∧ i ≤ 100 ∧ ∀ b ∈ bs, BagOk K H1 b ∧ D ≠ b) ⟨[], same_new nD, upd_same, rfl, by decide, fun b hb => by cases hb⟩ (fun _ _ _ _ => trivial) ?_ ?_
  · rintro i x H1 H1' hi ⟨bs, sm, hD, hl, hi2, hbs⟩ ⟨rfl, rfl⟩
    show gName 2 _ [some (.ref a), some (.int (k : Nat)), none] _ _
    walk_at "w"
    refine ⟨rfl, ?_⟩
    walk_at "w"
    refine ⟨a, ns, i, by show [V.ref a, V.int (0 + (i : Int))] = _; rw [Int.zero_add], sm.seq hs, fun H2 b s2 nb hb => ?_⟩
    have hD2 : H2 D = some (.lst (bs.map V.ref)) := s2 _ _ hD
    have neD : D ≠ b := ne_of_none hD nb
    have hz : (bs.map V.ref).length < 400 := by rw [List.length_map]; omega
    refine ⟨_, hD2, szLt _ (by omega), bs ++ [b], same_mut (sm.trans s2) nD, by rw [upd_same, List.map_append]; rfl, by rw [List.length_append, hl]; rfl, by omega, fun c hc => ?_⟩
    rcases List.mem_append.mp hc with hc | hc
    · exact ⟨bag_mut K (bag_same (hbs c hc).1 s2) hD2 hz (hbs c hc).2, (hbs c hc).2⟩
    · rw [List.mem_singleton.mp hc]
      exact ⟨bag_mut K hb hD2 hz neD, neD⟩
  · rintro H1 ⟨bs, sm, hD, hl, hi2, hbs⟩
    exact q H1 D bs sm hD (by omega) fun b hb => hbs b hb
theorem sem_l_take : ∀ vs H Q E, sp_l_take K vs H Q E → t_l_take K { nx := fun _ H' => Q .non H', rt := Q } (start ["bag", "many"] vs) H := by
  rintro vs H Q E ⟨b, m, rfl, hb, hm, q⟩
  show t_l_take K _ [some (.ref b), some (.int m)] H
  unfold t_l_take
  obtain ⟨d, i, ns, h1, h2, h3⟩ := id hb
  walk_at "w"
  have nd : d ≠ b := fun e => by
    rw [e, h1] at h2
    cases ns with
    | nil => cases h2
    | cons n ns => cases h2
  have h2' : (upd H b (.lst [.ref d, .int (i + 1)])) d = some (.lst (ns.map V.int)) := by rw [upd_ne nd]; exact h2
  have dr : Dr K b H (upd H b (.lst [.ref d, .int (i + 1)])) := ⟨⟨fun a o n e => by rw [upd_ne n]; exact e, ⟨_, h1⟩, ⟨_, upd_same⟩⟩, hb, ⟨d, i + 1, ns, upd_same, h2', h3⟩⟩
  generalize hH : (upd H b (.lst [.ref d, .int (i + 1)])) = H1 at dr h2'
  have h1' : H1 b = some (.lst [.ref d, .int (i + 1)]) := by rw [← hH]; exact upd_same
  show rLenQ K [V.ref d] (upd H b (.lst [.ref d, .int (i + 1)])) _
  rw [hH]
  walk_at "w"
  refine w_modI (by rw [List.length_map, h3]; decide) ?_
  rw [List.length_map, h3]
  generalize hj : (i + 1) % ((400 : Nat) : Int) = j
  have hj0 : 0 ≤ j := by rw [← hj]; exact Int.emod_nonneg _ (by decide)
  have hj1 : j < 400 := by rw [← hj]; exact Int.emod_lt_of_pos _ (by decide)
  obtain ⟨jn, rfl⟩ := Int.eq_ofNat_of_zero_le hj0
  have hjl : jn < ns.length := by omega
  refine w_ixL (sqL_at h2') (at_ints hjl) ?_
  walk_at "w"
  have hr0 : 0 ≤ ns[jn] % m := Int.emod_nonneg _ (by omega)
  have hr1 : ns[jn] % m < m := Int.emod_lt_of_pos _ hm
  obtain ⟨r, hr⟩ := Int.eq_ofNat_of_zero_le hr0
  have q' := q r H1 (by omega) dr
  rw [← hr] at q'
  exact q'
end
section
variable (K : PySem.W.Frag)
def sp_l_far_draw : Sp := fun vs H Q _ => ∃ (b : Addr) (m : Nat), vs = [.ref b, .int (m : Nat)] ∧ BagOk K H b ∧ 0 < m ∧ ∀ (r : Nat) (H' : Hp), r < m → Dr K b H H' → Q (.int (r : Nat)) H'
def sp_l_counter : Sp := fun vs H Q _ => ∃ (b : Addr), vs = [.ref b] ∧ BagOk K H b ∧ ∀ (v : V) (f : Folk) (H' : Hp), Dr K b H H' → (∃ tw e c, f = .ctr tw e c) → f.ok = true → Dp K H' v (folkD f) → Q v H'
def sp_l_mouths : Sp := fun vs H Q _ => ∃ (b : Addr) (most wide : Nat), vs = [.ref b, .int (most : Nat), .int (wide : Nat)] ∧ BagOk K H b ∧ most ≤ 10 ∧ 2 ≤ wide ∧ wide ≤ 26 ∧
  ∀ (v : V) (r : Row) (H' : Hp), Dr K b H H' → r.length ≤ most → (∀ f ∈ r, f.ok = true) → (∀ x y, Folk.hears x y ∈ r → x < 97 + wide ∧ y < 97 + wide) → Dp K H' v (rowD r) → Q v H'
theorem len_l_far_draw : ∀ vs H Q E, sp_l_far_draw K vs H Q E → vs.length = 2 := by rintro _ _ _ _ ⟨_, _, rfl, _⟩; rfl
theorem len_l_counter : ∀ vs H Q E, sp_l_counter K vs H Q E → vs.length = 1 := by rintro _ _ _ _ ⟨_, rfl, _⟩; rfl
theorem len_l_mouths : ∀ vs H Q E, sp_l_mouths K vs H Q E → vs.length = 3 := by rintro _ _ _ _ ⟨_, _, _, rfl, _⟩; rfl
end
def t_l_far_draw (K : PySem.W.Frag) : TS :=
  (tSeq (tPar 2 3 (tCons (tC (.int 0)) (tCons (tVar 1) tNil)))
  (tSeq (tWhile (tTest (tOp rGtI (tVar 3) (tC (.int 0)))) (tPar 2 3 (tCons (tOp rAddI (tOp rMulI (tC (.int 1000)) (tVar 2)) (tCall (sp_l_take K) [] E0 (tCons (tVar 0) (tCons (tC (.int 1000)) tNil)))) (tCons (tOp rDivI (tVar 3) (tC (.int 1000))) tNil))))
  (tRet (tOp (rIxL K) (tLst (tCons (tOp rModI (tVar 2) (tVar 1)) (tCons (tC (.int 0)) (tCons (tOp rSubI (tVar 1) (tC (.int 1))) (tCons (tOp rModI (tVar 2) (tVar 1)) tNil))))) (tCall (sp_l_take K) [] E0 (tCons (tVar 0) (tCons (tC (.int 4)) tNil)))))))

def t_l_counter (K : PySem.W.Frag) : TS :=
  (tSeq (tAsg (tOp rAddI (tC (.int 2)) (tCall (sp_l_take K) [] E0 (tCons (tVar 0) (tCons (tC (.int 5)) tNil)))) (gName 1))
  (tRet (tTup (tCons (tOp (rIxL K) (tLst (tCons (tC (.str "drop")) (tCons (tC (.str "twice")) tNil))) (tCall (sp_l_take K) [] E0 (tCons (tVar 0) (tCons (tC (.int 2)) tNil)))) (tCons (tVar 1) (tCons (tCall (sp_l_take K) [] E0 (tCons (tVar 0) (tCons (tVar 1) tNil))) tNil))))))

def t_l_mouths (K : PySem.W.Frag) : TS :=
  (tSeq (tAsg (tLst tNil) (gName 3))
  (tSeq (tFor (iRng1 (tCons (tCall (sp_l_take K) [] E0 (tCons (tVar 0) (tCons (tOp rAddI (tVar 1) (tC (.int 1))) tNil))) tNil)) (gName 4)
  (tIfS (tTest (tOp rEq (tCall (sp_l_take K) [] E0 (tCons (tVar 0) (tCons (tC (.int 4)) tNil))) (tC (.int 0)))) (tSeq (tAsg (tCall (sp_l_take K) [] E0 (tCons (tVar 0) (tCons (tVar 2) tNil))) (gName 5))
  (tSeq (tAsg (tOp rModI (tOp rAddI (tOp rAddI (tVar 5) (tC (.int 1))) (tCall (sp_l_take K) [] E0 (tCons (tVar 0) (tCons (tOp rSubI (tVar 2) (tC (.int 1))) tNil)))) (tVar 2)) (gName 6))
  (tSeq (tAsg (tC (.str "abcdefghijklmnopqrstuvwxyz")) (gName 7))
  (tDrop (tBM K "list" rAppend (tVar 3) (tCons (tTup (tCons (tC (.str "hears")) (tCons (tOp rIxS (tVar 7) (tVar 5)) (tCons (tOp rIxS (tVar 7) (tVar 6)) tNil)))) tNil)))))) (tDrop (tBM K "list" rAppend (tVar 3) (tCons (tCall (sp_l_counter K) [] E0 (tCons (tVar 0) tNil)) tNil)))))
  (tRet (tCB (rTupQ K) (tCons (tVar 3) tNil)))))

theorem w_while {c : TT} {tb : TS} {D : Ends} {σ : St} {H : Hp} (Pv : Nat → St → Hp → Prop) (h0 : ∃ m, Pv m σ H)
    (hs : ∀ m σ H, Pv m σ H → c σ H fun b H1 => if b = true then tb { D with nx := fun σ' H' => ∃ m', m' < m ∧ Pv m' σ' H', ct := fun σ' H' => ∃ m', m' < m ∧ Pv m' σ' H', bk := D.nx } σ H1 else D.nx σ H1)
    (mono : ∀ σ H Q Q', (∀ b H1, Q b H1 → Q' b H1) → c σ H Q → c σ H Q') : tWhile c tb D σ H := by
  refine ⟨Pv, h0, fun m σ H p => ?_⟩
  refine mono _ _ _ _ (fun b H1 q => ?_) (hs m σ H p)
  cases b with
  | true => exact ⟨_, fun σ' H' q => q, q⟩
  | false => exact q
section
variable (K : PySem.W.Frag)
theorem mono_cmp {r : R2} {ta tb : TE} (ma : ∀ σ H (Q Q' : VK), (∀ v H1, Q v H1 → Q' v H1) → ta σ H Q → ta σ H Q') (mb : ∀ σ H (Q Q' : VK), (∀ v H1, Q v H1 → Q' v H1) → tb σ H Q → tb σ H Q')
    (mr : ∀ x y H (Q Q' : VK), (∀ v H1, Q v H1 → Q' v H1) → r x y H Q → r x y H Q') : ∀ σ H (Q Q' : Bool → Hp → Prop), (∀ b H1, Q b H1 → Q' b H1) → tTest (tOp r ta tb) σ H Q → tTest (tOp r ta tb) σ H Q' := by
  intro σ H Q Q' h q
  refine ma _ _ _ _ (fun v H1 q1 => ?_) q
  refine mb _ _ _ _ (fun v2 H2 q2 => ?_) q1
  refine mr _ _ _ _ _ (fun v3 H3 q3 => ?_) q2
  obtain ⟨k, e, q4⟩ := q3
  exact ⟨k, e, h _ _ q4⟩
theorem mono_var {i : Nat} : ∀ σ H (Q Q' : VK), (∀ v H1, Q v H1 → Q' v H1) → tVar i σ H Q → tVar i σ H Q' := fun _ _ _ _ h ⟨v, e, q⟩ => ⟨v, e, h _ _ q⟩
theorem mono_c {v : V} : ∀ σ H (Q Q' : VK), (∀ v H1, Q v H1 → Q' v H1) → tC v σ H Q → tC v σ H Q' := fun _ _ _ _ h q => h _ _ q
theorem mono_I0 {g : Int → Int → V} : ∀ x y H (Q Q' : VK), (∀ v H1, Q v H1 → Q' v H1) → rI0 g x y H Q → rI0 g x y H Q' := fun _ _ _ _ _ h ⟨i, j, e1, e2, q⟩ => ⟨i, j, e1, e2, h _ _ q⟩
theorem at4 {x0 x1 x2 x3 : V} (r : Nat) (h : r < 4) : ∃ v, atI [x0, x1, x2, x3] (r : Int) = some v ∧ (v = x0 ∨ v = x1 ∨ v = x2 ∨ v = x3) := by
  match r, h with
  | 0, _ => exact ⟨x0, rfl, .inl rfl⟩
  | 1, _ => exact ⟨x1, rfl, .inr (.inl rfl)⟩
  | 2, _ => exact ⟨x2, rfl, .inr (.inr (.inl rfl))⟩
  | 3, _ => exact ⟨x3, rfl, .inr (.inr (.inr rfl))⟩
theorem at2 {x0 x1 : V} (r : Nat) (h : r < 2) : atI [x0, x1] (r : Int) = some (if r = 0 then x0 else x1) := by
  match r, h with
  | 0, _ => rfl
  | 1, _ => rfl
theorem at3 {x0 x1 x2 : V} (r : Nat) (h : r < 3) : ∃ v, atI [x0, x1, x2] (r : Int) = some v ∧ (v = x0 ∨ v = x1 ∨ v = x2) := by
  match r, h with
  | 0, _ => exact ⟨x0, rfl, .inl rfl⟩
  | 1, _ => exact ⟨x1, rfl, .inr (.inl rfl)⟩
  | 2, _ => exact ⟨x2, rfl, .inr (.inr rfl)⟩
theorem sem_l_far_draw : ∀ vs H Q E, sp_l_far_draw K vs H Q E → t_l_far_draw K { nx := fun _ H' => Q .non H', rt := Q } (start ["bag", "many", "found", "much"] vs) H := by
  rintro vs H Q E ⟨b, m, rfl, hb, hm, q⟩
  show t_l_far_draw K _ [some (.ref b), some (.int (m : Nat)), none, none] H
  unfold t_l_far_draw
  walk_at "w"
  refine w_while (fun k σ H1 => ∃ f : Nat, σ = [some (.ref b), some (.int (m : Nat)), some (.int (f : Nat)), some (.int (k : Nat))] ∧ Dr K b H H1) ⟨m, 0, rfl, .of_same (Same.refl H) hb⟩ ?_ (mono_cmp mono_var mono_c mono_I0)
  rintro k σ H1 ⟨f, rfl, dr⟩
  walk_at "w"
  refine w_ifB (fun e => ?_) (fun e => ?_)
  · have hk : 0 < k := by have := bT e; omega
    walk_at "w"
    refine w_mulI (.inl ⟨by decide, by decide⟩) ?_
    walk_at "w"
    refine ⟨b, 1000, rfl, dr.b1, by decide, fun r H2 hr dr2 => ?_⟩
    walk_at "w"
    refine ⟨k / 1000, by omega, 1000 * f + r, ?_, dr.trans dr2⟩
    rfl
  · walk_at "w"
    refine ⟨szOk 4, fun p np => ?_⟩
    walk_at "w"
    refine ⟨b, 4, rfl, (dr.new np).b1, by decide, fun r H2 hr dr2 => ?_⟩
    have hp : H2 p = some (.lst [.int ((f : Int) % (m : Int)), .int 0, .int ((m : Int) - 1), .int ((f : Int) % (m : Int))]) := dr2.at upd_same (bag_ne dr.b1 np)
    obtain ⟨v, hv, hvs⟩ := at4 (x0 := .int ((f : Int) % (m : Int))) (x1 := .int 0) (x2 := .int ((m : Int) - 1)) (x3 := .int ((f : Int) % (m : Int))) r (by omega)
    refine w_ixL (sqL_at hp) hv ?_
    have dr3 := (dr.new np).trans dr2
    have e1 : (f : Int) % (m : Int) = ((f % m : Nat) : Int) := rfl
    have e2 : (m : Int) - 1 = ((m - 1 : Nat) : Int) := by omega
    have l1 : f % m < m := Nat.mod_lt _ hm
    rcases hvs with rfl | rfl | rfl | rfl
    · exact q (f % m) H2 l1 dr3
    · exact q 0 H2 hm dr3
    · have := q (m - 1) H2 (by omega) dr3
      rw [← e2] at this
      exact this
    · exact q (f % m) H2 l1 dr3
theorem sem_l_counter : ∀ vs H Q E, sp_l_counter K vs H Q E → t_l_counter K { nx := fun _ H' => Q .non H', rt := Q } (start ["bag", "every"] vs) H := by
  rintro vs H Q E ⟨b, rfl, hb, q⟩
  show t_l_counter K _ [some (.ref b), none] H
  unfold t_l_counter
  walk_at "w"
  refine ⟨b, 5, rfl, hb, by decide, fun e H1 he dr1 => ?_⟩
  walk_at "w"
  refine ⟨szOk 2, fun p np => ?_⟩
  walk_at "w"
  refine ⟨b, 2, rfl, (dr1.new np).b1, by decide, fun t H2 ht dr2 => ?_⟩
  have hp : H2 p = some (.lst [.str "drop", .str "twice"]) := dr2.at upd_same (bag_ne dr1.b1 np)
  refine w_ixL (sqL_at hp) (at2 t (by omega)) ?_
  walk_at "w"
  refine ⟨b, 2 + (e : Int), rfl, dr2.b1, by omega, fun c H3 hc dr3 => ?_⟩
  walk_at "w"
  refine ⟨szOk 3, fun o no => ?_⟩
  have drs := ((dr1.new np).trans dr2).trans dr3
  refine q _ (.ctr (decide (t ≠ 0)) (2 + e) c) _ (drs.new no) ⟨_, _, _, rfl⟩ ?_ (folk_of (sqT_at ?_))
  · show (decide (2 ≤ 2 + e) && decide (2 + e ≤ 6) && decide (c < 2 + e)) = true
    rw [decide_eq_true (by omega), decide_eq_true (by omega), decide_eq_true (by omega)]
    rfl
  · rw [upd_same]
    by_cases h0 : t = 0
    · subst h0
      rfl
    · rw [if_neg h0]
      show _ = some (HO.tup [.str (kindOf (decide (t ≠ 0))), .int ((2 + e : Nat) : Int), .int (c : Nat)])
      rw [decide_eq_true h0]
      rfl
end
section
variable (K : PySem.W.Frag)
theorem alpha_at (k : Nat) (h : k < 26) : atI (Str.ofString "abcdefghijklmnopqrstuvwxyz").cps.toList (k : Int) = some (97 + k) := by
  have e : ∀ j : Fin 26, atI (Str.ofString "abcdefghijklmnopqrstuvwxyz").cps.toList ((j.val : Nat) : Int) = some (97 + j.val) := by decide +kernel
  exact e ⟨k, h⟩
theorem alpha_len : (Str.ofString "abcdefghijklmnopqrstuvwxyz").length ≤ sizeLine := Nat.le_trans (by decide +kernel : (Str.ofString "abcdefghijklmnopqrstuvwxyz").length ≤ 26) (by decide)
theorem mv_set {H : Hp} {o : Addr} {xs ys : List V} (h : H o = some (.lst xs)) : Mv o H (upd H o (.lst ys)) := ⟨fun _ _ n e => by rw [upd_ne n]; exact e, ⟨xs, h⟩, ⟨ys, upd_same⟩⟩
theorem isSmall_of {c : Nat} (h1 : 97 ≤ c) (h2 : c ≤ 122) : isSmall c = true := by
  unfold isSmall
  rw [decide_eq_true h1, decide_eq_true h2]
  rfl
theorem sem_l_mouths : ∀ vs H Q E, sp_l_mouths K vs H Q E → t_l_mouths K { nx := fun _ H' => Q .non H', rt := Q } (start ["bag", "most", "wide", "found", "turn", "one", "other", "letters"] vs) H := by
  rintro vs H Q E ⟨b, most, wide, rfl, hb, hmo, hw0, hw1, q⟩
  show t_l_mouths K _ [some (.ref b), some (.int (most : Nat)), some (.int (wide : Nat)), none, none, none, none, none] H
  unfold t_l_mouths
  walk_at "w"
  refine ⟨szOk 0, fun o no => ?_⟩
  walk_at "w"
  have hbo := (Dr.of_same (same_new (o := .lst []) no) hb)
  refine ⟨b, (most : Int) + 1, rfl, hbo.b1, by omega, fun n H1 hn dr1 => ?_⟩
  walk_at "w"
  have neo : o ≠ b := bag_ne hb no
  have drs := hbo.trans dr1
  refine ⟨(n : Nat), rfl, by omega, by omega, ?_⟩
  refine for_range (lo := 0) (n := ((n : Nat) : Int).toNat) (fun i σ H2 => ∃ (y4 y5 y6 y7 : Option V) (r : Row) (xs : List V), σ = [some (.ref b), some (.int (most : Nat)), some (.int (wide : Nat)), some (.ref o), y4, y5, y6, y7] ∧
      Dr K b H H2 ∧ H2 o = some (.lst xs) ∧ DpAll K H2 xs (r.map folkD) ∧ r.length = i ∧ (∀ f ∈ r, f.ok = true) ∧ (∀ x y, Folk.hears x y ∈ r → x < 97 + wide ∧ y < 97 + wide)) ?_ ?_ ?_
  · exact ⟨none, none, none, none, [], [], rfl, drs, dr1.at upd_same neo, .nil, rfl, (fun f hf => by cases hf), (fun x y hf => by cases hf)⟩
  · rintro i σ H2 hi ⟨y4, y5, y6, y7, r, xs, rfl, dr, ho, hx, hl, hok, hsm⟩
    walk_at "w"
    refine ⟨b, 4, rfl, dr.b1, by decide, fun t H3 ht dr3 => ?_⟩
    walk_at "w"
    have hi10 : i < 10 := by rw [Int.toNat_natCast] at hi; omega
    have hlx : xs.length = i := by rw [hx.len, List.length_map, hl]
    -- what is appended
    have app : ∀ (H5 : Hp) (v : V) (f : Folk) (z4 z5 z6 z7 : Option V), Dr K b H2 H5 → Dp K H5 v (folkD f) → f.ok = true → (∀ x y, f = .hears x y → x < 97 + wide ∧ y < 97 + wide) →
        ∃ xs5, H5 o = some (.lst xs5) ∧ xs5.length < sizeLine ∧ ∃ (y4 y5 y6 y7 : Option V) (r : Row) (xs : List V), [some (.ref b), some (.int (most : Nat)), some (.int (wide : Nat)), some (.ref o), z4, z5, z6, z7] = [some (.ref b), some (.int (most : Nat)), some (.int (wide : Nat)), some (.ref o), y4, y5, y6, y7] ∧
      Dr K b H (upd H5 o (.lst (xs5 ++ [v]))) ∧ (upd H5 o (.lst (xs5 ++ [v]))) o = some (.lst xs) ∧ DpAll K (upd H5 o (.lst (xs5 ++ [v]))) xs (r.map folkD) ∧ r.length = i + 1 ∧ (∀ f ∈ r, f.ok = true) ∧ (∀ x y, Folk.hears x y ∈ r → x < 97 + wide ∧ y < 97 + wide) := by
      intro H5 v f z4 z5 z6 z7 d5 hv hf hfs
      have ho5 : H5 o = some (.lst xs) := d5.at ho neo
      have mvo : Mv o H5 (upd H5 o (.lst (xs ++ [v]))) := mv_set ho5
      refine ⟨xs, ho5, szLt _ (by omega), z4, z5, z6, z7, r ++ [f], xs ++ [v], rfl, (dr.trans d5).mut no (bag_mut K d5.b1 ho5 (by omega) neo), upd_same, ?_, by rw [List.length_append, hl]; rfl, fun g hg => ?_, fun x y hg => ?_⟩
      · rw [List.map_append]
        exact (mvo.tp.dpAll _ _ (noLs_folks r) (d5.tp.dpAll _ _ (noLs_folks r) hx)).app (.cons (mvo.tp.dp _ _ (noL_folk f) hv) .nil)
      · rcases List.mem_append.mp hg with hg | hg
        · exact hok g hg
        · rw [List.mem_singleton.mp hg]; exact hf
      · rcases List.mem_append.mp hg with hg | hg
        · exact hsm x y hg
        · exact hfs x y (List.mem_singleton.mp hg).symm
    refine w_ifB (fun e => ?_) (fun e => ?_)
    · walk_at "w"
      refine ⟨b, (wide : Int), rfl, dr3.b1, by omega, fun one H4 h1 dr4 => ?_⟩
      walk_at "w"
      refine ⟨b, (wide : Int) - 1, rfl, dr4.b1, by omega, fun k H5 hk dr5 => ?_⟩
      have ho5 : H5 o = some (.lst xs) := ((dr3.trans dr4).trans dr5).at ho neo
      walk_at "w"
      have hone : one < wide := by omega
      refine w_ixS alpha_len (alpha_at one (by omega)) ?_
      walk_at "w"
      have e6 : ((one : Int) + 1 + (k : Int)) % (wide : Int) = (((one + 1 + k) % wide : Nat) : Int) := rfl
      rw [e6]
      have hot : (one + 1 + k) % wide < wide := Nat.mod_lt _ (by omega)
      have hne : one ≠ (one + 1 + k) % wide := by
        intro z
        by_cases hlt : one + 1 + k < wide
        · rw [Nat.mod_eq_of_lt hlt] at z; omega
        · rw [Nat.mod_eq_sub_mod (by omega), Nat.mod_eq_of_lt (by omega)] at z; omega
      generalize hoth : (one + 1 + k) % wide = other at hot hne
      refine w_ixS alpha_len (alpha_at other (by omega)) ?_
      walk_at "w"
      refine ⟨szOk 3, fun p np => ?_⟩
      obtain ⟨xs5, g1, g2, g3⟩ := app _ (.ref p) (.hears (97 + one) (97 + other)) (some (.int (0 + (i : Int)))) (some (.int (one : Nat))) (some (.int (other : Nat))) (some (.str "abcdefghijklmnopqrstuvwxyz")) (((dr3.trans dr4).trans dr5).new np) (folk_of sqT_new)
        (by show (isSmall (97 + one) && isSmall (97 + other) && decide (97 + one ≠ 97 + other)) = true
            rw [isSmall_of (by omega) (by omega), isSmall_of (by omega) (by omega), decide_eq_true (by omega)]; rfl) (fun x y hxy => by cases hxy; omega)
      walk_at "w"
      refine w_append g1 g2 ?_
      walk_at "w"
      exact g3
    · have ho3 : H3 o = some (.lst xs) := dr3.at ho neo
      walk_at "w"
      refine ⟨b, rfl, dr3.b1, fun v f H4 dr4 hfc hf hv => ?_⟩
      obtain ⟨xs5, g1, g2, g3⟩ := app _ v f (some (.int (0 + (i : Int)))) y5 y6 y7 (dr3.trans dr4) hv hf (fun x y hxy => by obtain ⟨_, _, _, z⟩ := hfc; rw [z] at hxy; cases hxy)
      walk_at "w"
      refine w_append g1 g2 ?_
      walk_at "w"
      exact g3
  · rintro σ H2 ⟨y4, y5, y6, y7, r, xs, rfl, dr, ho, hx, hl, hok, hsm⟩
    walk_at "w"
    refine w_tupL (sqL_at ho) fun l nl => ?_
    refine q (.ref l) r _ (dr.new nl) (by rw [hl, Int.toNat_natCast]; omega) hok hsm (.tup sqT_new ((same_new nl).dpAll _ _ hx))
end
end HH

namespace HH
open PySem PySem.Spec L2
local macro_rules | `(tactic| walk_at "cy") => `(tactic| first
  | assumption
  | exact L2.upd_same
  | exact L2.sqL_new
  | exact L2.sqT_new
  | exact L2.sqL_at (by assumption)
  | exact L2.sqT_at (by assumption)
  | (refine' L2.Same.seq (by assumption) ?k0; (case k0 => walk_at "cy"))
  | (refine' L2.Same.sqT (by assumption) ?k0; (case k0 => walk_at "cy"))
  | (refine' L2.Same.dat (by assumption) ?k0; (case k0 => walk_at "cy"))
  | (refine' (by assumption : L2.Same _ _) _ _ ?k0; (case k0 => walk_at "cy"))
  | (refine' L2.Same.seq (L2.same_new (by assumption)) ?k0; (case k0 => walk_at "cy"))
  | (refine' L2.Same.sqT (L2.same_new (by assumption)) ?k0; (case k0 => walk_at "cy"))
  | (refine' L2.Same.dat (L2.same_new (by assumption)) ?k0; (case k0 => walk_at "cy"))
  | (refine' L2.same_new (by assumption) _ _ ?k0; (case k0 => walk_at "cy"))
  | (refine' L2.Mv.sqT (by assumption) ?k0; (case k0 => walk_at "cy")))
local macro_rules | `(tactic| walk_at "w") => `(tactic| repeat (first
  | refine HH.stp ?_
  | with_reducible refine L2.iteT ?_
  | with_reducible refine L2.iteF ?_
  | ((with_reducible refine' HH.w_gtup ?k1 ?k2 ?_); (case k1 => walk_at "cy"); (case k2 => exact rfl))
  | ((with_reducible refine' HH.w_ixT ?k1 ?k2 ?_); (case k1 => walk_at "cy"); (case k2 => exact rfl))
  | ((with_reducible refine' HH.w_ixL ?k1 ?k2 ?_); (case k1 => walk_at "cy"); (case k2 => exact rfl))
  | ((with_reducible refine' HH.w_lenL ?k1 ?_); (case k1 => walk_at "cy"))
  | ((with_reducible refine' HH.w_lenT ?k1 ?_); (case k1 => walk_at "cy"))
  | ((with_reducible refine' HH.w_exT ?k1 ?_); (case k1 => walk_at "cy"))
  | ((with_reducible refine' HH.w_exL ?k1 ?_); (case k1 => walk_at "cy"))
  | ((with_reducible refine' HH.w_tyL ?k1 ?_); (case k1 => walk_at "cy"))
  | ((with_reducible refine' HH.w_setL ?k1 ?k2 ?_); (case k1 => walk_at "cy"); (case k2 => exact rfl))
  | ((with_reducible refine' HH.w_modI ?k1 ?_); (case k1 => first | (with_reducible assumption) | omega))
  | ((with_reducible refine' HH.w_divI ?k1 ?_); (case k1 => (constructor <;> omega)))))
local macro_rules | `(tactic| walk_at "v") => `(tactic| ((repeat ((fail_if_success (with_reducible refine HH.isIf ?_)); first
  | refine HH.stp ?_
  | with_reducible refine L2.iteT ?_
  | with_reducible refine L2.iteF ?_
  | ((with_reducible refine' HH.w_gtup ?k1 ?k2 ?_); (case k1 => walk_at "cy"); (case k2 => exact rfl))
  | ((with_reducible refine' HH.w_ixT ?k1 ?k2 ?_); (case k1 => walk_at "cy"); (case k2 => exact rfl))
  | ((with_reducible refine' HH.w_ixL ?k1 ?k2 ?_); (case k1 => walk_at "cy"); (case k2 => exact rfl))
  | ((with_reducible refine' HH.w_lenL ?k1 ?_); (case k1 => walk_at "cy"))
  | ((with_reducible refine' HH.w_lenT ?k1 ?_); (case k1 => walk_at "cy"))
  | ((with_reducible refine' HH.w_exT ?k1 ?_); (case k1 => walk_at "cy"))
  | ((with_reducible refine' HH.w_exL ?k1 ?_); (case k1 => walk_at "cy"))
  | ((with_reducible refine' HH.w_tyL ?k1 ?_); (case k1 => walk_at "cy"))
  | ((with_reducible refine' HH.w_setL ?k1 ?k2 ?_); (case k1 => walk_at "cy"); (case k2 => exact rfl))
  | ((with_reducible refine' HH.w_modI ?k1 ?_); (case k1 => first | (with_reducible assumption) | omega))
  | ((with_reducible refine' HH.w_divI ?k1 ?_); (case k1 => (constructor <;> omega)))))); (try (with_reducible refine HH.isIf ?_)))
theorem kind_nh (tw : Bool) : ¬ (kindOf tw = "hears") := by cases tw <;> decide +kernel
theorem kind_d : kindOf false = "drop" := rfl
theorem kind_nd : ¬ (kindOf true = "drop") := by decide +kernel
theorem fitDs_of : ∀ {ds : List PyData}, (∀ d ∈ ds, fitD d = true) → fitDs ds = true
  | [], _ => rfl
  | d :: ds, h => by
    show (fitD d && fitDs ds) = true
    rw [h d List.mem_cons_self, fitDs_of fun e he => h e (List.mem_cons_of_mem _ he)]
    rfl
theorem fit_folk (f : Folk) : fitD (folkD f) = true := by
  cases f with
  | hears a b =>
    show (decide ((Str.ofString "hears").length ≤ 10000) && (decide ((sg a).length ≤ 10000) && (decide ((sg b).length ≤ 10000) && true))) = true
    rw [decide_eq_true (by decide +kernel), decide_eq_true (by show 1 ≤ 10000; decide), decide_eq_true (by show 1 ≤ 10000; decide)]
    rfl
  | ctr tw e c =>
    show (decide ((kindOf tw).length ≤ 10000) && (true && (true && true))) = true
    rw [decide_eq_true (by cases tw <;> decide +kernel)]
    rfl
theorem fit_row (r : Row) : fitD (rowD r) = true := fitDs_of fun d hd => by
  obtain ⟨f, _, rfl⟩ := List.mem_map.mp hd
  exact fit_folk f
theorem isLetter_sg {c : Nat} (h : isSmall c = true) : isLetterD (.str (sg c)) = true := by
  show (decide ((sg c).length = 1) && isSmall c) = true
  rw [decide_eq_true (lenS_sg c), h]
  rfl
theorem sg_inj {a b : Nat} (h : sg a = sg b) : a = b := by
  have : (#[a] : Array Nat) = #[b] := congrArg Str.cps h
  simpa using this
theorem isOne_of {f : Folk} (h : f.ok = true) : isOneD (folkD f) = true := by
  cases f with
  | hears a b =>
    have h' : (isSmall a && isSmall b && decide (a ≠ b)) = true := h
    simp only [Bool.and_eq_true, decide_eq_true_eq] at h'
    rw [show isOneD (folkD (.hears a b)) = (isLetterD (.str (sg a)) && (isLetterD (.str (sg b)) && !PyData.eqv (.str (sg a)) (.str (sg b)))) from rfl, isLetter_sg h'.1.1, isLetter_sg h'.1.2, eqv_str, decide_eq_false fun z => h'.2 (sg_inj z)]
    rfl
  | ctr tw e c =>
    have h' : (decide (2 ≤ e) && decide (e ≤ 6) && decide (c < e)) = true := h
    simp only [Bool.and_eq_true, decide_eq_true_eq] at h'
    have hk : kindOf tw = "drop" ∨ kindOf tw = "twice" := by cases tw <;> simp [kindOf]
    rw [show isOneD (folkD (.ctr tw e c)) = ((decide ((2 : Int) ≤ (e : Nat)) && decide (((e : Nat) : Int) ≤ 6)) && (decide ((0 : Int) ≤ (c : Nat)) && decide (((c : Nat) : Int) ≤ (e : Nat) - 1))) from (if_neg (kind_nh tw)).trans (if_pos hk), decide_eq_true (by omega), decide_eq_true (by omega), decide_eq_true (by omega), decide_eq_true (by omega)]
    rfl
theorem isRow_of {r : Row} (h : Row.Ok r) : isRowD (rowD r) = true := by
  show (decide ((r.map folkD).length ≤ 4) && (r.map folkD).all isOneD) = true
  rw [List.length_map, decide_eq_true h.1, Bool.true_and, List.all_eq_true]
  intro d hd
  obtain ⟨f, hf, rfl⟩ := List.mem_map.mp hd
  exact isOne_of (h.2 f hf)
theorem rok_of {r : Row} (h : Row.Ok r) : rok r := fun f hf => fok_of (h.2 f hf)
section
variable (K : PySem.W.Frag)
def sp_passed : Sp := fun vs H Q _ => ∃ (x : V) (f : Folk) (n : Nat), vs = [x, .int (n : Nat)] ∧ Dp K H x (folkD f) ∧ fok f ∧ Q (.int (passed f n : Nat)) H
def sp_wanted : Sp := fun vs H Q _ => ∃ (x : V) (f : Folk) (n : Nat), vs = [x, .int (n : Nat)] ∧ Dp K H x (folkD f) ∧ fok f ∧ Q (.int (wanted f n : Nat)) H
def sp_all_come : Sp := fun vs H Q _ => ∃ (x : V) (r : Row) (n : Nat), vs = [x, .int (n : Nat)] ∧ Dp K H x (rowD r) ∧ rok r ∧ Q (.int (allCome r n : Nat)) H
def sp_fewest_signs : Sp := fun vs H Q _ => ∃ (x : V) (r : Row) (n : Nat), vs = [x, .int (n : Nat)] ∧ Dp K H x (rowD r) ∧ rok r ∧ ∀ H', Same H H' → Q (.int (fewest r n : Nat)) H'
def sp_need_many (_ : PySem.W.Frag) : Sp := fun vs H Q _ => ∃ (n m : Int), vs = [.int n, .int m] ∧ 0 ≤ n ∧ n ≤ m ∧ Q .non H
def sp_come : Sp := fun vs H Q _ => ∃ (x : V) (r : Row) (n : Nat), vs = [x, .int (n : Nat)] ∧ Dp K H x (rowD r) ∧ Row.Ok r ∧ n ≤ 1000000000000000 ∧ ∀ H', Same H H' → Q (.int (allCome r n : Nat)) H'
def sp_least_for : Sp := fun vs H Q _ => ∃ (x : V) (r : Row) (n : Nat), vs = [x, .int (n : Nat)] ∧ Dp K H x (rowD r) ∧ Row.Ok r ∧ n ≤ 1000000000000000 ∧ ∀ H', Same H H' → Q (.int (fewest r n : Nat)) H'
theorem len_passed : ∀ vs H Q E, sp_passed K vs H Q E → vs.length = 2 := by rintro _ _ _ _ ⟨_, _, _, rfl, _⟩; rfl
theorem len_wanted : ∀ vs H Q E, sp_wanted K vs H Q E → vs.length = 2 := by rintro _ _ _ _ ⟨_, _, _, rfl, _⟩; rfl
theorem len_all_come : ∀ vs H Q E, sp_all_come K vs H Q E → vs.length = 2 := by rintro _ _ _ _ ⟨_, _, _, rfl, _⟩; rfl
theorem len_fewest_signs : ∀ vs H Q E, sp_fewest_signs K vs H Q E → vs.length = 2 := by rintro _ _ _ _ ⟨_, _, _, rfl, _⟩; rfl
theorem len_need_many : ∀ vs H Q E, sp_need_many K vs H Q E → vs.length = 2 := by rintro _ _ _ _ ⟨_, _, rfl, _⟩; rfl
theorem len_come : ∀ vs H Q E, sp_come K vs H Q E → vs.length = 2 := by rintro _ _ _ _ ⟨_, _, _, rfl, _⟩; rfl
theorem len_least_for : ∀ vs H Q E, sp_least_for K vs H Q E → vs.length = 2 := by rintro _ _ _ _ ⟨_, _, _, rfl, _⟩; rfl
end
def t_passed (K : PySem.W.Frag) : TS :=
  (tSeq (tAsg (tVar 0) (gTup K 3 (gCons (gName 2) (gCons (gName 3) (gCons (gName 4) gNil)))))
  (tSeq (tIfS (tTest (tOp rEq (tVar 2) (tC (.str "hears")))) (tRet (tVar 1)) tNext)
  (tSeq (tAsg (tOp rDivI (tOp rAddI (tVar 1) (tVar 4)) (tVar 3)) (gName 5))
  (tRet (tIf (tTest (tOp rEq (tVar 2) (tC (.str "drop")))) (tOp rSubI (tVar 1) (tVar 5)) (tOp rAddI (tVar 1) (tVar 5)))))))

def t_wanted (K : PySem.W.Frag) : TS :=
  (tSeq (tAsg (tVar 0) (gTup K 3 (gCons (gName 2) (gCons (gName 3) (gCons (gName 4) gNil)))))
  (tSeq (tIfS (tOr (tTest (tOp rEq (tVar 2) (tC (.str "hears")))) (tTest (tOp rEq (tVar 1) (tC (.int 0))))) (tRet (tVar 1)) tNext)
  (tSeq (tAsg (tOp rAddI (tVar 1) (tVar 4)) (gName 5))
  (tSeq (tIfS (tTest (tOp rEq (tVar 2) (tC (.str "drop")))) (tRet (tOp rSubI (tOp rAddI (tVar 5) (tOp rDivI (tOp rSubI (tVar 5) (tC (.int 1))) (tOp rSubI (tVar 3) (tC (.int 1))))) (tVar 4))) tNext)
  (tRet (tOp rSubI (tOp rSubI (tVar 5) (tOp rDivI (tVar 5) (tOp rAddI (tVar 3) (tC (.int 1))))) (tVar 4)))))))

def t_all_come (K : PySem.W.Frag) : TS :=
  (tSeq (tFor (iTup K (tVar 0)) (gName 2)
  (tAsg (tCall (sp_passed K) [] E0 (tCons (tVar 2) (tCons (tVar 1) tNil))) (gName 1)))
  (tRet (tVar 1)))

def t_fewest_signs (K : PySem.W.Frag) : TS :=
  (tSeq (tFor (iTup K (tRevT K (tVar 0))) (gName 2)
  (tAsg (tCall (sp_wanted K) [] E0 (tCons (tVar 2) (tCons (tVar 1) tNil))) (gName 1)))
  (tRet (tVar 1)))

def t_need_many (K : PySem.W.Frag) : TS :=
  (tIfS (tNot (tB (tCall (sp_is_within K) [] E0 (tCons (tVar 0) (tCons (tC (.int 0)) (tCons (tVar 1) tNil)))))) tNever tNext)

def t_come (K : PySem.W.Frag) : TS :=
  (tSeq (tDrop (tCall (sp_need_row K) [] E0 (tCons (tVar 0) tNil)))
  (tSeq (tDrop (tCall (sp_need_many K) [] E0 (tCons (tVar 1) (tCons (tC (.int 1000000000000000)) tNil))))
  (tRet (tCall (sp_all_come K) [] E0 (tCons (tVar 0) (tCons (tVar 1) tNil))))))

def t_least_for (K : PySem.W.Frag) : TS :=
  (tSeq (tDrop (tCall (sp_need_row K) [] E0 (tCons (tVar 0) tNil)))
  (tSeq (tDrop (tCall (sp_need_many K) [] E0 (tCons (tVar 1) (tCons (tC (.int 1000000000000000)) tNil))))
  (tRet (tCall (sp_fewest_signs K) [] E0 (tCons (tVar 0) (tCons (tVar 1) tNil))))))

section
variable (K : PySem.W.Frag)
theorem sem_passed : ∀ vs H Q E, sp_passed K vs H Q E → t_passed K { nx := fun _ H' => Q .non H', rt := Q } (start ["one", "many", "kind", "every", "counted", "some"] vs) H := by
  rintro vs H Q E ⟨x, f, n, rfl, hd, hf, q⟩
  show t_passed K _ [some x, some (.int (n : Nat)), none, none, none, none] H
  unfold t_passed
  obtain ⟨a, rfl, hs⟩ := folk_inv hd
  cases f with
  | hears u v =>
    have hs' : SqT K H a [.str "hears", .str (sg u), .str (sg v)] := hs
    walk_at "w"
    refine w_dT rfl ?_
    walk_at "w"
    exact q
  | ctr tw e c =>
    have hs' : SqT K H a [.str (kindOf tw), .int (e : Nat), .int (c : Nat)] := hs
    obtain ⟨h2, h6, hc⟩ := hf
    walk_at "w"
    refine w_dF (kind_nh tw) ?_
    walk_at "w"
    have e1 : ((n : Int) + (c : Int)) / (e : Int) = (((n + c) / e : Nat) : Int) := rfl
    rw [e1]
    have hle := div_le_self' (n := n) h2 hc
    cases tw with
    | false =>
      refine w_dT kind_d ?_
      walk_at "w"
      have q' : Q (.int ((n - (n + c) / e : Nat) : Int)) H := q
      rw [Int.ofNat_sub hle] at q'
      exact q'
    | true =>
      refine w_dF kind_nd ?_
      walk_at "w"
      exact q
theorem sem_wanted : ∀ vs H Q E, sp_wanted K vs H Q E → t_wanted K { nx := fun _ H' => Q .non H', rt := Q } (start ["one", "many", "kind", "every", "counted", "among"] vs) H := by
  rintro vs H Q E ⟨x, f, n, rfl, hd, hf, q⟩
  show t_wanted K _ [some x, some (.int (n : Nat)), none, none, none, none] H
  unfold t_wanted
  obtain ⟨a, rfl, hs⟩ := folk_inv hd
  cases f with
  | hears u v =>
    have hs' : SqT K H a [.str "hears", .str (sg u), .str (sg v)] := hs
    walk_at "w"
    refine w_dT rfl ?_
    walk_at "w"
    exact q
  | ctr tw e c =>
    have hs' : SqT K H a [.str (kindOf tw), .int (e : Nat), .int (c : Nat)] := hs
    obtain ⟨h2, h6, hc⟩ := hf
    walk_at "w"
    refine w_dF (kind_nh tw) ?_
    walk_at "w"
    by_cases h0 : n = 0
    · subst h0
      refine w_dT rfl ?_
      walk_at "w"
      exact q
    · refine w_dF (by omega) ?_
      walk_at "w"
      cases tw with
      | false =>
        refine w_dT kind_d ?_
        walk_at "w"
        have ew : wanted (.ctr false e c) n = (n + c) + (n + c - 1) / (e - 1) - c := by
          show (if n = 0 then 0 else (n + c) + (n + c - 1) / (e - 1) - c) = _
          rw [if_neg h0]
        rw [ew] at q
        have e1 : ((n : Int) + (c : Int) - 1) / ((e : Int) - 1) = (((n + c - 1) / (e - 1) : Nat) : Int) := by
          rw [show ((n : Int) + (c : Int) - 1) = ((n + c - 1 : Nat) : Int) by omega, show ((e : Int) - 1) = ((e - 1 : Nat) : Int) by omega]
          rfl
        have e2 : (n : Int) + (c : Int) + ((n : Int) + (c : Int) - 1) / ((e : Int) - 1) - (c : Int) = ((n + c + (n + c - 1) / (e - 1) - c : Nat) : Int) := by
          rw [e1]
          generalize (n + c - 1) / (e - 1) = k
          omega
        rw [← e2] at q
        exact q
      | true =>
        refine w_dF kind_nd ?_
        walk_at "w"
        have ew : wanted (.ctr true e c) n = (n + c) - (n + c) / (e + 1) - c := by
          show (if n = 0 then 0 else (n + c) - (n + c) / (e + 1) - c) = _
          rw [if_neg h0]
        rw [ew] at q
        have e1 : ((n : Int) + (c : Int)) / ((e : Int) + 1) = (((n + c) / (e + 1) : Nat) : Int) := rfl
        have hle : (n + c) / (e + 1) ≤ n := by
          have := div_le_self' (n := n) (c := c) (e := e + 1) (by omega) (by omega)
          exact this
        have e2 : (n : Int) + (c : Int) - ((n : Int) + (c : Int)) / ((e : Int) + 1) - (c : Int) = ((n + c - (n + c) / (e + 1) - c : Nat) : Int) := by
          rw [e1]
          generalize (n + c) / (e + 1) = k at hle
          omega
        rw [← e2] at q
        exact q
theorem allCome_take : ∀ (r : Row) (i : Nat) (f : Folk) (n : Nat), r[i]? = some f → allCome (r.take (i + 1)) n = passed f (allCome (r.take i) n)
  | [], _, _, _, h => by simp at h
  | g :: r, 0, f, n, h => by
    cases (Option.some.inj h : g = f)
    rfl
  | g :: r, i + 1, f, n, h => allCome_take r i f (passed g n) h
theorem sem_all_come : ∀ vs H Q E, sp_all_come K vs H Q E → t_all_come K { nx := fun _ H' => Q .non H', rt := Q } (start ["row", "many", "one"] vs) H := by
  rintro vs H Q E ⟨x, r, n, rfl, hd, hr, q⟩
  show t_all_come K _ [some x, some (.int (n : Nat)), none] H
  unfold t_all_come
  obtain ⟨a, xs, rfl, hs, ha⟩ := dp_tup hd
  walk_at "w"
  have hl : xs.length = r.length := by rw [ha.len, List.length_map]
  refine for_tup (xs := xs) (fun i σ H1 => ∃ y, σ = [some (.ref a), some (.int (allCome (r.take i) n : Nat)), y] ∧ H1 = H) ⟨none, rfl, rfl⟩ (fun i σ H1 _ p => by obtain ⟨y, _, rfl⟩ := p; exact hs) ?_ ?_
  · rintro i x σ H1 hx ⟨y, rfl, rfl⟩
    obtain ⟨d, hd', dd⟩ := ha.get hx
    obtain ⟨f, hf, rfl⟩ : ∃ f, r[i]? = some f ∧ folkD f = d := by
      rw [List.getElem?_map] at hd'
      cases e : r[i]? with
      | none => rw [e] at hd'; cases hd'
      | some f => rw [e] at hd'; cases hd'; exact ⟨f, rfl, rfl⟩
    walk_at "w"
    refine ⟨x, f, _, rfl, dd, hr f (List.mem_of_getElem? hf), ?_⟩
    walk_at "w"
    exact ⟨_, by rw [allCome_take r i f n hf], rfl⟩
  · rintro σ H1 ⟨y, rfl, rfl⟩
    walk_at "w"
    rw [hl, List.take_length]
    exact q
theorem fewest_rev : ∀ (r : Row) (i : Nat) (f : Folk) (n : Nat), r[r.length - 1 - i]? = some f → i < r.length → fewest (r.drop (r.length - (i + 1))) n = wanted f (fewest (r.drop (r.length - i)) n) := by
  intro r i f n h hi
  have e : r.length - (i + 1) = r.length - 1 - i := by omega
  have hlt : r.length - 1 - i < r.length := by omega
  have ef : r[r.length - 1 - i] = f := by rw [List.getElem?_eq_getElem hlt] at h; exact Option.some.inj h
  rw [e, List.drop_eq_getElem_cons hlt, show r.length - 1 - i + 1 = r.length - i by omega, ef]
  rfl
theorem sem_fewest_signs : ∀ vs H Q E, sp_fewest_signs K vs H Q E → t_fewest_signs K { nx := fun _ H' => Q .non H', rt := Q } (start ["row", "many", "one"] vs) H := by
  rintro vs H Q E ⟨x, r, n, rfl, hd, hr, q⟩
  show t_fewest_signs K _ [some x, some (.int (n : Nat)), none] H
  unfold t_fewest_signs
  obtain ⟨a, xs, rfl, hs, ha⟩ := dp_tup hd
  walk_at "w"
  refine ⟨.ref a, rfl, a, xs, rfl, hs, fun p np => ?_⟩
  have hl : xs.length = r.length := by rw [ha.len, List.length_map]
  walk_at "w"
  refine for_tup (xs := xs.reverse) (fun i σ H1 => ∃ y, σ = [some (.ref a), some (.int (fewest (r.drop (r.length - i)) n : Nat)), y] ∧ H1 = upd H p (.tup xs.reverse)) ⟨none, by rw [Nat.sub_zero, List.drop_length]; rfl, rfl⟩ (fun i σ H1 _ z => by obtain ⟨y, _, rfl⟩ := z; exact sqT_new) ?_ ?_
  · rintro i x σ H1 hx ⟨y, rfl, rfl⟩
    have hi : i < r.length := by
      have := (List.getElem?_eq_some_iff.mp hx).1
      rw [List.length_reverse] at this
      omega
    rw [List.getElem?_reverse (by omega)] at hx
    rw [hl] at hx
    obtain ⟨d, hd', dd⟩ := ha.get hx
    obtain ⟨f, hf, rfl⟩ : ∃ f, r[r.length - 1 - i]? = some f ∧ folkD f = d := by
      rw [List.getElem?_map] at hd'
      cases e : r[r.length - 1 - i]? with
      | none => rw [e] at hd'; cases hd'
      | some f => rw [e] at hd'; cases hd'; exact ⟨f, rfl, rfl⟩
    walk_at "w"
    refine ⟨x, f, _, rfl, (same_new np).dat dd, hr f (List.mem_of_getElem? hf), ?_⟩
    walk_at "w"
    exact ⟨_, by rw [fewest_rev r i f n hf hi], rfl⟩
  · rintro σ H1 ⟨y, rfl, rfl⟩
    walk_at "w"
    rw [List.length_reverse, hl, Nat.sub_self, List.drop_zero]
    exact q _ (same_new np)
theorem sem_need_many : ∀ vs H Q E, sp_need_many K vs H Q E → t_need_many K { nx := fun _ H' => Q .non H', rt := Q } (start ["many", "most"] vs) H := by
  rintro vs H Q E ⟨n, m, rfl, h0, h1, q⟩
  show t_need_many K _ [some (.int n), some (.int m)] H
  unfold t_need_many
  walk_at "w"
  refine ⟨.int n, 0, m, .int n, rfl, .int n, ?_⟩
  walk_at "w"
  rw [show isWithinD (.int n) 0 m = (decide (0 ≤ n) && decide (n ≤ m)) from rfl, decide_eq_true h0, decide_eq_true h1]
  refine iteF ?_
  walk_at "w"
  exact q
theorem sem_come : ∀ vs H Q E, sp_come K vs H Q E → t_come K { nx := fun _ H' => Q .non H', rt := Q } (start ["row", "many"] vs) H := by
  rintro vs H Q E ⟨x, r, n, rfl, hd, hr, hn, q⟩
  show t_come K _ [some x, some (.int (n : Nat))] H
  unfold t_come
  walk_at "w"
  refine ⟨x, rowD r, rfl, hd, fit_row r, isRow_of hr, fun H1 s1 => ?_⟩
  walk_at "w"
  refine ⟨n, 1000000000000000, rfl, by omega, by omega, ?_⟩
  walk_at "w"
  exact ⟨x, r, n, rfl, s1.dat hd, rok_of hr, q H1 s1⟩
theorem sem_least_for : ∀ vs H Q E, sp_least_for K vs H Q E → t_least_for K { nx := fun _ H' => Q .non H', rt := Q } (start ["row", "many"] vs) H := by
  rintro vs H Q E ⟨x, r, n, rfl, hd, hr, hn, q⟩
  show t_least_for K _ [some x, some (.int (n : Nat))] H
  unfold t_least_for
  walk_at "w"
  refine ⟨x, rowD r, rfl, hd, fit_row r, isRow_of hr, fun H1 s1 => ?_⟩
  walk_at "w"
  refine ⟨n, 1000000000000000, rfl, by omega, by omega, ?_⟩
  walk_at "w"
  exact ⟨x, r, n, rfl, s1.dat hd, rok_of hr, fun H2 s2 => q H2 (s1.trans s2)⟩
end
end HH

namespace HH
open PySem PySem.Spec L2
local macro_rules | `(tactic| walk_at "cy") => `(tactic| first
  | assumption
  | exact L2.upd_same
  | exact L2.sqL_new
  | exact L2.sqT_new
  | exact L2.sqL_at (by assumption)
  | exact L2.sqT_at (by assumption)
  | (refine' L2.Same.seq (by assumption) ?k0; (case k0 => walk_at "cy"))
  | (refine' L2.Same.sqT (by assumption) ?k0; (case k0 => walk_at "cy"))
  | (refine' L2.Same.dat (by assumption) ?k0; (case k0 => walk_at "cy"))
  | (refine' (by assumption : L2.Same _ _) _ _ ?k0; (case k0 => walk_at "cy"))
  | (refine' L2.Same.seq (L2.same_new (by assumption)) ?k0; (case k0 => walk_at "cy"))
  | (refine' L2.Same.sqT (L2.same_new (by assumption)) ?k0; (case k0 => walk_at "cy"))
  | (refine' L2.Same.dat (L2.same_new (by assumption)) ?k0; (case k0 => walk_at "cy"))
  | (refine' L2.same_new (by assumption) _ _ ?k0; (case k0 => walk_at "cy"))
  | (refine' L2.Mv.sqT (by assumption) ?k0; (case k0 => walk_at "cy")))
local macro_rules | `(tactic| walk_at "w") => `(tactic| repeat (first
  | refine HH.stp ?_
  | with_reducible refine L2.iteT ?_
  | with_reducible refine L2.iteF ?_
  | ((with_reducible refine' HH.w_gtup ?k1 ?k2 ?_); (case k1 => walk_at "cy"); (case k2 => exact rfl))
  | ((with_reducible refine' HH.w_ixT ?k1 ?k2 ?_); (case k1 => walk_at "cy"); (case k2 => exact rfl))
  | ((with_reducible refine' HH.w_ixL ?k1 ?k2 ?_); (case k1 => walk_at "cy"); (case k2 => exact rfl))
  | ((with_reducible refine' HH.w_lenL ?k1 ?_); (case k1 => walk_at "cy"))
  | ((with_reducible refine' HH.w_lenT ?k1 ?_); (case k1 => walk_at "cy"))
  | ((with_reducible refine' HH.w_exT ?k1 ?_); (case k1 => walk_at "cy"))
  | ((with_reducible refine' HH.w_exL ?k1 ?_); (case k1 => walk_at "cy"))
  | ((with_reducible refine' HH.w_tyL ?k1 ?_); (case k1 => walk_at "cy"))
  | ((with_reducible refine' HH.w_setL ?k1 ?k2 ?_); (case k1 => walk_at "cy"); (case k2 => exact rfl))
  | ((with_reducible refine' HH.w_modI ?k1 ?_); (case k1 => first | (with_reducible assumption) | omega))
  | ((with_reducible refine' HH.w_divI ?k1 ?_); (case k1 => (constructor <;> omega)))))
local macro_rules | `(tactic| walk_at "v") => `(tactic| ((repeat ((fail_if_success (with_reducible refine HH.isIf ?_)); first
  | refine HH.stp ?_
  | with_reducible refine L2.iteT ?_
  | with_reducible refine L2.iteF ?_
  | ((with_reducible refine' HH.w_gtup ?k1 ?k2 ?_); (case k1 => walk_at "cy"); (case k2 => exact rfl))
  | ((with_reducible refine' HH.w_ixT ?k1 ?k2 ?_); (case k1 => walk_at "cy"); (case k2 => exact rfl))
  | ((with_reducible refine' HH.w_ixL ?k1 ?k2 ?_); (case k1 => walk_at "cy"); (case k2 => exact rfl))
  | ((with_reducible refine' HH.w_lenL ?k1 ?_); (case k1 => walk_at "cy"))
  | ((with_reducible refine' HH.w_lenT ?k1 ?_); (case k1 => walk_at "cy"))
  | ((with_reducible refine' HH.w_exT ?k1 ?_); (case k1 => walk_at "cy"))
  | ((with_reducible refine' HH.w_exL ?k1 ?_); (case k1 => walk_at "cy"))
  | ((with_reducible refine' HH.w_tyL ?k1 ?_); (case k1 => walk_at "cy"))
  | ((with_reducible refine' HH.w_setL ?k1 ?k2 ?_); (case k1 => walk_at "cy"); (case k2 => exact rfl))
  | ((with_reducible refine' HH.w_modI ?k1 ?_); (case k1 => first | (with_reducible assumption) | omega))
  | ((with_reducible refine' HH.w_divI ?k1 ?_); (case k1 => (constructor <;> omega)))))); (try (with_reducible refine HH.isIf ?_)))
/-! ### from mouth to mouth: the law's own reading -/
abbrev vI (cs : List Nat) : List V := cs.map fun c => V.int (c : Nat)
abbrev vS (cs : List Nat) : List V := cs.map fun c => V.str (sg c)
def tx (cs : List Nat) : Str := ⟨cs.toArray⟩
theorem tl_tx (cs : List Nat) : TL.tl (tx cs) = cs := rfl
theorem tx_len (cs : List Nat) : (tx cs).length = cs.length := rfl
theorem tl_inj {a b : Str} (h : TL.tl a = TL.tl b) : a = b := by
  obtain ⟨⟨a⟩⟩ := a
  obtain ⟨⟨b⟩⟩ := b
  cases (h : a = b)
  rfl
theorem joinL_nil : ∀ l : List (List Nat), TL.joinL [] l = l.flatten
  | [] => rfl
  | [p] => (List.append_nil p).symm
  | p :: q :: r => by
    show p ++ ([] ++ TL.joinL [] (q :: r)) = _
    rw [joinL_nil (q :: r)]
    rfl
theorem join_strs (ys : List Str) : Txt.join (Str.ofString "") ys = tx (ys.map TL.tl).flatten := by
  apply tl_inj
  rw [TL.join_eq, TL.tl_join, show TL.tl (Str.ofString "") = [] from by decide +kernel, joinL_nil]
  rfl
theorem flat_sg : ∀ cs : List Nat, ((cs.map sg).map TL.tl).flatten = cs
  | [] => rfl
  | c :: cs => by
    show [c] ++ ((cs.map sg).map TL.tl).flatten = _
    rw [flat_sg cs]
    rfl
theorem sum_ones : ∀ cs : List Nat, ((cs.map sg).map (·.length)).sum = cs.length
  | [] => rfl
  | c :: cs => by
    show 1 + ((cs.map sg).map (·.length)).sum = cs.length + 1
    rw [sum_ones cs, Nat.add_comm]
theorem runOne_len (f : Folk) : ∀ (n : Nat) (ss : List Nat), (runOne f n ss).1.length ≤ 2 * ss.length
  | _, [] => Nat.le_refl _
  | n, s :: ss => by
    have ih := runOne_len f (stepOne f n s).2 ss
    have h1 : (stepOne f n s).1.length ≤ 2 := by
      cases f with
      | hears a b => show 1 ≤ 2; decide
      | ctr tw e c =>
        show (if (n + 1) % e = 0 then (if tw then [s, s] else []) else [s]).length ≤ 2
        split
        · cases tw
          · show 0 ≤ 2; decide
          · show 2 ≤ 2; decide
        · show 1 ≤ 2; decide
    show ((stepOne f n s).1 ++ (runOne f (stepOne f n s).2 ss).1).length ≤ 2 * (ss.length + 1)
    rw [List.length_append]
    omega
theorem runOne_snoc (f : Folk) (n : Nat) (a : List Nat) (s : Nat) : runOne f n (a ++ [s]) = ((runOne f n a).1 ++ (stepOne f (runOne f n a).2 s).1, (stepOne f (runOne f n a).2 s).2) := by
  rw [runOne_app]
  show ((runOne f n a).1 ++ ((stepOne f (runOne f n a).2 s).1 ++ []), _) = _
  rw [List.append_nil]
  rfl
theorem told_snoc : ∀ (r : Row) (cs : List Nat) (f : Folk) (c : Nat) (ss : List Nat), cs.length = r.length → told (r ++ [f]) (cs ++ [c]) ss = ((runOne f c (told r cs ss).1).1, (told r cs ss).2 ++ [(runOne f c (told r cs ss).1).2])
  | [], [], _, _, _, _ => rfl
  | g :: r, d :: cs, f, c, ss, h => by
    have ih := told_snoc r cs f c (runOne g d ss).1 (Nat.succ.inj h)
    show ((told (r ++ [f]) (cs ++ [c]) (runOne g d ss).1).1, (runOne g d ss).2 :: (told (r ++ [f]) (cs ++ [c]) (runOne g d ss).1).2) = _
    rw [ih]
    rfl
  | [], _ :: _, _, _, _, h => by cases h
  | _ :: _, [], _, _, _, h => by cases h
theorem told_len2 : ∀ (r : Row) (cs ss : List Nat), (told r cs ss).1.length ≤ 2 ^ r.length * ss.length
  | [], _, ss => by show ss.length ≤ 1 * ss.length; omega
  | _ :: r, [], ss => by
    show ss.length ≤ 2 ^ (r.length + 1) * ss.length
    exact Nat.le_mul_of_pos_left _ (Nat.two_pow_pos _)
  | f :: r, c :: cs, ss => by
    have ih := told_len2 r cs (runOne f c ss).1
    have h := runOne_len f c ss
    show (told r cs (runOne f c ss).1).1.length ≤ 2 ^ (r.length + 1) * ss.length
    have : 2 ^ r.length * (runOne f c ss).1.length ≤ 2 ^ r.length * (2 * ss.length) := Nat.mul_le_mul_left _ h
    rw [Nat.pow_succ, Nat.mul_assoc]
    omega
theorem at_mid {cs1 rest : List Nat} {n i : Nat} (h : cs1.length = i) : atI (vI (cs1 ++ n :: rest)) (i : Int) = some (.int (n : Nat)) := by
  refine at_of rfl ?_
  rw [List.getElem?_map, List.getElem?_append_right (by omega), h, Nat.sub_self]
  rfl
theorem ixN_nat {n i : Nat} (h : i < n) : ixN n (i : Int) = some i := by
  unfold ixN
  rw [if_pos (by omega), if_pos (by omega)]
  rfl
theorem set_mid {cs1 rest : List Nat} {n m i : Nat} (h : cs1.length = i) : (vI (cs1 ++ n :: rest)).set i (.int (m : Nat)) = vI (cs1 ++ m :: rest) := by
  unfold vI
  rw [List.map_append, List.map_append, List.set_append_right _ _ (by rw [List.length_map]; omega), List.length_map, h, Nat.sub_self]
  rfl
theorem w_rep {H : Hp} {l : Addr} {k : Int} {xs : List V} {Q : VK} (h : H l = some (.lst xs)) (h1 : -(2 ^ 63) ≤ k) (h2 : k < 2 ^ 63) (z : xs.length * k.toNat ≤ sizeLine) (q : ∀ p, H p = none → Q (.ref p) (upd H p (.lst (List.replicate k.toNat xs).flatten))) : rRep (.ref l) (.int k) H Q :=
  ⟨l, k, xs, rfl, rfl, h, h1, h2, z, q⟩
section
variable (K : PySem.W.Frag)
def sp_l_begun : Sp := fun vs H Q _ => ∃ (x : V) (r : Row), vs = [x] ∧ Dp K H x (rowD r) ∧ r.length ≤ 1000 ∧ ∀ (H' : Hp) (p : Addr), Same H H' → H p = none → H' p = some (.lst (vI (begun r))) → Q (.ref p) H'
def sp_l_told_on : Sp := fun vs H Q _ => ∃ (x : V) (r : Row) (cl : Addr) (cs : List Nat) (s : Nat), vs = [x, .ref cl, .str (sg s)] ∧ Dp K H x (rowD r) ∧ rok r ∧ r.length ≤ 6 ∧ cs.length = r.length ∧ H cl = some (.lst (vI cs)) ∧
  ∀ H', Mv cl H H' → H' cl = some (.lst (vI (told r cs [s]).2)) → Q (.str (tx (told r cs [s]).1)) H'
theorem len_l_begun : ∀ vs H Q E, sp_l_begun K vs H Q E → vs.length = 1 := by rintro _ _ _ _ ⟨_, _, rfl, _⟩; rfl
theorem len_l_told_on : ∀ vs H Q E, sp_l_told_on K vs H Q E → vs.length = 3 := by rintro _ _ _ _ ⟨_, _, _, _, _, rfl, _⟩; rfl
theorem row_get {H : Hp} {xs : List V} {r : Row} {i : Nat} {x : V} (ha : DpAll K H xs (r.map folkD)) (hx : xs[i]? = some x) : ∃ f, r[i]? = some f ∧ Dp K H x (folkD f) := by
  obtain ⟨d, hd', dd⟩ := ha.get hx
  rw [List.getElem?_map] at hd'
  cases e : r[i]? with
  | none => rw [e] at hd'; cases hd'
  | some f => rw [e] at hd'; cases hd'; exact ⟨f, rfl, dd⟩
end
def t_l_begun (K : PySem.W.Frag) : TS :=
  (tRet (tLc (iTup K (tVar 0)) (gName 1) tYes (tIf (tTest (tOp rEq (tOp (rIxT K) (tVar 1) (tC (.int 0))) (tC (.str "hears")))) (tC (.int 0)) (tOp (rIxT K) (tVar 1) (tC (.int 2)))) [1]))

def t_l_told_on (K : PySem.W.Frag) : TS :=
  (tSeq (tAsg (tLst (tCons (tVar 2) tNil)) (gName 3))
  (tSeq (tFor (iEnumT K (tCons (tVar 0) tNil)) (gTup K 2 (gCons (gName 4) (gCons (gTup K 3 (gCons (gName 5) (gCons (gName 6) (gCons (gName 7) gNil)))) gNil)))
  (tSeq (tAsg (tLst tNil) (gName 8))
  (tSeq (tFor (iList K (tVar 3)) (gName 9)
  (tIfS (tTest (tOp rEq (tVar 5) (tC (.str "hears")))) (tDrop (tBM K "list" rAppend (tVar 8) (tCons (tIf (tTest (tOp rEq (tVar 9) (tVar 6))) (tVar 7) (tVar 9)) tNil))) (tSeq (tAsg (tOp rModI (tOp rAddI (tOp (rIxL K) (tVar 1) (tVar 4)) (tC (.int 1))) (tVar 6)) (gSub (tVar 1) (tVar 4) rSetL))
  (tSeq (tAsg (tC (.int 1)) (gName 10))
  (tSeq (tIfS (tTest (tOp rEq (tOp (rIxL K) (tVar 1) (tVar 4)) (tC (.int 0)))) (tAsg (tIf (tTest (tOp rEq (tVar 5) (tC (.str "drop")))) (tC (.int 0)) (tC (.int 2))) (gName 10)) tNext)
  (tAsg (tOp rCat (tVar 8) (tOp rRep (tLst (tCons (tVar 9) tNil)) (tVar 10))) (gName 8)))))))
  (tAsg (tVar 8) (gName 3)))))
  (tRet (tM1 (rJoin K) (tC (.str "")) (tVar 3)))))

section
variable (K : PySem.W.Frag)
theorem sem_l_begun : ∀ vs H Q E, sp_l_begun K vs H Q E → t_l_begun K { nx := fun _ H' => Q .non H', rt := Q } (start ["house", "one"] vs) H := by
  rintro vs H Q E ⟨x, r, rfl, hd, hl, q⟩
  show t_l_begun K _ [some x, none] H
  unfold t_l_begun
  obtain ⟨a, xs, rfl, hs, ha⟩ := dp_tup hd
  walk_at "w"
  intro D nD
  have hlx : xs.length = r.length := by rw [ha.len, List.length_map]
  refine lc_same (walk_tup (K := K) (a := a) (xs := xs)) nD [some (.ref a), none] rfl (fun i => vI (begun (r.take i))) rfl (fun H1 s => s.sqT hs) (fun i x H1 H1' hi p y => ?_) (fun H1 s hD => ?_)
  · obtain ⟨rfl, hx⟩ := y
    obtain ⟨f, hf, dd⟩ := row_get K ha hx
    obtain ⟨b, rfl, hb⟩ := folk_inv (p.1.dat dd)
    walk_at "w"
    refine ⟨rfl, ?_⟩
    walk_at "w"
    have hz : (vI (begun (r.take i))).length < sizeLine := szLt _ (by rw [List.length_map]; unfold begun; rw [List.length_map, List.length_take]; omega)
    have he : vI (begun (r.take (i + 1))) = vI (begun (r.take i)) ++ [V.int (f.begun : Nat)] := by
      unfold begun vI
      rw [List.take_add_one, hf, List.map_append, List.map_append]
      rfl
    cases f with
    | hears u v =>
      have hb' : SqT K H1' b [.str "hears", .str (sg u), .str (sg v)] := hb
      walk_at "w"
      refine w_dT rfl ?_
      walk_at "w"
      exact lc_put nD p (Same.refl _) hz he
    | ctr tw e c =>
      have hb' : SqT K H1' b [.str (kindOf tw), .int (e : Nat), .int (c : Nat)] := hb
      walk_at "w"
      refine w_dF (kind_nh tw) ?_
      walk_at "w"
      exact lc_put nD p (Same.refl _) hz he
  · rw [hlx, List.take_length] at hD
    exact q H1 D s nD hD
theorem mv_mut {H H1 : Hp} {cl lt : Addr} {o : HO} (m : Mv cl H H1) (n : H lt = none) (ne : cl ≠ lt) : Mv cl H (upd H1 lt o) := by
  obtain ⟨xs, h⟩ := m.l1
  exact ⟨fun a u na e => by rw [upd_ne (ne_of_none e n)]; exact m.but a u na e, m.l0, xs, by rw [upd_ne ne]; exact h⟩
theorem flat_one {α : Type} {x : α} : ∀ m : Nat, (List.replicate m [x]).flatten = List.replicate m x
  | 0 => rfl
  | m + 1 => by
    show [x] ++ (List.replicate m [x]).flatten = x :: List.replicate m x
    rw [flat_one m]
    rfl
theorem sem_l_told_on : ∀ vs H Q E, sp_l_told_on K vs H Q E → t_l_told_on K { nx := fun _ H' => Q .non H', rt := Q } (start ["house", "counts", "sign", "signs", "place", "kind", "one", "other", "later", "letter", "copies"] vs) H := by
  rintro vs H Q E ⟨x, r, cl, cs, s, rfl, hd, hr, hr6, hcs, hcl, q⟩
  show t_l_told_on K _ [some x, some (.ref cl), some (.str (sg s)), none, none, none, none, none, none, none, none] H
  unfold t_l_told_on
  obtain ⟨a, xs, rfl, hs, ha⟩ := dp_tup hd
  walk_at "w"
  refine ⟨szOk 1, fun sl0 nsl0 => ?_⟩
  walk_at "w"
  have hlx : xs.length = r.length := by rw [ha.len, List.length_map]
  refine ⟨a, xs, rfl, (same_new nsl0).sqT hs, ?_⟩
  refine for_it (walk_enumT (K := K) (a := a) (xs := xs)) (fun i σ H1 => ∃ (y4 y5 y6 y7 y8 y9 y10 : Option V) (sl : Addr), σ = [some (.ref a), some (.ref cl), some (.str (sg s)), some (.ref sl), y4, y5, y6, y7, y8, y9, y10] ∧
      Mv cl H H1 ∧ H sl = none ∧ H1 sl = some (.lst (vS (told (r.take i) (cs.take i) [s]).1)) ∧ H1 cl = some (.lst (vI ((told (r.take i) (cs.take i) [s]).2 ++ cs.drop i)))) ?_ ?_ ?_ ?_
  · exact ⟨none, none, none, none, none, none, none, sl0, rfl, .of_same (same_new nsl0) hcl, nsl0, upd_same, (same_new nsl0) _ _ hcl⟩
  · rintro i σ H1 hi ⟨y4, y5, y6, y7, y8, y9, y10, sl, rfl, mv, nsl, hsl, hcl1⟩
    exact mv.sqT hs
  · rintro i v σ H1 H1' hi ⟨y4, y5, y6, y7, y8, y9, y10, sl, rfl, mv, nsl, hsl, hcl1⟩ ⟨T, x1, x2, rfl, nT, rfl, hx1, hx2⟩
    cases hx1
    obtain ⟨f, hf, dd⟩ := row_get K ha hx2
    have hir : i < r.length := by omega
    have dd1 := mv.tp.dp _ _ (noL_folk f) dd
    obtain ⟨b, rfl, hb⟩ := folk_inv dd1
    have hbT : SqT K (upd H1 T (.tup [.int (i : Nat), .ref b])) b (folkV f) := (same_new nT).sqT hb
    have hcT : (upd H1 T (.tup [.int (i : Nat), .ref b])) cl = some (.lst (vI ((told (r.take i) (cs.take i) [s]).2 ++ cs.drop i))) := (same_new nT) _ _ hcl1
    have hsT : (upd H1 T (.tup [.int (i : Nat), .ref b])) sl = some (.lst (vS (told (r.take i) (cs.take i) [s]).1)) := (same_new nT) _ _ hsl
    have mvT : Mv cl H (upd H1 T (.tup [.int (i : Nat), .ref b])) := mv.same (same_new nT)
    have htT : SqT K (upd H1 T (.tup [.int (i : Nat), .ref b])) T [.int (i : Nat), .ref b] := sqT_new
    generalize (upd H1 T (.tup [.int (i : Nat), .ref b])) = H2 at hbT hcT hsT mvT htT
    obtain ⟨c, hc⟩ : ∃ c, cs[i]? = some c := ⟨cs[i]'(by omega), List.getElem?_eq_getElem (by omega)⟩
    have hdrop : cs.drop i = c :: cs.drop (i + 1) := by
      rw [List.drop_eq_getElem_cons (by omega)]
      congr 1
      rw [List.getElem?_eq_getElem (by omega)] at hc
      exact Option.some.inj hc
    generalize htd : told (r.take i) (cs.take i) [s] = td at hcT hsT
    obtain ⟨ss, cs1⟩ := td
    have hcs1 : cs1.length = i := by
      have := told_len (r.take i) (cs.take i) [s]
      rw [htd] at this
      have h2 : cs1.length = (cs.take i).length := this
      rw [h2, List.length_take]
      omega
    have hss : ss.length ≤ 64 := by
      have h1 := told_len2 (r.take i) (cs.take i) [s]
      rw [htd] at h1
      have h2 : ss.length ≤ 2 ^ (r.take i).length * 1 := h1
      rw [List.length_take, Nat.min_eq_left (by omega), Nat.mul_one] at h2
      have h3 : 2 ^ i ≤ 2 ^ 6 := Nat.pow_le_pow_right (by decide) (by omega)
      exact Nat.le_trans h2 h3
    have hnext : told (r.take (i + 1)) (cs.take (i + 1)) [s] = ((runOne f c ss).1, cs1 ++ [(runOne f c ss).2]) := by
      rw [List.take_add_one, List.take_add_one, hf, hc]
      have := told_snoc (r.take i) (cs.take i) f c [s] (by rw [List.length_take, List.length_take]; omega)
      rw [htd] at this
      exact this
    rw [show ((ss, cs1) : List Nat × List Nat).2 = cs1 from rfl, hdrop] at hcT
    replace hsT : H2 sl = some (.lst (vS ss)) := hsT
    clear hsl hcl1 mv nT htd
    -- the inner loop, for one of either kind
    have inner : ∀ (y5 y6 y7 : Option V) (w5 w6 w7 : V) (D : Ends) (tb : TS),
        (∀ (j : Nat) (lt : Addr) (acc : List Nat) (n : Nat) (y9 y10 : Option V) (s' : Nat) (H3 : Hp) (D' : Ends), ss[j]? = some s' → runOne f c (ss.take j) = (acc, n) → Mv cl H H3 → H3 sl = some (.lst (vS ss)) → H lt = none → lt ≠ sl → H3 lt = some (.lst (vS acc)) → H3 cl = some (.lst (vI (cs1 ++ n :: cs.drop (i + 1)))) →
          (∀ (lt' : Addr) (y10' : Option V) (H4 : Hp), Mv cl H H4 → H4 sl = some (.lst (vS ss)) → H lt' = none → lt' ≠ sl → H4 lt' = some (.lst (vS (acc ++ (stepOne f n s').1))) → H4 cl = some (.lst (vI (cs1 ++ (stepOne f n s').2 :: cs.drop (i + 1)))) → D'.nx [some (.ref a), some (.ref cl), some (.str (sg s)), some (.ref sl), some (.int (i : Nat)), some w5, some w6, some w7, some (.ref lt'), some (.str (sg s')), y10'] H4) →
          tb D' [some (.ref a), some (.ref cl), some (.str (sg s)), some (.ref sl), some (.int (i : Nat)), some w5, some w6, some w7, some (.ref lt), some (.str (sg s')), y10] H3) →
        (∀ (lt : Addr) (y9 y10 : Option V) (H3 : Hp), Mv cl H H3 → H lt = none → H3 lt = some (.lst (vS (runOne f c ss).1)) → H3 cl = some (.lst (vI (cs1 ++ (runOne f c ss).2 :: cs.drop (i + 1)))) → D.nx [some (.ref a), some (.ref cl), some (.str (sg s)), some (.ref sl), some (.int (i : Nat)), some w5, some w6, some w7, some (.ref lt), y9, y10] H3) →
        ∀ (lt0 : Addr) (nlt : H2 lt0 = none), tFor (iList K (tVar 3)) (gName 9) tb D [some (.ref a), some (.ref cl), some (.str (sg s)), some (.ref sl), some (.int (i : Nat)), some w5, some w6, some w7, some (.ref lt0), y9, y10] (upd H2 lt0 (.lst [])) := by
      intro _ _ _ w5 w6 w7 D tb hturn hdone lt0 nlt
      have hsl0 : (upd H2 lt0 (.lst [])) sl = some (.lst (vS ss)) := (same_new nlt) _ _ hsT
      walk_at "w"
      refine for_list (xs := vS ss) (fun j σ H3 => ∃ (lt : Addr) (y9 y10 : Option V), σ = [some (.ref a), some (.ref cl), some (.str (sg s)), some (.ref sl), some (.int (i : Nat)), some w5, some w6, some w7, some (.ref lt), y9, y10] ∧
        Mv cl H H3 ∧ H3 sl = some (.lst (vS ss)) ∧ H lt = none ∧ lt ≠ sl ∧ H3 lt = some (.lst (vS (runOne f c (ss.take j)).1)) ∧ H3 cl = some (.lst (vI (cs1 ++ (runOne f c (ss.take j)).2 :: cs.drop (i + 1))))) ?_ ?_ ?_ ?_
      · exact ⟨lt0, y9, y10, rfl, mvT.same (same_new nlt), hsl0, mvT.none nlt, (ne_of_none hsT nlt).symm, upd_same, (same_new nlt) _ _ hcT⟩
      · rintro j σ H3 hj ⟨lt, y9, y10, rfl, m3, h3, n3, ne3, l3, c3⟩
        exact sqL_at h3
      · rintro j v σ H3 hv ⟨lt, y9, y10, rfl, m3, h3, n3, ne3, l3, c3⟩
        obtain ⟨s', hs', rfl⟩ : ∃ s', ss[j]? = some s' ∧ V.str (sg s') = v := by
          rw [List.getElem?_map] at hv
          cases e : ss[j]? with
          | none => rw [e] at hv; cases hv
          | some s' => rw [e] at hv; cases hv; exact ⟨s', rfl, rfl⟩
        walk_at "w"
        refine hturn j lt _ _ y9 y10 s' H3 _ hs' rfl m3 h3 n3 ne3 l3 c3 fun lt' y10' H4 m4 h4 n4 ne4 l4 c4 => ?_
        have hn : runOne f c (ss.take (j + 1)) = ((runOne f c (ss.take j)).1 ++ (stepOne f (runOne f c (ss.take j)).2 s').1, (stepOne f (runOne f c (ss.take j)).2 s').2) := by
          rw [List.take_add_one, hs']
          exact runOne_snoc _ _ _ _
        exact ⟨lt', _, y10', rfl, m4, h4, n4, ne4, by rw [hn]; exact l4, by rw [hn]; exact c4⟩
      · rintro σ H3 ⟨lt, y9, y10, rfl, m3, h3, n3, ne3, l3, c3⟩
        rw [show (vS ss).length = ss.length from List.length_map _, List.take_length] at l3 c3
        exact hdone lt y9 y10 H3 m3 n3 l3 c3
    -- what follows the turn
    have fin : ∀ (y4 y5 y6 y7 y9 y10 : Option V) (lt : Addr) (H3 : Hp), Mv cl H H3 → H lt = none → H3 lt = some (.lst (vS (runOne f c ss).1)) → H3 cl = some (.lst (vI (cs1 ++ (runOne f c ss).2 :: cs.drop (i + 1)))) →
        ∃ (y4' y5' y6' y7' y8' y9' y10' : Option V) (sl' : Addr), [some (.ref a), some (.ref cl), some (.str (sg s)), some (.ref lt), y4, y5, y6, y7, some (.ref lt), y9, y10] = [some (.ref a), some (.ref cl), some (.str (sg s)), some (.ref sl'), y4', y5', y6', y7', y8', y9', y10'] ∧
      Mv cl H H3 ∧ H sl' = none ∧ H3 sl' = some (.lst (vS (told (r.take (i + 1)) (cs.take (i + 1)) [s]).1)) ∧ H3 cl = some (.lst (vI ((told (r.take (i + 1)) (cs.take (i + 1)) [s]).2 ++ cs.drop (i + 1)))) := by
      intro y4 y5 y6 y7 y9 y10 lt H3 m3 n3 l3 c3
      refine ⟨y4, y5, y6, y7, _, y9, y10, lt, rfl, m3, n3, ?_, ?_⟩
      · rw [hnext]; exact l3
      · rw [hnext]
        show H3 cl = some (.lst (vI (cs1 ++ [(runOne f c ss).2] ++ cs.drop (i + 1))))
        rw [List.append_assoc]
        exact c3
    cases f with
    | hears u v =>
      have hb' : SqT K H2 b [.str "hears", .str (sg u), .str (sg v)] := hbT
      walk_at "w"
      refine ⟨szOk 0, fun lt0 nlt => ?_⟩
      refine stp ?_
      refine stp ?_
      refine inner none none none _ _ _ _ _ ?_ ?_ lt0 nlt
      · intro j lt acc n y9 y10 s' H3 D' hs' hrun m3 h3 n3 ne3 l3 c3 k
        have hacc : acc.length ≤ 128 := by
          have h1 := runOne_len (.hears u v) c (ss.take j)
          rw [hrun] at h1
          have h2 : acc.length ≤ 2 * (ss.take j).length := h1
          rw [List.length_take] at h2
          omega
        have hz : (vS acc).length < sizeLine := szLt _ (by rw [List.length_map]; omega)
        have necl : cl ≠ lt := ne_of_none hcl n3
        have put : ∀ (t : Nat), (stepOne (.hears u v) n s').1 = [t] → D'.nx [some (.ref a), some (.ref cl), some (.str (sg s)), some (.ref sl), some (.int (i : Nat)), some (.str "hears"), some (.str (sg u)), some (.str (sg v)), some (.ref lt), some (.str (sg s')), y10] (upd H3 lt (.lst (vS acc ++ [.str (sg t)]))) := fun t ht =>
          k lt y10 _ (mv_mut m3 n3 necl) (by rw [upd_ne ne3.symm]; exact h3) n3 ne3 (by rw [upd_same, ht]; unfold vS; rw [List.map_append]; rfl) (by rw [upd_ne necl]; exact c3)
        walk_at "w"
        refine w_dT rfl ?_
        walk_at "w"
        refine w_ifB (fun e => ?_) (fun e => ?_)
        · walk_at "w"
          refine w_append l3 hz ?_
          walk_at "w"
          have e' : s' = u := sg_inj (bT e)
          exact put v (by show [if s' = u then v else s'] = [v]; rw [if_pos e'])
        · walk_at "w"
          refine w_append l3 hz ?_
          walk_at "w"
          have e' : ¬ s' = u := fun h => (bF e) (congrArg sg h)
          exact put s' (by show [if s' = u then v else s'] = [s']; rw [if_neg e'])
      · intro lt y9 y10 H3 m3 n3 l3 c3
        walk_at "w"
        exact fin _ _ _ _ y9 y10 lt H3 m3 n3 l3 c3
    | ctr tw e c0 =>
      have hb' : SqT K H2 b [.str (kindOf tw), .int (e : Nat), .int (c0 : Nat)] := hbT
      have he2 : 2 ≤ e := (hr _ (List.mem_of_getElem? hf) : fok (.ctr tw e c0)).1
      walk_at "w"
      refine ⟨szOk 0, fun lt0 nlt => ?_⟩
      refine stp ?_
      refine stp ?_
      refine inner none none none _ _ _ _ _ ?_ ?_ lt0 nlt
      · intro j lt acc n y9 y10 s' H3 D' hs' hrun m3 h3 n3 ne3 l3 c3 k
        have hacc : acc.length ≤ 128 := by
          have h1 := runOne_len (.ctr tw e c0) c (ss.take j)
          rw [hrun] at h1
          have h2 : acc.length ≤ 2 * (ss.take j).length := h1
          rw [List.length_take] at h2
          omega
        have necl : cl ≠ lt := ne_of_none hcl n3
        have nesl : sl ≠ cl := (ne_of_none hcl nsl).symm
        walk_at "w"
        refine w_dF (kind_nh tw) ?_
        walk_at "w"
        refine w_ixL (sqL_at c3) (at_mid hcs1) ?_
        walk_at "w"
        have hcsz : (vI (cs1 ++ n :: cs.drop (i + 1))).length = r.length := by
          unfold vI
          rw [List.length_map, List.length_append, List.length_cons, List.length_drop, hcs1]
          omega
        refine w_setL c3 (ixN_nat (by rw [hcsz]; omega)) ?_
        have e1 : ((n : Int) + 1) % (e : Int) = (((n + 1) % e : Nat) : Int) := rfl
        rw [e1, set_mid hcs1]
        have hst : stepOne (.ctr tw e c0) n s' = (if (n + 1) % e = 0 then (if tw then [s', s'] else []) else [s'], (n + 1) % e) := rfl
        rw [hst] at k
        generalize hn' : (n + 1) % e = n' at k
        have m4 : Mv cl H (upd H3 cl (.lst (vI (cs1 ++ n' :: cs.drop (i + 1))))) := m3.set
        have h4 : (upd H3 cl (.lst (vI (cs1 ++ n' :: cs.drop (i + 1))))) sl = some (.lst (vS ss)) := by rw [upd_ne nesl]; exact h3
        have l4 : (upd H3 cl (.lst (vI (cs1 ++ n' :: cs.drop (i + 1))))) lt = some (.lst (vS acc)) := by rw [upd_ne necl.symm]; exact l3
        have c4 : (upd H3 cl (.lst (vI (cs1 ++ n' :: cs.drop (i + 1))))) cl = some (.lst (vI (cs1 ++ n' :: cs.drop (i + 1)))) := upd_same
        generalize (upd H3 cl (.lst (vI (cs1 ++ n' :: cs.drop (i + 1))))) = H4 at m4 h4 l4 c4
        have tailk : ∀ (m : Nat), m ≤ 2 → (if n' = 0 then (if tw then [s', s'] else []) else [s']) = List.replicate m s' → tAsg (tOp rCat (tVar 8) (tOp rRep (tLst (tCons (tVar 9) tNil)) (tVar 10))) (gName 8) D'
            [some (.ref a), some (.ref cl), some (.str (sg s)), some (.ref sl), some (.int (i : Nat)), some (.str (kindOf tw)), some (.int (e : Nat)), some (.int (c0 : Nat)), some (.ref lt), some (.str (sg s')), some (.int (m : Nat))] H4 := by
          intro m hm hrep
          walk_at "w"
          refine ⟨szOk 1, fun p1 np1 => ?_⟩
          walk_at "w"
          refine w_rep upd_same (by omega) (by omega) (szOk _ (by show 1 * m ≤ _; omega)) fun p2 np2 => ?_
          have l5 : (upd (upd H4 p1 (.lst [.str (sg s')])) p2 (.lst (List.replicate m [V.str (sg s')]).flatten)) lt = some (.lst (vS acc)) := (same_new np2) _ _ ((same_new np1) _ _ l4)
          refine w_cat l5 upd_same (szOk _ ?_) fun p3 np3 => ?_
          · unfold vS
            rw [List.length_map, List.length_flatten, List.map_replicate, List.sum_replicate_nat]
            show acc.length + m * 1 ≤ _
            omega
          · have sm := ((same_new (o := .lst [V.str (sg s')]) np1).trans (same_new (o := .lst (List.replicate m [V.str (sg s')]).flatten) np2)).trans (same_new (o := .lst (vS acc ++ (List.replicate m [V.str (sg s')]).flatten)) np3)
            walk_at "w"
            refine k p3 _ _ (m4.same sm) (sm _ _ h4) (m4.none ((same_new np1).free ((same_new np2).free np3))) ?_ ?_ (sm _ _ c4)
            · exact (ne_of_none (sm _ _ h4 |> fun _ => ((same_new np2) _ _ ((same_new np1) _ _ h4))) np3).symm
            · show (upd _ p3 _) p3 = _
              rw [upd_same]
              show _ = some (HO.lst (vS (acc ++ (if n' = 0 then (if tw then [s', s'] else []) else [s']))))
              rw [hrep]
              unfold vS
              rw [List.map_append, List.map_replicate]
              congr 3
              exact flat_one m
        walk_at "w"
        refine w_ixL (sqL_at c4) (at_mid hcs1) ?_
        walk_at "w"
        by_cases hz : n' = 0
        · refine w_dT (by omega) ?_
          walk_at "w"
          cases tw with
          | false =>
            refine w_dT kind_d ?_
            refine stp ?_
            refine stp ?_
            exact tailk 0 (by decide) (by rw [if_pos hz]; rfl)
          | true =>
            refine w_dF kind_nd ?_
            refine stp ?_
            refine stp ?_
            exact tailk 2 (by decide) (by rw [if_pos hz]; rfl)
        · refine w_dF (by omega) ?_
          refine stp ?_
          exact tailk 1 (by decide) (by rw [if_neg hz]; rfl)
      · intro lt y9 y10 H3 m3 n3 l3 c3
        walk_at "w"
        exact fin _ _ _ _ y9 y10 lt H3 m3 n3 l3 c3
  · rintro σ H1 ⟨y4, y5, y6, y7, y8, y9, y10, sl, rfl, mv, nsl, hsl, hcl1⟩
    rw [hlx, List.take_length, show r.length = cs.length from hcs.symm, List.take_length, List.drop_length, List.append_nil] at hcl1
    rw [hlx, List.take_length, show r.length = cs.length from hcs.symm, List.take_length] at hsl
    walk_at "w"
    refine w_joinQ ((told r cs [s]).1.map sg) (sqL_at (by rw [hsl, List.map_map]; rfl)) ?_ ?_
    · rw [sum_ones, List.length_map]
      have h1 := told_len2 r cs [s]
      have h3 : 2 ^ r.length ≤ 2 ^ 6 := Nat.pow_le_pow_right (by decide) hr6
      have h4 : [s].length = 1 := rfl
      rw [h4, Nat.mul_one] at h1
      have h5 : (Str.ofString "").length = 0 := by decide +kernel
      rw [h5, Nat.mul_zero]
      omega
    · rw [join_strs, flat_sg]
      exact q H1 mv hcl1
end
end HH

namespace HH
open PySem PySem.Spec L2
local macro_rules | `(tactic| walk_at "cy") => `(tactic| first
  | assumption
  | exact L2.upd_same
  | exact L2.sqL_new
  | exact L2.sqT_new
  | exact L2.sqL_at (by assumption)
  | exact L2.sqT_at (by assumption)
  | (refine' L2.Same.seq (by assumption) ?k0; (case k0 => walk_at "cy"))
  | (refine' L2.Same.sqT (by assumption) ?k0; (case k0 => walk_at "cy"))
  | (refine' L2.Same.dat (by assumption) ?k0; (case k0 => walk_at "cy"))
  | (refine' (by assumption : L2.Same _ _) _ _ ?k0; (case k0 => walk_at "cy"))
  | (refine' L2.Same.seq (L2.same_new (by assumption)) ?k0; (case k0 => walk_at "cy"))
  | (refine' L2.Same.sqT (L2.same_new (by assumption)) ?k0; (case k0 => walk_at "cy"))
  | (refine' L2.Same.dat (L2.same_new (by assumption)) ?k0; (case k0 => walk_at "cy"))
  | (refine' L2.same_new (by assumption) _ _ ?k0; (case k0 => walk_at "cy"))
  | (refine' L2.Mv.sqT (by assumption) ?k0; (case k0 => walk_at "cy")))
local macro_rules | `(tactic| walk_at "w") => `(tactic| repeat (first
  | refine HH.stp ?_
  | with_reducible refine L2.iteT ?_
  | with_reducible refine L2.iteF ?_
  | ((with_reducible refine' HH.w_gtup ?k1 ?k2 ?_); (case k1 => walk_at "cy"); (case k2 => exact rfl))
  | ((with_reducible refine' HH.w_ixT ?k1 ?k2 ?_); (case k1 => walk_at "cy"); (case k2 => exact rfl))
  | ((with_reducible refine' HH.w_ixL ?k1 ?k2 ?_); (case k1 => walk_at "cy"); (case k2 => exact rfl))
  | ((with_reducible refine' HH.w_lenL ?k1 ?_); (case k1 => walk_at "cy"))
  | ((with_reducible refine' HH.w_lenT ?k1 ?_); (case k1 => walk_at "cy"))
  | ((with_reducible refine' HH.w_exT ?k1 ?_); (case k1 => walk_at "cy"))
  | ((with_reducible refine' HH.w_exL ?k1 ?_); (case k1 => walk_at "cy"))
  | ((with_reducible refine' HH.w_tyL ?k1 ?_); (case k1 => walk_at "cy"))
  | ((with_reducible refine' HH.w_setL ?k1 ?k2 ?_); (case k1 => walk_at "cy"); (case k2 => exact rfl))
  | ((with_reducible refine' HH.w_modI ?k1 ?_); (case k1 => first | (with_reducible assumption) | omega))
  | ((with_reducible refine' HH.w_divI ?k1 ?_); (case k1 => (constructor <;> omega)))))
local macro_rules | `(tactic| walk_at "v") => `(tactic| ((repeat ((fail_if_success (with_reducible refine HH.isIf ?_)); first
  | refine HH.stp ?_
  | with_reducible refine L2.iteT ?_
  | with_reducible refine L2.iteF ?_
  | ((with_reducible refine' HH.w_gtup ?k1 ?k2 ?_); (case k1 => walk_at "cy"); (case k2 => exact rfl))
  | ((with_reducible refine' HH.w_ixT ?k1 ?k2 ?_); (case k1 => walk_at "cy"); (case k2 => exact rfl))
  | ((with_reducible refine' HH.w_ixL ?k1 ?k2 ?_); (case k1 => walk_at "cy"); (case k2 => exact rfl))
  | ((with_reducible refine' HH.w_lenL ?k1 ?_); (case k1 => walk_at "cy"))
  | ((with_reducible refine' HH.w_lenT ?k1 ?_); (case k1 => walk_at "cy"))
  | ((with_reducible refine' HH.w_exT ?k1 ?_); (case k1 => walk_at "cy"))
  | ((with_reducible refine' HH.w_exL ?k1 ?_); (case k1 => walk_at "cy"))
  | ((with_reducible refine' HH.w_tyL ?k1 ?_); (case k1 => walk_at "cy"))
  | ((with_reducible refine' HH.w_setL ?k1 ?k2 ?_); (case k1 => walk_at "cy"); (case k2 => exact rfl))
  | ((with_reducible refine' HH.w_modI ?k1 ?_); (case k1 => first | (with_reducible assumption) | omega))
  | ((with_reducible refine' HH.w_divI ?k1 ?_); (case k1 => (constructor <;> omega)))))); (try (with_reducible refine HH.isIf ?_)))
/-! ### rows by slices and sums -/
section
variable {K : PySem.W.Frag} {H : Hp} {Q : VK} {x y : V} {r r2 : Row}
theorem cutV_to (xs : List V) (k : Nat) : cutV xs none (some (k : Int)) = xs.take k := by
  unfold cutV
  rw [HT.sIx_none, HT.sIx_nat, List.drop_zero, Nat.sub_zero]
  rcases Nat.le_total k xs.length with h | h
  · rw [Nat.min_eq_left h]
  · rw [Nat.min_eq_right h, List.take_length, List.take_of_length_le h]
theorem cutV_from (xs : List V) (k : Nat) : cutV xs (some (k : Int)) none = xs.drop k := by
  unfold cutV
  rw [HT.sIx_none, HT.sIx_nat]
  rcases Nat.le_total k xs.length with h | h
  · rw [Nat.min_eq_left h, List.take_of_length_le (by rw [List.length_drop]; exact Nat.le_refl _)]
  · rw [Nat.min_eq_right h, List.drop_length, List.drop_of_length_le h]
    simp
theorem cutV_mid (xs : List V) (i j : Nat) : cutV xs (some (i : Int)) (some (j : Int)) = (xs.take j).drop i := by
  unfold cutV
  rw [HT.sIx_nat, HT.sIx_nat, List.drop_take]
  rcases Nat.le_total j xs.length with h | h
  · rw [Nat.min_eq_left h]
    rcases Nat.le_total i xs.length with h2 | h2
    · rw [Nat.min_eq_left h2]
    · rw [Nat.min_eq_right h2, List.drop_length, List.drop_of_length_le h2]
      simp
  · rw [Nat.min_eq_right h]
    rcases Nat.le_total i xs.length with h2 | h2
    · rw [Nat.min_eq_left h2, List.take_of_length_le (by rw [List.length_drop]; omega), List.take_of_length_le (by rw [List.length_drop]; omega)]
    · rw [Nat.min_eq_right h2, List.drop_length, List.drop_of_length_le h2]
      simp
theorem w_slR_to {k : Nat} (h : Dp K H x (rowD r)) (q : ∀ v H', Same H H' → Dp K H' v (rowD (r.take k)) → Q v H') : rSlA K x none (some (k : Int)) H Q := by
  obtain ⟨a, xs, rfl, hs, ha⟩ := dp_tup h
  have hl : xs.length = r.length := by rw [ha.len, List.length_map]
  refine ⟨a, xs, rfl, hs, fun z => ?_, fun z p np => ?_⟩
  · rw [HT.sIx_nat] at z
    have : r.take k = r := List.take_of_length_le (by omega)
    exact q _ _ (Same.refl H) (by rw [this]; exact h)
  · rw [cutV_to]
    refine q _ _ (same_new np) (.tup sqT_new ((same_new np).dpAll _ _ ?_))
    rw [List.map_take]
    exact ha.take k
theorem w_slR_from {k : Nat} (h : Dp K H x (rowD r)) (q : ∀ v H', Same H H' → Dp K H' v (rowD (r.drop k)) → Q v H') : rSlA K x (some (k : Int)) none H Q := by
  obtain ⟨a, xs, rfl, hs, ha⟩ := dp_tup h
  have hl : xs.length = r.length := by rw [ha.len, List.length_map]
  refine ⟨a, xs, rfl, hs, fun z => ?_, fun z p np => ?_⟩
  · rw [HT.sIx_nat] at z
    by_cases h0 : k = 0
    · subst h0
      exact q _ _ (Same.refl H) h
    · have : r = [] := List.length_eq_zero_iff.mp (by omega)
      subst this
      exact q _ _ (Same.refl H) (by rw [List.drop_nil]; exact h)
  · rw [cutV_from]
    refine q _ _ (same_new np) (.tup sqT_new ((same_new np).dpAll _ _ ?_))
    rw [List.map_drop]
    exact ha.drop k
theorem w_catR (h : Dp K H x (rowD r)) (h2 : Dp K H y (rowD r2)) (hz : r.length + r2.length ≤ 10000) (q : ∀ v H', Same H H' → Dp K H' v (rowD (r ++ r2)) → Q v H') : rCatA K x y H Q := by
  obtain ⟨a, xs, rfl, hs, ha⟩ := dp_tup h
  obtain ⟨b, ys, rfl, hs2, hb⟩ := dp_tup h2
  have hl : xs.length = r.length := by rw [ha.len, List.length_map]
  have hl2 : ys.length = r2.length := by rw [hb.len, List.length_map]
  refine ⟨a, b, xs, ys, rfl, rfl, hs, hs2, szOk _ (by omega), fun z => ?_, fun _ z => ?_, fun _ _ p np => ?_⟩
  · subst z
    have : r = [] := List.length_eq_zero_iff.mp hl.symm
    subst this
    exact q _ _ (Same.refl H) h2
  · subst z
    have : r2 = [] := List.length_eq_zero_iff.mp hl2.symm
    subst this
    exact q _ _ (Same.refl H) (by rw [List.append_nil]; exact h)
  · refine q _ _ (same_new np) (.tup sqT_new ((same_new np).dpAll _ _ ?_))
    rw [List.map_append]
    exact ha.app hb
theorem w_lenR (h : Dp K H x (rowD r)) (q : Q (.int (r.length : Nat)) H) : rLenQ K [x] H Q := by
  obtain ⟨a, xs, rfl, hs, ha⟩ := dp_tup h
  have hl : xs.length = r.length := by rw [ha.len, List.length_map]
  rw [← hl] at q
  exact ⟨a, xs, rfl, .inr hs, q⟩
theorem vI_map (cs : List Nat) : vI cs = (cs.map fun c : Nat => (c : Int)).map V.int := by
  unfold vI
  rw [List.map_map]
  rfl
theorem sum_cast : ∀ cs : List Nat, (cs.map fun c : Nat => (c : Int)).sum = ((cs.sum : Nat) : Int)
  | [] => rfl
  | c :: cs => by
    rw [List.map_cons, List.sum_cons, List.sum_cons, sum_cast cs]
    rfl
theorem w_sum {p : Addr} {cs : List Nat} (h : SqL K H p (vI cs)) (q : Q (.int (cs.sum : Nat)) H) : rSum K [.ref p] H Q := by
  rw [← sum_cast] at q
  rw [vI_map] at h
  exact ⟨p, _, rfl, h, q⟩
theorem w_slI_to {p : Addr} {cs : List Nat} {k : Nat} (h : SqL K H p (vI cs)) (q : ∀ o, H o = none → Q (.ref o) (upd H o (.lst (vI (cs.take k))))) : rSlL K (.ref p) none (some (k : Int)) H Q := by
  refine ⟨p, _, rfl, h, fun o no => ?_⟩
  rw [cutV_to]
  have := q o no
  unfold vI at this ⊢
  rw [List.map_take] at this
  exact this
theorem w_slI_from {p : Addr} {cs : List Nat} {k : Nat} (h : SqL K H p (vI cs)) (q : ∀ o, H o = none → Q (.ref o) (upd H o (.lst (vI (cs.drop k))))) : rSlL K (.ref p) (some (k : Int)) none H Q := by
  refine ⟨p, _, rfl, h, fun o no => ?_⟩
  rw [cutV_from]
  have := q o no
  unfold vI at this ⊢
  rw [List.map_drop] at this
  exact this
theorem w_slI_mid {p : Addr} {cs : List Nat} {i j : Nat} (h : SqL K H p (vI cs)) (q : ∀ o, H o = none → Q (.ref o) (upd H o (.lst (vI ((cs.take j).drop i))))) : rSlL K (.ref p) (some (i : Int)) (some (j : Int)) H Q := by
  refine ⟨p, _, rfl, h, fun o no => ?_⟩
  rw [cutV_mid]
  have := q o no
  unfold vI at this ⊢
  rw [List.map_drop, List.map_take] at this
  exact this
theorem Dr.vI {b p : Addr} {H1 : Hp} {cs : List Nat} (s : Dr K b H H1) (h : H p = some (.lst (vI cs))) : H1 p = some (.lst (vI cs)) := by
  rw [vI_map] at h ⊢
  exact s.ints' h
theorem w_neB {b c : Bool} (h : Q (.bl (!bD (b = c))) H) : rNe (.bl b) (.bl c) H Q := ⟨rfl, by rw [show decide (V.bl b = V.bl c) = bD (b = c) from by rw [bD_eq]; exact decide_eq_decide.mpr ⟨V.bl.inj, congrArg _⟩]; exact h⟩
theorem w_eqB {b c : Bool} (h : Q (.bl (bD (b = c))) H) : rEq (.bl b) (.bl c) H Q := ⟨rfl, by rw [show decide (V.bl b = V.bl c) = bD (b = c) from by rw [bD_eq]; exact decide_eq_decide.mpr ⟨V.bl.inj, congrArg _⟩]; exact h⟩
end
section
variable (K : PySem.W.Frag)
def sp_l_copies : Sp := fun vs H Q _ => ∃ (x : V) (r : Row) (n : Nat), vs = [x, .int (n : Nat)] ∧ Dp K H x (rowD r) ∧ rok r ∧ r.length ≤ 6 ∧ n ≤ 100000 ∧
  ∀ (H' : Hp) (p f c : Addr), Same H H' → H' p = some (.tup [.ref f, .ref c]) → H f = none → H' f = some (.lst (vI (copies r n))) → Q (.ref p) H'
def sp_law : Sp := fun vs H Q _ => ∃ (a : Addr) (ns : List Int), vs = [.ref a] ∧ SqL K H a (ns.map V.int) ∧ ns.length ≤ 63 ∧ ∀ H', Q (.bl true) H'
theorem len_l_copies : ∀ vs H Q E, sp_l_copies K vs H Q E → vs.length = 2 := by rintro _ _ _ _ ⟨_, _, _, rfl, _⟩; rfl
theorem len_law : ∀ vs H Q E, sp_law K vs H Q E → vs.length = 1 := by rintro _ _ _ _ ⟨_, _, rfl, _⟩; rfl
end
def t_l_copies (K : PySem.W.Frag) : TS :=
  (tSeq (tPar 2 3 (tCons (tCall (sp_l_begun K) [] E0 (tCons (tVar 0) tNil)) (tCons (tLst tNil) tNil)))
  (tSeq (tFor (iRng1 (tCons (tVar 1) tNil)) (gName 4)
  (tDrop (tBM K "list" rAppend (tVar 3) (tCons (tCB rLenT (tCons (tCall (sp_l_told_on K) [] E0 (tCons (tVar 0) (tCons (tVar 2) (tCons (tC (.str "q")) tNil)))) tNil)) tNil))))
  (tRet (tTup (tCons (tVar 3) (tCons (tVar 2) tNil))))))

section
variable (K : PySem.W.Frag)
theorem q_sg : Str.ofString "q" = sg 113 := by decide +kernel
theorem sem_l_copies : ∀ vs H Q E, sp_l_copies K vs H Q E → t_l_copies K { nx := fun _ H' => Q .non H', rt := Q } (start ["house", "many", "counts", "found", "turn"] vs) H := by
  rintro vs H Q E ⟨x, r, n, rfl, hd, hr, hl, hn, q⟩
  show t_l_copies K _ [some x, some (.int (n : Nat)), none, none, none] H
  unfold t_l_copies
  walk_at "w"
  refine ⟨x, r, rfl, hd, by omega, fun H1 cl s1 ncl hcl => ?_⟩
  walk_at "w"
  refine ⟨szOk 0, fun fo nfo => ?_⟩
  walk_at "w"
  refine ⟨(n : Nat), rfl, by omega, by omega, ?_⟩
  have nfo' : H fo = none := s1.free nfo
  have ne : fo ≠ cl := (ne_of_none hcl nfo).symm
  refine for_range (lo := 0) (n := ((n : Nat) : Int).toNat) (fun i σ H2 => ∃ y4, σ = [some x, some (.int (n : Nat)), some (.ref cl), some (.ref fo), y4] ∧ Same H H2 ∧ H2 cl = some (.lst (vI (feed r (begun r) (qs i)).2)) ∧ H2 fo = some (.lst (vI ((feed r (begun r) (qs i)).1.map List.length)))) ?_ ?_ ?_
  · exact ⟨none, rfl, s1.trans (same_new nfo), (same_new nfo) _ _ hcl, upd_same⟩
  · rintro i σ H2 hi ⟨y4, rfl, sm, hc, hf⟩
    rw [Int.toNat_natCast] at hi
    walk_at "w"
    have hlen : (feed r (begun r) (qs i)).2.length = r.length := by
      have := congrArg Prod.snd (feed_told r (qs i) (begun r))
      have h2 : (feed r (begun r) (qs i)).2 = (told r (begun r) (qs i)).2 := this
      rw [h2, told_len]
      exact List.length_map _
    have hqs : feed r (begun r) (qs (i + 1)) = ((feed r (begun r) (qs i)).1 ++ [(told r (feed r (begun r) (qs i)).2 [113]).1], (told r (feed r (begun r) (qs i)).2 [113]).2) := by
      rw [show qs (i + 1) = qs i ++ [113] from List.replicate_succ', feed_app]
      rfl
    refine ⟨x, r, cl, (feed r (begun r) (qs i)).2, 113, by rw [q_sg]; rfl, sm.dat hd, hr, hl, hlen, hc, fun H3 mv hc3 => ?_⟩
    walk_at "w"
    have h64 : (told r (feed r (begun r) (qs i)).2 [113]).1.length ≤ 64 := by
      have h1 := told_len2 r (feed r (begun r) (qs i)).2 [113]
      have h3 : 2 ^ r.length ≤ 2 ^ 6 := Nat.pow_le_pow_right (by decide) hl
      have h4 : [113].length = 1 := rfl
      rw [h4, Nat.mul_one] at h1
      omega
    have hf3 := mv.but _ _ ne hf
    have sm3 : Same H H3 := fun a o e => mv.but a o (ne_of_none e ncl) (sm _ _ e)
    refine w_lenS (szOk _ (by rw [tx_len]; omega)) ?_
    walk_at "w"
    refine w_append hf3 (szLt _ (by unfold vI; rw [List.length_map, List.length_map, feed_len]; show (qs i).length < _; unfold qs; rw [List.length_replicate]; omega)) ?_
    walk_at "w"
    refine ⟨_, rfl, same_mut sm3 nfo', ?_, ?_⟩
    · rw [upd_ne ne.symm, hqs]
      exact hc3
    · rw [upd_same, hqs]
      unfold vI
      rw [List.map_append, List.map_append, tx_len]
      rfl
  · rintro σ H2 ⟨y4, rfl, sm, hc, hf⟩
    walk_at "w"
    refine ⟨szOk 2, fun p np => ?_⟩
    rw [Int.toNat_natCast] at hc hf
    exact q _ p fo cl (sm.trans (same_new np)) upd_same nfo' ((same_new np) _ _ hf)
end
end HH

namespace HH
open PySem PySem.Spec L2
local macro_rules | `(tactic| walk_at "cy") => `(tactic| first
  | assumption
  | exact L2.upd_same
  | exact L2.sqL_new
  | exact L2.sqT_new
  | exact L2.sqL_at (by assumption)
  | exact L2.sqT_at (by assumption)
  | (refine' L2.Same.seq (by assumption) ?k0; (case k0 => walk_at "cy"))
  | (refine' L2.Same.sqT (by assumption) ?k0; (case k0 => walk_at "cy"))
  | (refine' L2.Same.dat (by assumption) ?k0; (case k0 => walk_at "cy"))
  | (refine' (by assumption : L2.Same _ _) _ _ ?k0; (case k0 => walk_at "cy"))
  | (refine' L2.Same.seq (L2.same_new (by assumption)) ?k0; (case k0 => walk_at "cy"))
  | (refine' L2.Same.sqT (L2.same_new (by assumption)) ?k0; (case k0 => walk_at "cy"))
  | (refine' L2.Same.dat (L2.same_new (by assumption)) ?k0; (case k0 => walk_at "cy"))
  | (refine' L2.same_new (by assumption) _ _ ?k0; (case k0 => walk_at "cy"))
  | (refine' L2.Mv.sqT (by assumption) ?k0; (case k0 => walk_at "cy")))
local macro_rules | `(tactic| walk_at "w") => `(tactic| repeat (first
  | refine HH.stp ?_
  | with_reducible refine L2.iteT ?_
  | with_reducible refine L2.iteF ?_
  | ((with_reducible refine' HH.w_gtup ?k1 ?k2 ?_); (case k1 => walk_at "cy"); (case k2 => exact rfl))
  | ((with_reducible refine' HH.w_ixT ?k1 ?k2 ?_); (case k1 => walk_at "cy"); (case k2 => exact rfl))
  | ((with_reducible refine' HH.w_ixL ?k1 ?k2 ?_); (case k1 => walk_at "cy"); (case k2 => exact rfl))
  | ((with_reducible refine' HH.w_lenL ?k1 ?_); (case k1 => walk_at "cy"))
  | ((with_reducible refine' HH.w_lenT ?k1 ?_); (case k1 => walk_at "cy"))
  | ((with_reducible refine' HH.w_exT ?k1 ?_); (case k1 => walk_at "cy"))
  | ((with_reducible refine' HH.w_exL ?k1 ?_); (case k1 => walk_at "cy"))
  | ((with_reducible refine' HH.w_tyL ?k1 ?_); (case k1 => walk_at "cy"))
  | ((with_reducible refine' HH.w_setL ?k1 ?k2 ?_); (case k1 => walk_at "cy"); (case k2 => exact rfl))
  | ((with_reducible refine' HH.w_modI ?k1 ?_); (case k1 => first | (with_reducible assumption) | omega))
  | ((with_reducible refine' HH.w_divI ?k1 ?_); (case k1 => (constructor <;> omega)))))
local macro_rules | `(tactic| walk_at "v") => `(tactic| ((repeat ((fail_if_success (with_reducible refine HH.isIf ?_)); first
  | refine HH.stp ?_
  | with_reducible refine L2.iteT ?_
  | with_reducible refine L2.iteF ?_
  | ((with_reducible refine' HH.w_gtup ?k1 ?k2 ?_); (case k1 => walk_at "cy"); (case k2 => exact rfl))
  | ((with_reducible refine' HH.w_ixT ?k1 ?k2 ?_); (case k1 => walk_at "cy"); (case k2 => exact rfl))
  | ((with_reducible refine' HH.w_ixL ?k1 ?k2 ?_); (case k1 => walk_at "cy"); (case k2 => exact rfl))
  | ((with_reducible refine' HH.w_lenL ?k1 ?_); (case k1 => walk_at "cy"))
  | ((with_reducible refine' HH.w_lenT ?k1 ?_); (case k1 => walk_at "cy"))
  | ((with_reducible refine' HH.w_exT ?k1 ?_); (case k1 => walk_at "cy"))
  | ((with_reducible refine' HH.w_exL ?k1 ?_); (case k1 => walk_at "cy"))
  | ((with_reducible refine' HH.w_tyL ?k1 ?_); (case k1 => walk_at "cy"))
  | ((with_reducible refine' HH.w_setL ?k1 ?k2 ?_); (case k1 => walk_at "cy"); (case k2 => exact rfl))
  | ((with_reducible refine' HH.w_modI ?k1 ?_); (case k1 => first | (with_reducible assumption) | omega))
  | ((with_reducible refine' HH.w_divI ?k1 ?_); (case k1 => (constructor <;> omega)))))); (try (with_reducible refine HH.isIf ?_)))
/-! ### words -/
def WordOk (w : List Nat) : Prop := w.length ≤ 200 ∧ ∀ c ∈ w, isSmall c = true
def isWordD : PyData → Bool
  | .str z => decide (z.length ≤ 200) && z.cps.toList.all isSmall
  | _ => false
theorem isWord_of {w : List Nat} (h : WordOk w) : isWordD (.str (tx w)) = true := by
  show (decide (w.length ≤ 200) && w.all isSmall) = true
  rw [decide_eq_true h.1, Bool.true_and, List.all_eq_true]
  exact h.2
theorem join_tx (ps : List (List Nat)) : Txt.join (Str.ofString "") (ps.map tx) = tx ps.flatten := by
  rw [join_strs, List.map_map]
  congr 1
  have : (TL.tl ∘ tx) = id := rfl
  rw [this, List.map_id]
theorem sum_tx : ∀ ps : List (List Nat), ((ps.map tx).map (·.length)).sum = ps.flatten.length
  | [] => rfl
  | p :: ps => by
    show p.length + ((ps.map tx).map (·.length)).sum = _
    rw [sum_tx ps, List.flatten_cons, List.length_append]
abbrev vT (ps : List (List Nat)) : List V := ps.map fun p => V.str (tx p)
theorem w_joinT {K : PySem.W.Frag} {H : Hp} {p : Addr} {Q : VK} {ps : List (List Nat)} (h : SqL K H p (vT ps)) (z : ps.flatten.length ≤ 16777216) (q : Q (.str (tx ps.flatten)) H) : rJoin K (.str (Str.ofString "")) [.ref p] H Q := by
  refine w_joinQ (ps.map tx) (by rw [List.map_map]; exact h) ?_ ?_
  · rw [sum_tx, show (Str.ofString "").length = 0 by decide +kernel, Nat.mul_zero]
    exact z
  · rw [join_tx]
    exact q
theorem tx_sg (c : Nat) : tx [c] = sg c := rfl
theorem tx_app (a b : List Nat) : tx a ++ tx b = tx (a ++ b) := by
  apply tl_inj
  show ((⟨a.toArray ++ b.toArray⟩ : Str)).cps.toList = a ++ b
  simp
theorem tx_inj {a b : List Nat} (h : tx a = tx b) : a = b := congrArg TL.tl h
theorem cutS_to (w : List Nat) (k : Nat) : cutS (tx w) none (some (k : Int)) = tx (w.take k) := by
  unfold cutS
  rw [HT.sIx_none, HT.sIx_nat, Nat.sub_zero, List.drop_zero]
  show tx ((tx w).cps.toList.take (min k w.length)) = _
  congr 1
  show w.take (min k w.length) = _
  rcases Nat.le_total k w.length with h | h
  · rw [Nat.min_eq_left h]
  · rw [Nat.min_eq_right h, List.take_length, List.take_of_length_le h]
theorem cutS_from (w : List Nat) (k : Nat) : cutS (tx w) (some (k : Int)) none = tx (w.drop k) := by
  unfold cutS
  rw [HT.sIx_none, HT.sIx_nat]
  show tx ((w.drop (min k w.length)).take (w.length - min k w.length)) = _
  congr 1
  rcases Nat.le_total k w.length with h | h
  · rw [Nat.min_eq_left h, List.take_of_length_le (by rw [List.length_drop]; exact Nat.le_refl _)]
  · rw [Nat.min_eq_right h, List.drop_length, List.drop_of_length_le h]
    simp
theorem cutS_mid (w : List Nat) (i j : Nat) : cutS (tx w) (some (i : Int)) (some (j : Int)) = tx ((w.take j).drop i) := by
  unfold cutS
  rw [HT.sIx_nat, HT.sIx_nat]
  show tx ((w.drop (min i w.length)).take (min j w.length - min i w.length)) = _
  congr 1
  rw [List.drop_take]
  rcases Nat.le_total i w.length with h2 | h2
  · rw [Nat.min_eq_left h2]
    rcases Nat.le_total j w.length with h | h
    · rw [Nat.min_eq_left h]
    · rw [Nat.min_eq_right h, List.take_of_length_le (by rw [List.length_drop]; omega), List.take_of_length_le (by rw [List.length_drop]; omega)]
  · rw [Nat.min_eq_right h2, List.drop_length, List.drop_of_length_le h2]
    simp
section
variable {K : PySem.W.Frag} {H : Hp} {Q : VK} {w w2 : List Nat}
theorem w_slW_to {k : Nat} (hz : w.length ≤ 10000000) (q : Q (.str (tx (w.take k))) H) : rSlS (.str (tx w)) none (some (k : Int)) H Q := ⟨tx w, rfl, szOk _ hz, by rw [cutS_to]; exact q⟩
theorem w_slW_from {k : Nat} (hz : w.length ≤ 10000000) (q : Q (.str (tx (w.drop k))) H) : rSlS (.str (tx w)) (some (k : Int)) none H Q := ⟨tx w, rfl, szOk _ hz, by rw [cutS_from]; exact q⟩
theorem w_slW_mid {i j : Nat} (hz : w.length ≤ 10000000) (q : Q (.str (tx ((w.take j).drop i))) H) : rSlS (.str (tx w)) (some (i : Int)) (some (j : Int)) H Q := ⟨tx w, rfl, szOk _ hz, by rw [cutS_mid]; exact q⟩
theorem w_lenW (hz : w.length ≤ 10000000) (q : Q (.int (w.length : Nat)) H) : rLenT [.str (tx w)] H Q := w_lenS (szOk _ hz) q
theorem w_addW (hz : w.length + w2.length ≤ 10000000) (q : Q (.str (tx (w ++ w2))) H) : rAddS (.str (tx w)) (.str (tx w2)) H Q := w_addS (szOk _ hz) (by rw [tx_app]; exact q)
theorem w_eqW (q : Q (.bl (bD (w = w2))) H) : rEq (.str (tx w)) (.str (tx w2)) H Q := w_eqS (by rw [bD_congr (⟨tx_inj, congrArg tx⟩ : tx w = tx w2 ↔ w = w2)]; exact q)
theorem w_neW (q : Q (.bl (!bD (w = w2))) H) : rNe (.str (tx w)) (.str (tx w2)) H Q := w_neS (by rw [bD_congr (⟨tx_inj, congrArg tx⟩ : tx w = tx w2 ↔ w = w2)]; exact q)
end
/-! one letter -/
def heard1 (f : Folk) (c : Nat) : Nat := match f with
  | .hears a b => if c = a then b else c
  | .ctr _ _ _ => c
def heardAs : Row → Nat → Nat
  | [], c => c
  | f :: r, c => heardAs r (heard1 f c)
def isHears : Folk → Bool
  | .hears _ _ => true
  | .ctr _ _ _ => false
theorem heard1_small {f : Folk} (h : f.ok = true) {c : Nat} (hc : isSmall c = true) : isSmall (heard1 f c) = true := by
  cases f with
  | hears a b =>
    have h' : (isSmall a && isSmall b && decide (a ≠ b)) = true := h
    simp only [Bool.and_eq_true] at h'
    show isSmall (if c = a then b else c) = true
    split
    · exact h'.1.2
    · exact hc
  | ctr tw e c' => exact hc
theorem heardAs_small : ∀ {r : Row}, (∀ f ∈ r, f.ok = true) → ∀ {c : Nat}, isSmall c = true → isSmall (heardAs r c) = true
  | [], _, _, hc => hc
  | f :: r, h, _, hc => heardAs_small (fun g hg => h g (List.mem_cons_of_mem _ hg)) (heard1_small (h f List.mem_cons_self) hc)
/-- how many of a sign that has come so often; the counts do not hang on the signs -/
def cnt1 (f : Folk) (n : Nat) : Nat → Nat × Nat
  | 0 => (0, n)
  | k + 1 => match f with
    | .hears _ _ => ((cnt1 f n k).1 + 1, n)
    | .ctr tw e _ => ((cnt1 f n k).1 + (if ((cnt1 f n k).2 + 1) % e = 0 then (if tw then 2 else 0) else 1), ((cnt1 f n k).2 + 1) % e)
theorem runOne_rep (f : Folk) (n c : Nat) : ∀ k : Nat, runOne f n (List.replicate k c) = (List.replicate (cnt1 f n k).1 (heard1 f c), (cnt1 f n k).2)
  | 0 => rfl
  | k + 1 => by
    rw [List.replicate_succ', runOne_snoc, runOne_rep f n c k]
    cases f with
    | hears a b =>
      show (List.replicate (cnt1 (.hears a b) n k).1 (if c = a then b else c) ++ [if c = a then b else c], (cnt1 (.hears a b) n k).2) = (List.replicate ((cnt1 (.hears a b) n k).1 + 1) (if c = a then b else c), n)
      have e : ∀ k, (cnt1 (.hears a b) n k).2 = n := fun k => by cases k <;> rfl
      rw [List.replicate_succ', e]
    | ctr tw e c' =>
      have h2 : heard1 (.ctr tw e c') c = c := rfl
      have h1 : stepOne (.ctr tw e c') (cnt1 (.ctr tw e c') n k).2 c = (if ((cnt1 (.ctr tw e c') n k).2 + 1) % e = 0 then (if tw then [c, c] else []) else [c], ((cnt1 (.ctr tw e c') n k).2 + 1) % e) := rfl
      have h3 : cnt1 (.ctr tw e c') n (k + 1) = ((cnt1 (.ctr tw e c') n k).1 + (if ((cnt1 (.ctr tw e c') n k).2 + 1) % e = 0 then (if tw then 2 else 0) else 1), ((cnt1 (.ctr tw e c') n k).2 + 1) % e) := rfl
      rw [h1, h2, h3]
      dsimp only
      rw [← List.replicate_append_replicate]
      split
      · cases tw <;> rfl
      · rfl
def cntN : Row → List Nat → Nat → Nat × List Nat
  | f :: r, c :: cs, k => ((cntN r cs (cnt1 f c k).1).1, (cnt1 f c k).2 :: (cntN r cs (cnt1 f c k).1).2)
  | _, cs, k => (k, cs)
theorem told_rep : ∀ (r : Row) (cs : List Nat) (c k : Nat), cs.length = r.length → told r cs (List.replicate k c) = (List.replicate (cntN r cs k).1 (heardAs r c), (cntN r cs k).2)
  | [], cs, c, k, _ => rfl
  | f :: r, d :: cs, c, k, h => by
    show ((told r cs (runOne f d (List.replicate k c)).1).1, (runOne f d (List.replicate k c)).2 :: (told r cs (runOne f d (List.replicate k c)).1).2) = _
    rw [runOne_rep, told_rep r cs (heard1 f c) _ (Nat.succ.inj h)]
    rfl
  | _ :: _, [], _, _, h => by cases h
/-- signs behind one another: how many of each -/
def pass (r : Row) (cs : List Nat) : Nat → List Nat
  | 0 => []
  | n + 1 => (cntN r cs 1).1 :: pass r (cntN r cs 1).2 n
theorem cntN_len : ∀ (r : Row) (cs : List Nat) (k : Nat), (cntN r cs k).2.length = cs.length
  | [], _, _ => rfl
  | _ :: _, [], _ => rfl
  | f :: r, c :: cs, k => congrArg (· + 1) (cntN_len r cs _)
theorem pass_len (r : Row) : ∀ (n : Nat) (cs : List Nat), (pass r cs n).length = n
  | 0, _ => rfl
  | n + 1, cs => congrArg (· + 1) (pass_len r n _)
theorem feed_pass (r : Row) : ∀ (w cs : List Nat), cs.length = r.length → (feed r cs w).1 = (List.zip (pass r cs w.length) w).map fun p => List.replicate p.1 (heardAs r p.2)
  | [], _, _ => rfl
  | s :: w, cs, h => by
    have e : told r cs [s] = (List.replicate (cntN r cs 1).1 (heardAs r s), (cntN r cs 1).2) := told_rep r cs s 1 h
    show (told r cs [s]).1 :: (feed r (told r cs [s]).2 w).1 = _
    rw [e, feed_pass r w (cntN r cs 1).2 (by rw [cntN_len]; exact h)]
    rfl
theorem begun_len (r : Row) : (begun r).length = r.length := List.length_map _
theorem comes_feed (r : Row) (w : List Nat) : comes r w = (feed r (begun r) w).1.flatten := (congrArg Prod.fst (feed_told r w (begun r))).symm
theorem copies_pass (r : Row) (n : Nat) : copies r n = pass r (begun r) n := by
  unfold copies
  rw [feed_pass r _ _ (begun_len r), List.map_map]
  have hq : (qs n).length = n := List.length_replicate
  rw [hq]
  have : (List.length ∘ fun p : Nat × Nat => List.replicate p.1 (heardAs r p.2)) = Prod.fst := by
    funext p
    exact List.length_replicate
  rw [this, List.map_fst_zip]
  rw [pass_len, hq]
  exact Nat.le_refl _
theorem comes_hears : ∀ (r : Row) (c : Nat), comes (r.filter isHears) [c] = [heardAs r c]
  | [], c => rfl
  | .hears a b :: r, c => by
    show comes (.hears a b :: r.filter isHears) [c] = [heardAs r (heard1 (.hears a b) c)]
    have : comes (.hears a b :: r.filter isHears) [c] = comes (r.filter isHears) [if c = a then b else c] := rfl
    rw [this, comes_hears r _]
    rfl
  | .ctr tw e n :: r, c => comes_hears r c
theorem comes_cons (f : Folk) (r : Row) (w : List Nat) : comes (f :: r) w = comes r (runOne f f.begun w).1 := rfl
theorem runOne_small {f : Folk} (h : f.ok = true) : ∀ (n : Nat) {w : List Nat}, (∀ c ∈ w, isSmall c = true) → ∀ c ∈ (runOne f n w).1, isSmall c = true
  | _, [], _, _, hc => by cases hc
  | n, s :: w, hw, c, hc => by
    have hc' : c ∈ (stepOne f n s).1 ++ (runOne f (stepOne f n s).2 w).1 := hc
    rcases List.mem_append.mp hc' with q | q
    · have hs := hw s List.mem_cons_self
      cases f with
      | hears a b =>
        have e : c = heard1 (.hears a b) s := List.mem_singleton.mp q
        rw [e]
        exact heard1_small h hs
      | ctr tw e n' =>
        have q' : c ∈ (if (n + 1) % e = 0 then (if tw then [s, s] else []) else [s]) := q
        have : c = s := by
          split at q'
          · cases tw
            · cases q'
            · rcases List.mem_cons.mp q' with z | z
              · exact z
              · exact List.mem_singleton.mp z
          · exact List.mem_singleton.mp q'
        rw [this]
        exact hs
    · exact runOne_small h _ (fun d hd => hw d (List.mem_cons_of_mem _ hd)) c q
theorem comes_small : ∀ {r : Row}, (∀ f ∈ r, f.ok = true) → ∀ {w : List Nat}, (∀ c ∈ w, isSmall c = true) → ∀ c ∈ comes r w, isSmall c = true
  | [], _, _, hw => hw
  | f :: r, h, w, hw => by
    rw [comes_cons]
    exact comes_small (fun g hg => h g (List.mem_cons_of_mem _ hg)) (runOne_small (h f List.mem_cons_self) _ hw)
theorem comes_snoc (f : Folk) : ∀ (r : Row) (w : List Nat), comes (r ++ [f]) w = (runOne f f.begun (comes r w)).1
  | [], w => rfl
  | g :: r, w => by
    show comes (g :: (r ++ [f])) w = _
    rw [comes_cons, comes_snoc f r, ← comes_cons]
theorem heardAs_snoc (f : Folk) : ∀ (r : Row) (c : Nat), heardAs (r ++ [f]) c = heard1 f (heardAs r c)
  | [], c => rfl
  | g :: r, c => heardAs_snoc f r _
theorem comes_len2 : ∀ (r : Row) (w : List Nat), (comes r w).length ≤ 2 ^ r.length * w.length
  | r, w => told_len2 r (begun r) w
theorem comes_take {r : Row} (h : rok r) (w : List Nat) (k : Nat) : comes r (w.take k) = (comes r w).take (allCome r (min k w.length)) := by
  have e : w = w.take k ++ w.drop k := (List.take_append_drop k w).symm
  have : comes r w = comes r (w.take k) ++ (told r (told r (begun r) (w.take k)).2 (w.drop k)).1 := by
    have := congrArg Prod.fst (told_app r (begun r) (w.take k) (w.drop k))
    rw [← e] at this
    exact this
  rw [this]
  have hl : (comes r (w.take k)).length = allCome r (min k w.length) := by rw [comes_len h, List.length_take]
  rw [← hl, List.take_left']
  rfl
section
variable (K : PySem.W.Frag)
def sp_is_word : Sp := fun vs H Q _ => ∃ (x : V) (d : PyData), vs = [x] ∧ Dp K H x d ∧ fitD d = true ∧ ∀ H', Same H H' → Q (.bl (isWordD d)) H'
def sp_need_word : Sp := fun vs H Q _ => ∃ (x : V) (d : PyData), vs = [x] ∧ Dp K H x d ∧ fitD d = true ∧ isWordD d = true ∧ ∀ H', Same H H' → Q .non H'
def sp_said_by : Sp := fun vs H Q _ => ∃ (x : V) (f : Folk) (w : List Nat), vs = [x, .str (tx w)] ∧ Dp K H x (folkD f) ∧ fok f ∧ w.length ≤ 1000000 ∧ ∀ H', Same H H' → Q (.str (tx (runOne f f.begun w).1)) H'
def sp_comes_out : Sp := fun vs H Q _ => ∃ (x : V) (r : Row) (w : List Nat), vs = [x, .str (tx w)] ∧ Dp K H x (rowD r) ∧ rok r ∧ r.length ≤ 6 ∧ w.length ≤ 10000 ∧ ∀ H', Same H H' → Q (.str (tx (comes r w))) H'
def sp_out : Sp := fun vs H Q _ => ∃ (x : V) (r : Row) (w : List Nat), vs = [x, .str (tx w)] ∧ Dp K H x (rowD r) ∧ Row.Ok r ∧ WordOk w ∧ ∀ H', Same H H' → Q (.str (tx (comes r w))) H'
def sp_heard_as : Sp := fun vs H Q _ => ∃ (x : V) (r : Row) (c : Nat), vs = [x, .str (sg c)] ∧ Dp K H x (rowD r) ∧ Q (.str (sg (heardAs r c))) H
def sp_letter_out : Sp := fun vs H Q _ => ∃ (x : V) (r : Row) (c : Nat), vs = [x, .str (sg c)] ∧ Dp K H x (rowD r) ∧ Row.Ok r ∧ isSmall c = true ∧ ∀ H', Same H H' → Q (.str (sg (heardAs r c))) H'
def sp_come_alike : Sp := fun vs H Q _ => ∃ (x : V) (r : Row) (w w2 : List Nat), vs = [x, .str (tx w), .str (tx w2)] ∧ Dp K H x (rowD r) ∧ Row.Ok r ∧ WordOk w ∧ WordOk w2 ∧ ∀ H', Same H H' → Q (.bl (bD (comes r w = comes r w2))) H'
def sp_l_letter : Sp := fun vs H Q _ => ∃ (b : Addr) (wide : Nat), vs = [.ref b, .int (wide : Nat)] ∧ BagOk K H b ∧ 0 < wide ∧ wide ≤ 26 ∧ ∀ (c : Nat) (H' : Hp), 97 ≤ c → c < 97 + wide → Dr K b H H' → Q (.str (sg c)) H'
def sp_l_a_word : Sp := fun vs H Q _ => ∃ (b : Addr) (most wide : Nat), vs = [.ref b, .int (most : Nat), .int (wide : Nat)] ∧ BagOk K H b ∧ most ≤ 300 ∧ 0 < wide ∧ wide ≤ 26 ∧
  ∀ (w : List Nat) (H' : Hp), w.length ≤ most → (∀ c ∈ w, 97 ≤ c ∧ c < 97 + wide) → Dr K b H H' → Q (.str (tx w)) H'
def sp_l_comes : Sp := fun vs H Q _ => ∃ (x : V) (r : Row) (w : List Nat), vs = [x, .str (tx w)] ∧ Dp K H x (rowD r) ∧ rok r ∧ r.length ≤ 6 ∧ w.length ≤ 10000 ∧ ∀ H', Same H H' → Q (.str (tx (comes r w))) H'
theorem len_is_word : ∀ vs H Q E, sp_is_word K vs H Q E → vs.length = 1 := by rintro _ _ _ _ ⟨_, _, rfl, _⟩; rfl
theorem len_need_word : ∀ vs H Q E, sp_need_word K vs H Q E → vs.length = 1 := by rintro _ _ _ _ ⟨_, _, rfl, _⟩; rfl
theorem len_said_by : ∀ vs H Q E, sp_said_by K vs H Q E → vs.length = 2 := by rintro _ _ _ _ ⟨_, _, _, rfl, _⟩; rfl
theorem len_comes_out : ∀ vs H Q E, sp_comes_out K vs H Q E → vs.length = 2 := by rintro _ _ _ _ ⟨_, _, _, rfl, _⟩; rfl
theorem len_out : ∀ vs H Q E, sp_out K vs H Q E → vs.length = 2 := by rintro _ _ _ _ ⟨_, _, _, rfl, _⟩; rfl
theorem len_heard_as : ∀ vs H Q E, sp_heard_as K vs H Q E → vs.length = 2 := by rintro _ _ _ _ ⟨_, _, _, rfl, _⟩; rfl
theorem len_letter_out : ∀ vs H Q E, sp_letter_out K vs H Q E → vs.length = 2 := by rintro _ _ _ _ ⟨_, _, _, rfl, _⟩; rfl
theorem len_come_alike : ∀ vs H Q E, sp_come_alike K vs H Q E → vs.length = 3 := by rintro _ _ _ _ ⟨_, _, _, _, rfl, _⟩; rfl
theorem len_l_letter : ∀ vs H Q E, sp_l_letter K vs H Q E → vs.length = 2 := by rintro _ _ _ _ ⟨_, _, rfl, _⟩; rfl
theorem len_l_a_word : ∀ vs H Q E, sp_l_a_word K vs H Q E → vs.length = 3 := by rintro _ _ _ _ ⟨_, _, _, rfl, _⟩; rfl
theorem len_l_comes : ∀ vs H Q E, sp_l_comes K vs H Q E → vs.length = 2 := by rintro _ _ _ _ ⟨_, _, _, rfl, _⟩; rfl
end
def t_is_word (K : PySem.W.Frag) : TS :=
  (tRet (tAndV (tCB (rIsi K) (tCons (tVar 0) (tCons (tC (.ty "str")) tNil))) (tAndV (tOp rLeI (tCB rLenT (tCons (tVar 0) tNil)) (tC (.int 200))) (tCB (rAll K) (tCons (tLc (iStr (tVar 0)) (gName 1) tYes (tOp rInC (tVar 1) (tC (.str "abcdefghijklmnopqrstuvwxyz"))) [1]) tNil)))))

def t_need_word (K : PySem.W.Frag) : TS :=
  (tIfS (tNot (tB (tCall (sp_is_word K) [] E0 (tCons (tVar 0) tNil)))) tNever tNext)

def t_said_by (K : PySem.W.Frag) : TS :=
  (tSeq (tAsg (tVar 0) (gTup K 3 (gCons (gName 2) (gCons (gName 3) (gCons (gName 4) gNil)))))
  (tSeq (tAsg (tLst tNil) (gName 5))
  (tSeq (tFor (iStr (tVar 1)) (gName 6)
  (tIfS (tTest (tOp rEq (tVar 2) (tC (.str "hears")))) (tDrop (tBM K "list" rAppend (tVar 5) (tCons (tIf (tTest (tOp rEq (tVar 6) (tVar 3))) (tVar 4) (tVar 6)) tNil))) (tSeq (tAsg (tOp rModI (tOp rAddI (tVar 4) (tC (.int 1))) (tVar 3)) (gName 4))
  (tIfS (tTest (tOp rGtI (tVar 4) (tC (.int 0)))) (tDrop (tBM K "list" rAppend (tVar 5) (tCons (tVar 6) tNil))) (tIfS (tTest (tOp rEq (tVar 2) (tC (.str "twice")))) (tDrop (tBM K "list" rAppend (tVar 5) (tCons (tOp rAddS (tVar 6) (tVar 6)) tNil))) tNext)))))
  (tRet (tM1 (rJoin K) (tC (.str "")) (tVar 5))))))

def t_comes_out (K : PySem.W.Frag) : TS :=
  (tSeq (tFor (iTup K (tVar 0)) (gName 2)
  (tAsg (tCall (sp_said_by K) [] E0 (tCons (tVar 2) (tCons (tVar 1) tNil))) (gName 1)))
  (tRet (tVar 1)))

def t_out (K : PySem.W.Frag) : TS :=
  (tSeq (tDrop (tCall (sp_need_row K) [] E0 (tCons (tVar 0) tNil)))
  (tSeq (tDrop (tCall (sp_need_word K) [] E0 (tCons (tVar 1) tNil)))
  (tRet (tCall (sp_comes_out K) [] E0 (tCons (tVar 0) (tCons (tVar 1) tNil))))))

def t_heard_as (K : PySem.W.Frag) : TS :=
  (tSeq (tFor (iTup K (tVar 0)) (gTup K 3 (gCons (gName 2) (gCons (gName 3) (gCons (gName 4) gNil))))
  (tIfS (tAnd (tTest (tOp rEq (tVar 2) (tC (.str "hears")))) (tTest (tOp rEq (tVar 1) (tVar 3)))) (tAsg (tVar 4) (gName 1)) tNext))
  (tRet (tVar 1)))

def t_letter_out (K : PySem.W.Frag) : TS :=
  (tSeq (tDrop (tCall (sp_need_row K) [] E0 (tCons (tVar 0) tNil)))
  (tSeq (tIfS (tNot (tB (tCall (sp_is_letter K) [] E0 (tCons (tVar 1) tNil)))) tNever tNext)
  (tRet (tCall (sp_heard_as K) [] E0 (tCons (tVar 0) (tCons (tVar 1) tNil))))))

def t_come_alike (K : PySem.W.Frag) : TS :=
  (tSeq (tDrop (tCall (sp_need_row K) [] E0 (tCons (tVar 0) tNil)))
  (tSeq (tDrop (tCall (sp_need_word K) [] E0 (tCons (tVar 1) tNil)))
  (tSeq (tDrop (tCall (sp_need_word K) [] E0 (tCons (tVar 2) tNil)))
  (tRet (tOp rEq (tCall (sp_comes_out K) [] E0 (tCons (tVar 0) (tCons (tVar 1) tNil))) (tCall (sp_comes_out K) [] E0 (tCons (tVar 0) (tCons (tVar 2) tNil))))))))

def t_l_letter (K : PySem.W.Frag) : TS :=
  (tRet (tOp rIxS (tC (.str "abcdefghijklmnopqrstuvwxyz")) (tCall (sp_l_take K) [] E0 (tCons (tVar 0) (tCons (tVar 1) tNil)))))

def t_l_a_word (K : PySem.W.Frag) : TS :=
  (tRet (tM1 (rJoin K) (tC (.str "")) (tLc (iRng1 (tCons (tCall (sp_l_take K) [] E0 (tCons (tVar 0) (tCons (tOp rAddI (tVar 1) (tC (.int 1))) tNil))) tNil)) (gName 3) tYes (tCall (sp_l_letter K) [] E0 (tCons (tVar 0) (tCons (tVar 2) tNil))) [3])))

def t_l_comes (K : PySem.W.Frag) : TS :=
  (tSeq (tPar 2 3 (tCons (tCall (sp_l_begun K) [] E0 (tCons (tVar 0) tNil)) (tCons (tLst tNil) tNil)))
  (tSeq (tFor (iStr (tVar 1)) (gName 4)
  (tDrop (tBM K "list" rAppend (tVar 3) (tCons (tCall (sp_l_told_on K) [] E0 (tCons (tVar 0) (tCons (tVar 2) (tCons (tVar 4) tNil)))) tNil))))
  (tRet (tM1 (rJoin K) (tC (.str "")) (tVar 3)))))

local macro_rules | `(tactic| walk_at "is") => `(tactic| first
  | ((with_reducible refine' HH.w_is_int ?k1 ?_); (case k1 => walk_at "cy"))
  | ((with_reducible refine' HH.w_is_bool ?k1 ?_); (case k1 => walk_at "cy"))
  | ((with_reducible refine' HH.w_is_str ?k1 ?_); (case k1 => walk_at "cy"))
  | ((with_reducible refine' HH.w_is_tuple ?k1 ?_); (case k1 => walk_at "cy"))
  | ((with_reducible refine' HH.w_is_list ?k1 ?_); (case k1 => walk_at "cy")))
section
variable (K : PySem.W.Frag)
theorem sem_is_word : ∀ vs H Q E, sp_is_word K vs H Q E → t_is_word K { nx := fun _ H' => Q .non H', rt := Q } (start ["thing", "sign"] vs) H := by
  rintro vs H Q E ⟨x, d, rfl, hd, hf, q⟩
  show t_is_word K _ [some x, none] H
  unfold t_is_word
  walk_at "w"; walk_at "is"; walk_at "w"
  cases d with
  | str z =>
    cases hd
    refine iteT ?_
    walk_at "w"
    have hz : z.length ≤ 10000 := of_decide_eq_true hf
    refine w_lenS (szOk _ (Nat.le_trans hz (by decide))) ?_
    walk_at "w"
    rw [show isWordD (.str z) = (decide (z.length ≤ 200) && z.cps.toList.all isSmall) from rfl] at q
    refine w_ifB (fun e => ?_) (fun e => ?_)
    · have e' : z.length ≤ 200 := by have := bT e; omega
      rw [decide_eq_true e'] at q
      walk_at "w"
      intro D nD
      refine lc_same (walk_str (z := z)) nD [some (.str z), none] rfl (fun i => ((z.cps.toList.take i).map isSmall).map V.bl) rfl (fun _ _ => trivial) (fun i x H1 H1' hi p y => ?_) (fun H1 s hD => ?_)
      · obtain ⟨rfl, c, hc, rfl⟩ := y
        walk_at "w"
        refine ⟨rfl, ?_⟩
        walk_at "w"
        rw [bD_eq, small_mem]
        refine lc_put nD p (Same.refl _) (szLt _ ?_) ?_
        · rw [List.length_map, List.length_map, List.length_take]
          have : z.cps.toList.length = z.length := rfl
          omega
        · have hc' : z.cps.toList[i]? = some c := by rw [Array.getElem?_toList]; exact hc
          rw [List.take_add_one, hc', List.map_append, List.map_append]
          rfl
      · walk_at "w"
        refine w_all (z.cps.toList.map isSmall) (sqL_at (by rw [hD]; congr 2; rw [List.take_of_length_le (show z.cps.toList.length ≤ z.cps.size from Nat.le_refl _)])) ?_
        rw [show (z.cps.toList.map isSmall).all id = z.cps.toList.all isSmall from by rw [List.all_map]; rfl]
        exact q H1 s
    · have e' : ¬ z.length ≤ 200 := by have := bF e; omega
      rw [decide_eq_false e'] at q
      exact q H (Same.refl H)
  | _ => exact iteF (q H (Same.refl H))
theorem sem_need_word : ∀ vs H Q E, sp_need_word K vs H Q E → t_need_word K { nx := fun _ H' => Q .non H', rt := Q } (start ["word"] vs) H := by
  rintro vs H Q E ⟨x, d, rfl, hd, hf, hr, q⟩
  show t_need_word K _ [some x] H
  unfold t_need_word
  walk_at "w"
  refine ⟨x, d, rfl, hd, hf, fun H' s => ?_⟩
  rw [hr]
  walk_at "w"
  refine iteF ?_
  exact q H' s
theorem fit_tx {w : List Nat} (h : w.length ≤ 10000) : fitD (.str (tx w)) = true := decide_eq_true h
theorem sem_said_by : ∀ vs H Q E, sp_said_by K vs H Q E → t_said_by K { nx := fun _ H' => Q .non H', rt := Q } (start ["one", "word", "kind", "every", "counted", "found", "sign"] vs) H := by
  rintro vs H Q E ⟨x, f, w, rfl, hd, hf, hw, q⟩
  show t_said_by K _ [some x, some (.str (tx w)), none, none, none, none, none] H
  unfold t_said_by
  obtain ⟨a, rfl, hs⟩ := folk_inv hd
  have piece : ∀ (n s : Nat), (stepOne f n s).1.length ≤ 2 := fun n s => by
    have := runOne_len f n [s]
    have e : (runOne f n [s]).1 = (stepOne f n s).1 ++ [] := rfl
    rw [e, List.append_nil] at this
    exact this
  have snoc : ∀ (i s : Nat), w[i]? = some s → runOne f f.begun (w.take (i + 1)) = ((runOne f f.begun (w.take i)).1 ++ (stepOne f (runOne f f.begun (w.take i)).2 s).1, (stepOne f (runOne f f.begun (w.take i)).2 s).2) := fun i s h => by
    rw [List.take_add_one, h]
    exact runOne_snoc _ _ _ _
  have fin : ∀ (H1 : Hp) (o : Addr) (ps : List (List Nat)), Same H H1 → H1 o = some (.lst (vT ps)) → ps.flatten = (runOne f f.begun w).1 → rJoin K (.str (Str.ofString "")) [.ref o] H1 Q := fun H1 o ps s1 ho hps => by
    refine w_joinT (sqL_at ho) ?_ ?_
    · rw [hps]
      have := runOne_len f f.begun w
      omega
    · rw [hps]
      exact q H1 s1
  cases f with
  | hears u v =>
    have hs' : SqT K H a [.str "hears", .str (sg u), .str (sg v)] := hs
    walk_at "w"
    refine ⟨szOk 0, fun o no => ?_⟩
    walk_at "w"
    refine for_it (walk_str (z := tx w)) (fun i σ H1 => ∃ (y6 : Option V) (ps : List (List Nat)), σ = [some (.ref a), some (.str (tx w)), some (.str "hears"), some (.str (sg u)), some (.str (sg v)), some (.ref o), y6] ∧ Same H H1 ∧ H1 o = some (.lst (vT ps)) ∧ ps.length = i ∧ ps.flatten = (runOne (.hears u v) (Folk.hears u v).begun (w.take i)).1) ?_ (fun _ _ _ _ _ => trivial) ?_ ?_
    · exact ⟨none, [], rfl, same_new no, upd_same, rfl, rfl⟩
    · rintro i y σ H1 H1' hi ⟨y6, ps, rfl, s1, ho, hl, hps⟩ ⟨rfl, c, hc, rfl⟩
      have hc' : w[i]? = some c := by rw [← Array.getElem?_toList] at hc; exact hc
      have hiw : i < w.length := (List.getElem?_eq_some_iff.mp hc').1
      walk_at "w"
      refine w_dT rfl ?_
      walk_at "w"
      have hz : (vT ps).length < sizeLine := szLt _ (by rw [List.length_map]; omega)
      have put : ∀ t, (stepOne (.hears u v) (runOne (.hears u v) (Folk.hears u v).begun (w.take i)).2 c).1 = [t] → ∃ (y6 : Option V) (ps' : List (List Nat)), [some (.ref a), some (.str (tx w)), some (.str "hears"), some (.str (sg u)), some (.str (sg v)), some (.ref o), some (.str (sg c))] = [some (.ref a), some (.str (tx w)), some (.str "hears"), some (.str (sg u)), some (.str (sg v)), some (.ref o), y6] ∧ Same H (upd H1' o (.lst (vT ps ++ [.str (sg t)]))) ∧ (upd H1' o (.lst (vT ps ++ [.str (sg t)]))) o = some (.lst (vT ps')) ∧ ps'.length = i + 1 ∧ ps'.flatten = (runOne (.hears u v) (Folk.hears u v).begun (w.take (i + 1))).1 := fun t ht =>
        ⟨_, ps ++ [[t]], rfl, same_mut s1 no, by rw [upd_same]; unfold vT; rw [List.map_append]; rfl, by rw [List.length_append, hl]; rfl, by rw [snoc i c hc', List.flatten_append, hps, ht]; simp⟩
      refine w_ifB (fun e => ?_) (fun e => ?_)
      · walk_at "w"
        refine w_append ho hz ?_
        walk_at "w"
        have e' : c = u := sg_inj (bT e)
        exact put v (by show [if c = u then v else c] = [v]; rw [if_pos e'])
      · walk_at "w"
        refine w_append ho hz ?_
        walk_at "w"
        have e' : ¬ c = u := fun h => (bF e) (congrArg sg h)
        exact put c (by show [if c = u then v else c] = [c]; rw [if_neg e'])
    · rintro σ H1 ⟨y6, ps, rfl, s1, ho, hl, hps⟩
      walk_at "w"
      refine fin H1 o ps s1 ho ?_
      rw [hps]
      congr 2
      exact List.take_of_length_le (Nat.le_refl _)
  | ctr tw e c0 =>
    have hs' : SqT K H a [.str (kindOf tw), .int (e : Nat), .int (c0 : Nat)] := hs
    obtain ⟨h2, h6, hc0⟩ := hf
    walk_at "w"
    refine ⟨szOk 0, fun o no => ?_⟩
    walk_at "w"
    refine for_it (walk_str (z := tx w)) (fun i σ H1 => ∃ (y6 : Option V) (ps : List (List Nat)) (acc : List Nat) (n : Nat), runOne (.ctr tw e c0) c0 (w.take i) = (acc, n) ∧ σ = [some (.ref a), some (.str (tx w)), some (.str (kindOf tw)), some (.int (e : Nat)), some (.int (n : Nat)), some (.ref o), y6] ∧ Same H H1 ∧ H1 o = some (.lst (vT ps)) ∧ ps.length ≤ i ∧ ps.flatten = acc) ?_ (fun _ _ _ _ _ => trivial) ?_ ?_
    · exact ⟨none, [], [], c0, rfl, rfl, same_new no, upd_same, Nat.le_refl _, rfl⟩
    · rintro i y σ H1 H1' hi ⟨y6, ps, acc, n, hrun, rfl, s1, ho, hl, hps⟩ ⟨rfl, c, hc, rfl⟩
      have hc' : w[i]? = some c := by rw [← Array.getElem?_toList] at hc; exact hc
      have hiw : i < w.length := (List.getElem?_eq_some_iff.mp hc').1
      have hn := snoc i c hc'
      rw [show (Folk.ctr tw e c0).begun = c0 from rfl, hrun] at hn
      have hz : (vT ps).length < sizeLine := szLt _ (by rw [List.length_map]; omega)
      have e1 : ((n : Int) + 1) % (e : Int) = (((n + 1) % e : Nat) : Int) := rfl
      have hst : stepOne (.ctr tw e c0) n c = (if (n + 1) % e = 0 then (if tw then [c, c] else []) else [c], (n + 1) % e) := rfl
      have put : ∀ (H2 : Hp) (t : List Nat), Same H H2 → H2 o = some (.lst (vT (ps ++ [t]))) → (stepOne (.ctr tw e c0) n c).1 = t → ∃ (y6 : Option V) (ps' : List (List Nat)) (acc' : List Nat) (n' : Nat), runOne (.ctr tw e c0) c0 (w.take (i + 1)) = (acc', n') ∧ [some (.ref a), some (.str (tx w)), some (.str (kindOf tw)), some (.int (e : Nat)), some (.int (((n : Int) + 1) % (e : Int))), some (.ref o), some (.str (sg c))] = [some (.ref a), some (.str (tx w)), some (.str (kindOf tw)), some (.int (e : Nat)), some (.int (n' : Nat)), some (.ref o), y6] ∧ Same H H2 ∧ H2 o = some (.lst (vT ps')) ∧ ps'.length ≤ i + 1 ∧ ps'.flatten = acc' := fun H2 t s2 h2 ht =>
        ⟨_, ps ++ [t], _, _, hn, rfl, s2, h2, by rw [List.length_append]; show ps.length + 1 ≤ i + 1; omega, by show (ps ++ [t]).flatten = acc ++ (stepOne (.ctr tw e c0) n c).1; rw [List.flatten_append, hps, ht]; simp⟩
      have vTa : ∀ t, vT (ps ++ [t]) = vT ps ++ [.str (tx t)] := fun t => by unfold vT; rw [List.map_append]; rfl
      walk_at "w"
      refine w_dF (kind_nh tw) ?_
      walk_at "w"
      refine w_ifB (fun q1 => ?_) (fun q1 => ?_)
      · have q2 : ¬ (n + 1) % e = 0 := by have := bT q1; rw [e1] at this; omega
        walk_at "w"
        refine w_append ho hz ?_
        walk_at "w"
        exact put _ [c] (same_mut s1 no) (by rw [upd_same, vTa]; rfl) (by rw [hst]; exact if_neg q2)
      · have q2 : (n + 1) % e = 0 := by have := bF q1; rw [e1] at this; omega
        walk_at "w"
        cases tw with
        | true =>
          refine w_dT rfl ?_
          walk_at "w"
          refine w_addS (szOk 2) ?_
          walk_at "w"
          refine w_append ho hz ?_
          walk_at "w"
          exact put _ [c, c] (same_mut s1 no) (by rw [upd_same, vTa]; rfl) (by rw [hst]; exact if_pos q2)
        | false =>
          refine w_dF (by decide +kernel) ?_
          walk_at "w"
          refine ⟨_, ps, _, _, hn, rfl, s1, ho, by omega, ?_⟩
          show ps.flatten = acc ++ (stepOne (.ctr false e c0) n c).1
          rw [hst]
          show ps.flatten = acc ++ (if (n + 1) % e = 0 then [] else [c])
          rw [if_pos q2, List.append_nil, hps]
    · rintro σ H1 ⟨y6, ps, acc, n, hrun, rfl, s1, ho, hl, hps⟩
      walk_at "w"
      refine fin H1 o ps s1 ho ?_
      rw [hps]
      have : w.take (tx w).cps.size = w := List.take_of_length_le (Nat.le_refl _)
      rw [this] at hrun
      show acc = (runOne (.ctr tw e c0) c0 w).1
      rw [hrun]
end
section
variable (K : PySem.W.Frag)
theorem sem_comes_out : ∀ vs H Q E, sp_comes_out K vs H Q E → t_comes_out K { nx := fun _ H' => Q .non H', rt := Q } (start ["row", "word", "one"] vs) H := by
  rintro vs H Q E ⟨x, r, w, rfl, hd, hr, hl, hw, q⟩
  show t_comes_out K _ [some x, some (.str (tx w)), none] H
  unfold t_comes_out
  obtain ⟨a, xs, rfl, hs, ha⟩ := dp_tup hd
  have hlx : xs.length = r.length := by rw [ha.len, List.length_map]
  walk_at "w"
  refine for_tup (xs := xs) (fun i σ H1 => ∃ y, σ = [some (.ref a), some (.str (tx (comes (r.take i) w))), y] ∧ Same H H1) ⟨none, rfl, Same.refl H⟩ (fun i σ H1 _ p => by obtain ⟨y, _, s⟩ := p; exact s.sqT hs) ?_ ?_
  · rintro i v σ H1 hv ⟨y, rfl, s⟩
    obtain ⟨f, hf, dd⟩ := row_get K ha hv
    walk_at "w"
    have hlen : (comes (r.take i) w).length ≤ 1000000 := by
      have h1 := comes_len2 (r.take i) w
      have h2 : 2 ^ (r.take i).length ≤ 2 ^ 6 := Nat.pow_le_pow_right (by decide) (by rw [List.length_take]; omega)
      have h3 : 2 ^ (r.take i).length * w.length ≤ 2 ^ 6 * 10000 := Nat.mul_le_mul h2 hw
      have h4 : 2 ^ 6 * 10000 ≤ 1000000 := by decide
      omega
    refine ⟨v, f, _, rfl, s.dat dd, hr f (List.mem_of_getElem? hf), hlen, fun H' s' => ?_⟩
    walk_at "w"
    have e : comes (r.take (i + 1)) w = (runOne f f.begun (comes (r.take i) w)).1 := by
      rw [List.take_add_one, hf]
      exact comes_snoc f _ w
    rw [e]
    exact ⟨_, rfl, s.trans s'⟩
  · rintro σ H1 ⟨y, rfl, s⟩
    rw [hlx, List.take_length]
    walk_at "w"
    exact q H1 s
theorem sem_out : ∀ vs H Q E, sp_out K vs H Q E → t_out K { nx := fun _ H' => Q .non H', rt := Q } (start ["row", "word"] vs) H := by
  rintro vs H Q E ⟨x, r, w, rfl, hd, hR, hw, q⟩
  show t_out K _ [some x, some (.str (tx w))] H
  unfold t_out
  walk_at "w"
  refine ⟨x, rowD r, rfl, hd, fit_row r, isRow_of hR, fun H1 s1 => ?_⟩
  walk_at "w"
  refine ⟨_, .str (tx w), rfl, .str _, fit_tx (by have := hw.1; omega), isWord_of hw, fun H2 s2 => ?_⟩
  walk_at "w"
  have hl := hR.1
  exact ⟨x, r, w, rfl, s2.dat (s1.dat hd), rok_of hR, by omega, by have := hw.1; omega, fun H3 s3 => q H3 ((s1.trans s2).trans s3)⟩
theorem sem_heard_as : ∀ vs H Q E, sp_heard_as K vs H Q E → t_heard_as K { nx := fun _ H' => Q .non H', rt := Q } (start ["row", "letter", "kind", "one", "other"] vs) H := by
  rintro vs H Q E ⟨x, r, c, rfl, hd, q⟩
  show t_heard_as K _ [some x, some (.str (sg c)), none, none, none] H
  unfold t_heard_as
  obtain ⟨a, xs, rfl, hs, ha⟩ := dp_tup hd
  have hlx : xs.length = r.length := by rw [ha.len, List.length_map]
  walk_at "w"
  refine for_tup (xs := xs) (fun i σ H1 => ∃ y2 y3 y4, σ = [some (.ref a), some (.str (sg (heardAs (r.take i) c))), y2, y3, y4] ∧ H1 = H) ⟨none, none, none, rfl, rfl⟩ (fun i σ H1 _ p => by obtain ⟨_, _, _, _, rfl⟩ := p; exact hs) ?_ ?_
  · rintro i v σ H1 hv ⟨y2, y3, y4, rfl, rfl⟩
    obtain ⟨f, hf, dd⟩ := row_get K ha hv
    obtain ⟨b, rfl, hb⟩ := folk_inv dd
    have hstep : heardAs (r.take (i + 1)) c = heard1 f (heardAs (r.take i) c) := by
      rw [List.take_add_one, hf]
      exact heardAs_snoc f _ c
    rw [hstep]
    cases f with
    | hears u v =>
      have hb' : SqT K H1 b [.str "hears", .str (sg u), .str (sg v)] := hb
      walk_at "w"
      refine w_dT rfl ?_
      walk_at "w"
      refine w_ifB (fun e => ?_) (fun e => ?_)
      · have e' : heardAs (r.take i) c = u := sg_inj (bT e)
        walk_at "w"
        rw [show heard1 (.hears u v) (heardAs (r.take i) c) = v from if_pos e']
        exact ⟨_, _, _, rfl, rfl⟩
      · have e' : ¬ heardAs (r.take i) c = u := fun h => (bF e) (congrArg sg h)
        walk_at "w"
        rw [show heard1 (.hears u v) (heardAs (r.take i) c) = heardAs (r.take i) c from if_neg e']
        exact ⟨_, _, _, rfl, rfl⟩
    | ctr tw e c0 =>
      have hb' : SqT K H1 b [.str (kindOf tw), .int (e : Nat), .int (c0 : Nat)] := hb
      walk_at "w"
      refine w_dF (kind_nh tw) ?_
      walk_at "w"
      exact ⟨_, _, _, rfl, rfl⟩
  · rintro σ H1 ⟨y2, y3, y4, rfl, rfl⟩
    rw [hlx, List.take_length]
    walk_at "w"
    exact q
theorem sem_letter_out : ∀ vs H Q E, sp_letter_out K vs H Q E → t_letter_out K { nx := fun _ H' => Q .non H', rt := Q } (start ["row", "letter"] vs) H := by
  rintro vs H Q E ⟨x, r, c, rfl, hd, hR, hc, q⟩
  show t_letter_out K _ [some x, some (.str (sg c))] H
  unfold t_letter_out
  walk_at "w"
  refine ⟨x, rowD r, rfl, hd, fit_row r, isRow_of hR, fun H1 s1 => ?_⟩
  walk_at "w"
  refine ⟨_, .str (sg c), rfl, .str _, decide_eq_true (show (sg c).length ≤ 10000 by rw [lenS_sg]; decide), ?_⟩
  rw [isLetter_sg hc]
  walk_at "w"
  refine iteF ?_
  walk_at "w"
  exact ⟨x, r, c, rfl, s1.dat hd, q H1 s1⟩
theorem sem_come_alike : ∀ vs H Q E, sp_come_alike K vs H Q E → t_come_alike K { nx := fun _ H' => Q .non H', rt := Q } (start ["row", "word", "other"] vs) H := by
  rintro vs H Q E ⟨x, r, w, w2, rfl, hd, hR, hw, hw2, q⟩
  show t_come_alike K _ [some x, some (.str (tx w)), some (.str (tx w2))] H
  unfold t_come_alike
  have hl := hR.1
  have h1 := hw.1
  have h2 := hw2.1
  walk_at "w"
  refine ⟨x, rowD r, rfl, hd, fit_row r, isRow_of hR, fun H1 s1 => ?_⟩
  walk_at "w"
  refine ⟨_, .str (tx w), rfl, .str _, fit_tx (by omega), isWord_of hw, fun H2 s2 => ?_⟩
  walk_at "w"
  refine ⟨_, .str (tx w2), rfl, .str _, fit_tx (by omega), isWord_of hw2, fun H3 s3 => ?_⟩
  have hd3 := s3.dat (s2.dat (s1.dat hd))
  walk_at "w"
  refine ⟨x, r, w, rfl, hd3, rok_of hR, by omega, by omega, fun H4 s4 => ?_⟩
  walk_at "w"
  refine ⟨x, r, w2, rfl, s4.dat hd3, rok_of hR, by omega, by omega, fun H5 s5 => ?_⟩
  refine w_eqW ?_
  exact q H5 ((((s1.trans s2).trans s3).trans s4).trans s5)
theorem sem_l_letter : ∀ vs H Q E, sp_l_letter K vs H Q E → t_l_letter K { nx := fun _ H' => Q .non H', rt := Q } (start ["bag", "wide"] vs) H := by
  rintro vs H Q E ⟨b, wide, rfl, hb, h0, h26, q⟩
  show t_l_letter K _ [some (.ref b), some (.int (wide : Nat))] H
  unfold t_l_letter
  walk_at "w"
  refine ⟨b, (wide : Int), rfl, hb, by omega, fun k H1 hk dr => ?_⟩
  refine w_ixS alpha_len (alpha_at k (by omega)) ?_
  exact q (97 + k) H1 (by omega) (by omega) dr
theorem sem_l_a_word : ∀ vs H Q E, sp_l_a_word K vs H Q E → t_l_a_word K { nx := fun _ H' => Q .non H', rt := Q } (start ["bag", "most", "wide", "turn"] vs) H := by
  rintro vs H Q E ⟨b, most, wide, rfl, hb, hm, h0, h26, q⟩
  show t_l_a_word K _ [some (.ref b), some (.int (most : Nat)), some (.int (wide : Nat)), none] H
  unfold t_l_a_word
  walk_at "w"
  refine ⟨b, (most : Int) + 1, rfl, hb, by omega, fun n H1 hn dr1 => ?_⟩
  walk_at "w"
  refine ⟨(n : Nat), rfl, by omega, by omega, fun D nD => ?_⟩
  have neD : D ≠ b := bag_ne dr1.b1 nD
  refine lc_it walk_range (fun i H2 => ∃ w : List Nat, Dr K b H1 H2 ∧ H2 D = some (.lst (vS w)) ∧ w.length = i ∧ ∀ c ∈ w, 97 ≤ c ∧ c < 97 + wide) ⟨[], .of_same (same_new nD) dr1.b1, upd_same, rfl, fun c hc => by cases hc⟩ (fun _ _ _ _ => trivial) ?_ ?_
  · rintro i x H2 H2' hi ⟨w, dr2, hD, hl, hw⟩ ⟨rfl, rfl⟩
    rw [Int.toNat_natCast] at hi
    show gName 3 _ [some (.ref b), some (.int (most : Nat)), some (.int (wide : Nat)), none] _ _
    walk_at "w"
    refine ⟨rfl, ?_⟩
    walk_at "w"
    refine ⟨b, wide, rfl, dr2.b1, h0, h26, fun c H3 hc1 hc2 dr3 => ?_⟩
    have hD3 : H3 D = some (.lst (vS w)) := dr3.at hD neD
    refine ⟨_, hD3, szLt _ (by rw [List.length_map]; omega), w ++ [c], (dr2.trans dr3).mut nD (bag_mut K dr3.b1 hD3 (by rw [List.length_map]; omega) neD), by rw [upd_same]; unfold vS; rw [List.map_append]; rfl, by rw [List.length_append, hl]; rfl, fun d hd => ?_⟩
    rcases List.mem_append.mp hd with hd | hd
    · exact hw d hd
    · rw [List.mem_singleton.mp hd]; exact ⟨hc1, hc2⟩
  · rintro H2 ⟨w, dr2, hD, hl, hw⟩
    rw [Int.toNat_natCast] at hl
    walk_at "w"
    have e : vS w = (w.map sg).map V.str := by rw [List.map_map]; rfl
    refine w_joinQ (w.map sg) (sqL_at (by rw [hD, e])) ?_ ?_
    · rw [sum_ones, show (Str.ofString "").length = 0 by decide +kernel, Nat.mul_zero]
      omega
    · rw [join_strs, flat_sg]
      exact q w H2 (by omega) hw (dr1.trans dr2)
theorem sem_l_comes : ∀ vs H Q E, sp_l_comes K vs H Q E → t_l_comes K { nx := fun _ H' => Q .non H', rt := Q } (start ["house", "word", "counts", "found", "sign"] vs) H := by
  rintro vs H Q E ⟨x, r, w, rfl, hd, hr, hl, hw, q⟩
  show t_l_comes K _ [some x, some (.str (tx w)), none, none, none] H
  unfold t_l_comes
  walk_at "w"
  refine ⟨x, r, rfl, hd, by omega, fun H1 cl s1 ncl hcl => ?_⟩
  walk_at "w"
  refine ⟨szOk 0, fun fo nfo => ?_⟩
  have ncl2 : cl ≠ fo := ne_of_none hcl nfo
  walk_at "w"
  have hd1 := s1.dat hd
  refine for_it (walk_str (z := tx w)) (fun i σ H2 => ∃ y4, σ = [some x, some (.str (tx w)), some (.ref cl), some (.ref fo), y4] ∧ Same H H2 ∧ H2 cl = some (.lst (vI (feed r (begun r) (w.take i)).2)) ∧ H2 fo = some (.lst (vT (feed r (begun r) (w.take i)).1))) ?_ (fun _ _ _ _ _ => trivial) ?_ ?_
  · exact ⟨none, rfl, s1.trans (same_new nfo), (same_new nfo) _ _ hcl, upd_same⟩
  · rintro i y σ H2 H2' hi ⟨y4, rfl, s2, hc2, hf2⟩ ⟨rfl, c, hc, rfl⟩
    have hc' : w[i]? = some c := by rw [← Array.getElem?_toList] at hc; exact hc
    have hiw : i < w.length := (List.getElem?_eq_some_iff.mp hc').1
    walk_at "w"
    have hfl : (feed r (begun r) (w.take i)).2.length = r.length := by
      have := congrArg Prod.snd (feed_told r (w.take i) (begun r))
      rw [show (feed r (begun r) (w.take i)).2 = (told r (begun r) (w.take i)).2 from this, told_len, begun_len]
    refine ⟨x, r, cl, _, c, rfl, s2.dat hd, hr, hl, hfl, hc2, fun H3 m3 hc3 => ?_⟩
    have hf3 : H3 fo = some (.lst (vT (feed r (begun r) (w.take i)).1)) := m3.but _ _ ncl2.symm hf2
    have hfl1 : (feed r (begun r) (w.take i)).1.length = min i w.length := by rw [feed_len, List.length_take]
    walk_at "w"
    refine w_append hf3 (szLt _ (by rw [List.length_map]; omega)) ?_
    walk_at "w"
    have e : feed r (begun r) (w.take (i + 1)) = ((feed r (begun r) (w.take i)).1 ++ [(told r (feed r (begun r) (w.take i)).2 [c]).1], (told r (feed r (begun r) (w.take i)).2 [c]).2) := by
      rw [List.take_add_one, hc']
      exact feed_app r _ [c] _
    refine ⟨_, rfl, same_mut (fun p o e => m3.but p o (ne_of_none e ncl) (s2 _ _ e)) (s1.free nfo), ?_, ?_⟩
    · rw [upd_ne ncl2, e]; exact hc3
    · rw [upd_same, e]; unfold vT; rw [List.map_append]; rfl
  · rintro σ H2 ⟨y4, rfl, s2, hc2, hf2⟩
    have : w.take (tx w).cps.size = w := List.take_of_length_le (Nat.le_refl _)
    rw [this] at hf2
    walk_at "w"
    refine w_joinT (sqL_at hf2) ?_ ?_
    · rw [← comes_feed]
      have h1 := comes_len2 r w
      have h2 : 2 ^ r.length ≤ 2 ^ 6 := Nat.pow_le_pow_right (by decide) hl
      have h3 : 2 ^ r.length * w.length ≤ 2 ^ 6 * 10000 := Nat.mul_le_mul h2 hw
      have h4 : 2 ^ 6 * 10000 ≤ 1000000 := by decide
      omega
    · rw [← comes_feed]
      exact q H2 s2
end
end HH

namespace HH
open PySem PySem.Spec L2
/-! ### when it goes round -/
/-- so many signs more, so many more come -/
def Per (A : Nat → Nat) (s t : Nat) : Prop := ∀ n, A (n + s) = A n + t
theorem Per.mul {A : Nat → Nat} {s t : Nat} (h : Per A s t) : ∀ k, Per A (s * k) (t * k)
  | 0, n => rfl
  | k + 1, n => by
    rw [Nat.mul_succ, Nat.mul_succ, ← Nat.add_assoc, h, h.mul k n, Nat.add_assoc]
def wr : Row → Nat → Nat → Nat × Nat
  | [], s, t => (s, t)
  | .hears _ _ :: r, s, t => wr r s t
  | .ctr tw e _ :: r, s, t => wr r (s * (e / Nat.gcd t e)) (passed (.ctr tw e 0) (t * (e / Nat.gcd t e)))
def whole (r : Row) : Nat := (wr r 1 1).1
theorem pas0 {tw : Bool} {e : Nat} (he : 2 ≤ e) (x : Nat) : passed (.ctr tw e 0) (e * x) = if tw then e * x + x else e * x - x := by
  show (if tw then e * x + (e * x + 0) / e else e * x - (e * x + 0) / e) = _
  rw [Nat.add_zero, Nat.mul_div_cancel_left x (by omega)]
theorem pas_per {tw : Bool} {e c : Nat} (he : 2 ≤ e) (hc : c < e) (n x : Nat) : passed (.ctr tw e c) (n + e * x) = passed (.ctr tw e c) n + passed (.ctr tw e 0) (e * x) := by
  rw [pas0 he]
  have e1 : (n + e * x + c) / e = (n + c) / e + x := by
    rw [show n + e * x + c = (n + c) + e * x by omega, Nat.add_mul_div_left _ _ (by omega)]
  have h1 := div_le_self' (n := n) he hc
  have h2 : x ≤ e * x := Nat.le_mul_of_pos_left x (by omega)
  cases tw with
  | true =>
    show n + e * x + (n + e * x + c) / e = n + (n + c) / e + (e * x + x)
    omega
  | false =>
    show n + e * x - (n + e * x + c) / e = n - (n + c) / e + (e * x - x)
    omega
theorem pas0_mul {tw : Bool} {e : Nat} (he : 2 ≤ e) (x k : Nat) : passed (.ctr tw e 0) (e * x * k) = passed (.ctr tw e 0) (e * x) * k := by
  rw [Nat.mul_assoc, pas0 he, pas0 he]
  cases tw with
  | true =>
    show e * (x * k) + x * k = (e * x + x) * k
    rw [Nat.add_mul, Nat.mul_assoc]
  | false =>
    show e * (x * k) - x * k = (e * x - x) * k
    rw [Nat.sub_mul, Nat.mul_assoc]
theorem gcd_mul {t e : Nat} (he : 0 < e) : t * (e / Nat.gcd t e) = e * (t / Nat.gcd t e) := by
  have h1 := Nat.div_mul_cancel (Nat.gcd_dvd_right t e)
  have h2 := Nat.div_mul_cancel (Nat.gcd_dvd_left t e)
  generalize Nat.gcd t e = g at *
  calc t * (e / g) = (t / g * g) * (e / g) := by rw [h2]
    _ = (e / g * g) * (t / g) := by ac_rfl
    _ = e * (t / g) := by rw [h1]
theorem wr_per : ∀ (r : Row) (s t : Nat) (A : Nat → Nat), rok r → Per A s t → Per (fun n => allCome r (A n)) (wr r s t).1 (wr r s t).2
  | [], s, t, A, _, h => h
  | .hears a b :: r, s, t, A, hr, h => wr_per r s t A (rok_tail hr) h
  | .ctr tw e c :: r, s, t, A, hr, h => by
    have hf : fok (.ctr tw e c) := hr _ List.mem_cons_self
    refine wr_per r _ _ (fun n => passed (.ctr tw e c) (A n)) (rok_tail hr) fun n => ?_
    show passed (.ctr tw e c) (A (n + s * (e / Nat.gcd t e))) = _
    rw [h.mul (e / Nat.gcd t e) n, gcd_mul (by have := hf.1; omega), pas_per hf.1 hf.2.2]
theorem wr_dvd : ∀ (r : Row) (s t : Nat), s ∣ (wr r s t).1
  | [], s, t => Nat.dvd_refl s
  | .hears a b :: r, s, t => wr_dvd r s t
  | .ctr tw e c :: r, s, t => Nat.dvd_trans (Nat.dvd_mul_right _ _) (wr_dvd r _ _)
theorem wr_bound : ∀ (r : Row) (s t : Nat), rok r → 1 ≤ s → 1 ≤ t → (1 ≤ (wr r s t).1 ∧ (wr r s t).1 ≤ s * 6 ^ r.length) ∧ 1 ≤ (wr r s t).2
  | [], s, t, _, hs, ht => ⟨⟨hs, by show s ≤ s * 1; omega⟩, ht⟩
  | .hears a b :: r, s, t, hr, hs, ht => by
    have ih := wr_bound r s t (rok_tail hr) hs ht
    refine ⟨⟨ih.1.1, Nat.le_trans ih.1.2 (Nat.mul_le_mul_left s ?_)⟩, ih.2⟩
    show 6 ^ r.length ≤ 6 ^ (r.length + 1)
    exact Nat.pow_le_pow_right (by decide) (by omega)
  | .ctr tw e c :: r, s, t, hr, hs, ht => by
    have hf : fok (.ctr tw e c) := hr _ List.mem_cons_self
    have hg : 0 < Nat.gcd t e := Nat.gcd_pos_of_pos_left e (by omega)
    have hm : 0 < e / Nat.gcd t e := Nat.div_pos (Nat.gcd_le_right t (by have := hf.1; omega)) hg
    have hm6 : e / Nat.gcd t e ≤ 6 := Nat.le_trans (Nat.div_le_self _ _) hf.2.1
    have h1 : 1 ≤ s * (e / Nat.gcd t e) := Nat.mul_pos (by omega) hm
    have hx : 0 < t / Nat.gcd t e := Nat.div_pos (Nat.gcd_le_left e (by omega)) hg
    have h2 : 1 ≤ passed (.ctr tw e 0) (t * (e / Nat.gcd t e)) := by
      rw [gcd_mul (by have := hf.1; omega), pas0 hf.1]
      have h3 : 2 * (t / Nat.gcd t e) ≤ e * (t / Nat.gcd t e) := Nat.mul_le_mul_right _ hf.1
      split <;> omega
    have ih := wr_bound r _ _ (rok_tail hr) h1 h2
    refine ⟨⟨ih.1.1, Nat.le_trans ih.1.2 ?_⟩, ih.2⟩
    show s * (e / Nat.gcd t e) * 6 ^ r.length ≤ s * 6 ^ (r.length + 1)
    rw [Nat.pow_succ, Nat.mul_comm (6 ^ r.length) 6, ← Nat.mul_assoc]
    exact Nat.mul_le_mul_right _ (Nat.mul_le_mul_left _ hm6)
theorem whole_pos {r : Row} (h : rok r) : 1 ≤ whole r := (wr_bound r 1 1 h (Nat.le_refl 1) (Nat.le_refl 1)).1.1
theorem whole_le {r : Row} (h : rok r) (hl : r.length ≤ 4) : whole r ≤ 1296 := by
  have h1 := (wr_bound r 1 1 h (Nat.le_refl 1) (Nat.le_refl 1)).1.2
  have h2 : 6 ^ r.length ≤ 6 ^ 4 := Nat.pow_le_pow_right (by decide) hl
  have h3 : 6 ^ 4 = 1296 := rfl
  show (wr r 1 1).1 ≤ 1296
  omega
/-- of sign i, counted from none, so many come -/
def dl (r : Row) (i : Nat) : Nat := allCome r (i + 1) - allCome r i
def PerD (r : Row) (k : Nat) : Prop := ∀ i, dl r (i + k) = dl r i
theorem allCome_succ {r : Row} (h : rok r) (n : Nat) : allCome r (n + 1) = allCome r n + dl r n := by
  have : allCome r n ≤ allCome r (n + 1) := allCome_mono h (Nat.le_succ n)
  unfold dl
  omega
theorem perD_per {r : Row} (h : rok r) {k : Nat} (p : PerD r k) : Per (allCome r) k (allCome r k) := by
  intro n
  induction n with
  | zero => rw [Nat.zero_add, allCome_zero h, Nat.zero_add]
  | succ n ih => rw [show n + 1 + k = (n + k) + 1 by omega, allCome_succ h, ih, p, allCome_succ h]; omega
theorem per_perD {r : Row} {k t : Nat} (p : Per (allCome r) k t) : PerD r k := by
  intro i
  have h1 := p i
  have h2 := p (i + 1)
  unfold dl
  rw [show i + k + 1 = i + 1 + k by omega, h1, h2]
  omega
theorem perD_whole {r : Row} (h : rok r) : PerD r (whole r) := per_perD (wr_per r 1 1 id h fun _ => rfl)
theorem PerD.mul {r : Row} {k : Nat} (h : PerD r k) : ∀ j, PerD r (k * j)
  | 0, i => rfl
  | j + 1, i => by rw [Nat.mul_succ, ← Nat.add_assoc, h, h.mul j i]
theorem PerD.mod {r : Row} {k : Nat} (h : PerD r k) (i : Nat) : dl r (i % k) = dl r i := by
  have := h.mul (i / k) (i % k)
  rw [Nat.mod_add_div] at this
  exact this.symm
def IsLeast (r : Row) (p : Nat) : Prop := 1 ≤ p ∧ PerD r p ∧ ∀ k, PerD r k → p ∣ k
theorem least_of_min {r : Row} {p : Nat} (h1 : 1 ≤ p) (hp : PerD r p) (hm : ∀ k, 1 ≤ k → k < p → ¬ PerD r k) : IsLeast r p := by
  refine ⟨h1, hp, fun k hk => ?_⟩
  have h2 : PerD r (k % p) := fun i => by
    have h3 := hp.mul (k / p) (i + k % p)
    rw [show i + k % p + p * (k / p) = i + k by rw [Nat.add_assoc, Nat.mod_add_div]] at h3
    rw [← h3, hk]
  rcases Nat.eq_zero_or_pos (k % p) with h | h
  · exact Nat.dvd_of_mod_eq_zero h
  · exact absurd h2 (hm _ h (Nat.mod_lt _ (by omega)))
theorem least_ex {r : Row} : ∀ (n : Nat) {k : Nat}, k ≤ n → 1 ≤ k → PerD r k → ∃ p, IsLeast r p
  | 0, k, h, h1, _ => by omega
  | n + 1, k, h, h1, hk => by
    by_cases hm : ∃ j, 1 ≤ j ∧ j < k ∧ PerD r j
    · obtain ⟨j, j1, j2, j3⟩ := hm
      exact least_ex n (by omega) j1 j3
    · exact ⟨k, least_of_min h1 hk fun j j1 j2 j3 => hm ⟨j, j1, j2, j3⟩⟩
theorem least_uniq {r : Row} {p q : Nat} (hp : IsLeast r p) (hq : IsLeast r q) : p = q := Nat.dvd_antisymm (hp.2.2 q hq.2.1) (hq.2.2 p hp.2.1)
noncomputable def lp (r : Row) : Nat := @dite _ (∃ p, IsLeast r p) (Classical.propDecidable _) (fun h => Classical.choose h) (fun _ => 0)
theorem lp_spec {r : Row} (h : rok r) : IsLeast r (lp r) := by
  have e : ∃ p, IsLeast r p := least_ex _ (Nat.le_refl _) (whole_pos h) (perD_whole h)
  unfold lp
  rw [dif_pos e]
  exact Classical.choose_spec e
theorem lp_eq {r : Row} (h : rok r) {p : Nat} (hp : IsLeast r p) : lp r = p := least_uniq (lp_spec h) hp
/-- the steps -/
def stp' (r : Row) (n : Nat) : List Nat := (List.range n).map (dl r)
theorem stp_len (r : Row) (n : Nat) : (stp' r n).length = n := by unfold stp'; rw [List.length_map, List.length_range]
theorem stp_get (r : Row) {n i : Nat} (h : i < n) : (stp' r n)[i]? = some (dl r i) := by
  unfold stp'
  rw [List.getElem?_map, List.getElem?_range h]
  rfl
theorem ext_get {a b : List Nat} {n : Nat} (ha : a.length = n) (hb : b.length = n) (h : ∀ i, i < n → a[i]? = b[i]?) : a = b := by
  apply List.ext_getElem?
  intro i
  rcases Nat.lt_or_ge i n with h1 | h1
  · exact h i h1
  · rw [List.getElem?_eq_none (by omega), List.getElem?_eq_none (by omega)]
theorem copies_len (r : Row) (n : Nat) : (copies r n).length = n := by
  unfold copies
  rw [List.length_map, feed_len]
  exact List.length_replicate
theorem copies_stp {r : Row} (h : rok r) (n : Nat) : copies r n = stp' r n := by
  refine ext_get (copies_len r n) (stp_len r n) fun i hi => ?_
  rw [stp_get r hi]
  have h1 := copies_sum h i n (by omega)
  have h2 := copies_sum h (i + 1) n (by omega)
  have hi' : i < (copies r n).length := by rw [copies_len]; exact hi
  rw [List.take_add_one, List.getElem?_eq_getElem hi', List.sum_append, h1] at h2
  rw [List.getElem?_eq_getElem hi']
  have h3 : ([(copies r n)[i]] : List Nat).sum = (copies r n)[i] := by simp
  rw [show (some (copies r n)[i]).toList = [(copies r n)[i]] from rfl, h3] at h2
  congr 1
  unfold dl
  omega
theorem rot_iff {r : Row} {W k : Nat} (hW : PerD r W) (hk : k ≤ W) : (stp' r W).drop k ++ (stp' r W).take k = stp' r W ↔ PerD r k := by
  have hl : ((stp' r W).drop k).length = W - k := by rw [List.length_drop, stp_len]
  have hg : ∀ i, i < W → ((stp' r W).drop k ++ (stp' r W).take k)[i]? = some (dl r (i + k)) := by
    intro i hi
    rcases Nat.lt_or_ge i (W - k) with h | h
    · rw [List.getElem?_append_left (by omega), List.getElem?_drop, stp_get r (by omega), Nat.add_comm]
    · rw [List.getElem?_append_right (by omega), hl, List.getElem?_take_of_lt (by omega), stp_get r (by omega)]
      have := hW (i - (W - k))
      rw [show i - (W - k) + W = i + k by omega] at this
      rw [this]
  refine ⟨fun e i => ?_, fun h => ?_⟩
  · rcases Nat.eq_zero_or_pos W with h0 | h0
    · have : k = 0 := by omega
      rw [this]; rfl
    · have hi : i % W < W := Nat.mod_lt _ h0
      have h1 := hg (i % W) hi
      rw [e, stp_get r hi] at h1
      have h2 : dl r (i % W) = dl r (i % W + k) := Option.some.inj h1
      rw [hW.mod] at h2
      rw [h2]
      have h3 := hW.mul (i / W) (i % W + k)
      rw [show i % W + k + W * (i / W) = i + k by have := Nat.mod_add_div i W; omega] at h3
      exact h3
  · refine ext_get (by rw [List.length_append, hl, List.length_take, stp_len]; omega) (stp_len r W) fun i hi => ?_
    rw [hg i hi, stp_get r hi, h]
theorem cut_iff {r : Row} {S k : Nat} (hS : PerD r S) (h1 : 1 ≤ S) (n : Nat) (hn : S + k ≤ n) : ((stp' r n).take (k + S)).drop k = (stp' r n).take S ↔ PerD r k := by
  have e2 : (stp' r n).take S = stp' r S := by
    refine ext_get (by rw [List.length_take, stp_len]; omega) (stp_len r S) fun i hi => ?_
    rw [List.getElem?_take_of_lt hi, stp_get r (by omega), stp_get r hi]
  have hg : ∀ i, i < S → (((stp' r n).take (k + S)).drop k)[i]? = some (dl r (i + k)) := by
    intro i hi
    rw [List.getElem?_drop, List.getElem?_take_of_lt (by omega), stp_get r (by omega), Nat.add_comm]
  rw [e2]
  refine ⟨fun e i => ?_, fun h => ?_⟩
  · have hi : i % S < S := Nat.mod_lt _ h1
    have h2 := hg (i % S) hi
    rw [e, stp_get r hi] at h2
    have h3 : dl r (i % S) = dl r (i % S + k) := Option.some.inj h2
    rw [hS.mod] at h3
    rw [h3]
    have h4 := hS.mul (i / S) (i % S + k)
    rw [show i % S + k + S * (i / S) = i + k by have := Nat.mod_add_div i S; omega] at h4
    exact h4
  · refine ext_get (by rw [List.length_drop, List.length_take, stp_len]; omega) (stp_len r S) fun i hi => ?_
    rw [hg i hi, stp_get r hi, h]
/-- the counts behind n signs -/
def cn (r : Row) (n : Nat) : List Nat := (feed r (begun r) (qs n)).2
theorem cn_succ (r : Row) (n : Nat) : cn r (n + 1) = (told r (cn r n) [113]).2 := by
  unfold cn
  rw [show qs (n + 1) = qs n ++ [113] from List.replicate_succ', feed_app]
  rfl
theorem copies_succ (r : Row) (n : Nat) : copies r (n + 1) = copies r n ++ [(told r (cn r n) [113]).1.length] := by
  unfold copies cn
  rw [show qs (n + 1) = qs n ++ [113] from List.replicate_succ', feed_app, List.map_append]
  rfl
theorem dl_cn {r : Row} (h : rok r) (n : Nat) : dl r n = (told r (cn r n) [113]).1.length := by
  have h1 := copies_stp h (n + 1)
  have h2 := stp_get r (Nat.lt_succ_self n)
  rw [← h1, copies_succ, List.getElem?_append_right (by rw [copies_len]; exact Nat.le_refl n), copies_len, Nat.sub_self] at h2
  exact (Option.some.inj h2).symm
theorem cn_back {r : Row} {M : Nat} (h : cn r M = begun r) : ∀ i, cn r (i + M) = cn r i
  | 0 => by rw [Nat.zero_add, h]; rfl
  | i + 1 => by
    rw [show i + 1 + M = (i + M) + 1 by omega, cn_succ, cn_back h i, ← cn_succ]
theorem perD_back {r : Row} (hr : rok r) {M : Nat} (h : cn r M = begun r) : PerD r M := fun i => by
  rw [dl_cn hr, dl_cn hr, cn_back h]
/-- the counts behind n signs, one behind the other -/
def cnr : Row → Nat → List Nat
  | [], _ => []
  | .hears a b :: r, n => 0 :: cnr r n
  | .ctr tw e c :: r, n => (c + n) % e :: cnr r (passed (.ctr tw e c) n)
theorem told_cnr : ∀ {r : Row}, rok r → ∀ ss : List Nat, (told r (begun r) ss).2 = cnr r ss.length
  | [], _, _ => rfl
  | .hears a b :: r, h, ss => by
    show (runOne (.hears a b) 0 ss).2 :: (told r (begun r) (runOne (.hears a b) 0 ss).1).2 = 0 :: cnr r ss.length
    rw [told_cnr (rok_tail h), run_hears, List.length_map]
  | .ctr tw e c :: r, h, ss => by
    have hf : fok (.ctr tw e c) := h _ List.mem_cons_self
    have := run_ctr tw e hf.1 c ss c hf.2.2
    show (runOne (.ctr tw e c) c ss).2 :: (told r (begun r) (runOne (.ctr tw e c) c ss).1).2 = _
    rw [told_cnr (rok_tail h), this.1, this.2.1]
    rfl
theorem cn_cnr {r : Row} (h : rok r) (n : Nat) : cn r n = cnr r n := by
  have h1 : cn r n = (told r (begun r) (qs n)).2 := congrArg Prod.snd (feed_told r (qs n) (begun r))
  rw [h1, told_cnr h]
  congr 1
  exact List.length_replicate
theorem cnr_whole : ∀ {r : Row}, rok r → ∀ (s t j : Nat), 1 ≤ s → (wr r s t).1 ∣ s * j → cnr r (t * j) = begun r
  | [], _, _, _, _, _, _ => rfl
  | .hears a b :: r, h, s, t, j, hs, hd => by
    show 0 :: cnr r (t * j) = 0 :: begun r
    rw [cnr_whole (rok_tail h) s t j hs hd]
  | .ctr tw e c :: r, h, s, t, j, hs, hd => by
    have hf : fok (.ctr tw e c) := h _ List.mem_cons_self
    have h1 : s * (e / Nat.gcd t e) ∣ s * j := Nat.dvd_trans (wr_dvd r _ _) hd
    have h2 : (e / Nat.gcd t e) ∣ j := Nat.dvd_of_mul_dvd_mul_left (by omega) h1
    obtain ⟨x, rfl⟩ := h2
    have e1 : t * (e / Nat.gcd t e * x) = e * (t / Nat.gcd t e) * x := by rw [← Nat.mul_assoc, gcd_mul (by have := hf.1; omega)]
    have hm : 0 < e / Nat.gcd t e := Nat.div_pos (Nat.gcd_le_right t (by have := hf.1; omega)) (Nat.gcd_pos_of_pos_right t (by have := hf.1; omega))
    show (c + t * (e / Nat.gcd t e * x)) % e :: cnr r (passed (.ctr tw e c) (t * (e / Nat.gcd t e * x))) = c :: begun r
    have e2 : passed (.ctr tw e c) (t * (e / Nat.gcd t e * x)) = passed (.ctr tw e 0) (t * (e / Nat.gcd t e)) * x := by
      have := pas_per (tw := tw) hf.1 hf.2.2 0 (t / Nat.gcd t e * x)
      rw [passed_zero hf, Nat.zero_add, Nat.zero_add] at this
      rw [e1, Nat.mul_assoc, this, gcd_mul (by have := hf.1; omega), ← Nat.mul_assoc, pas0_mul hf.1]
    rw [e2, cnr_whole (rok_tail h) (s * (e / Nat.gcd t e)) _ x (Nat.mul_pos (by omega) hm) (by rw [Nat.mul_assoc]; exact hd)]
    rw [e1, Nat.mul_assoc, Nat.add_mul_mod_self_left, Nat.mod_eq_of_lt hf.2.2]
theorem cn_whole {r : Row} (h : rok r) : cn r (whole r) = begun r := by
  rw [cn_cnr h]
  have := cnr_whole h 1 1 (whole r) (Nat.le_refl 1) (by rw [Nat.one_mul]; exact Nat.dvd_refl _)
  rw [Nat.one_mul] at this
  exact this
end HH

namespace HH
open PySem PySem.Spec L2
local macro_rules | `(tactic| walk_at "cy") => `(tactic| first
  | assumption
  | exact L2.upd_same
  | exact L2.sqL_new
  | exact L2.sqT_new
  | exact L2.sqL_at (by assumption)
  | exact L2.sqT_at (by assumption)
  | (refine' L2.Same.seq (by assumption) ?k0; (case k0 => walk_at "cy"))
  | (refine' L2.Same.sqT (by assumption) ?k0; (case k0 => walk_at "cy"))
  | (refine' L2.Same.dat (by assumption) ?k0; (case k0 => walk_at "cy"))
  | (refine' (by assumption : L2.Same _ _) _ _ ?k0; (case k0 => walk_at "cy"))
  | (refine' L2.Same.seq (L2.same_new (by assumption)) ?k0; (case k0 => walk_at "cy"))
  | (refine' L2.Same.sqT (L2.same_new (by assumption)) ?k0; (case k0 => walk_at "cy"))
  | (refine' L2.Same.dat (L2.same_new (by assumption)) ?k0; (case k0 => walk_at "cy"))
  | (refine' L2.same_new (by assumption) _ _ ?k0; (case k0 => walk_at "cy"))
  | (refine' L2.Mv.sqT (by assumption) ?k0; (case k0 => walk_at "cy")))
local macro_rules | `(tactic| walk_at "w") => `(tactic| repeat (first
  | refine HH.stp ?_
  | with_reducible refine L2.iteT ?_
  | with_reducible refine L2.iteF ?_
  | ((with_reducible refine' HH.w_gtup ?k1 ?k2 ?_); (case k1 => walk_at "cy"); (case k2 => exact rfl))
  | ((with_reducible refine' HH.w_ixT ?k1 ?k2 ?_); (case k1 => walk_at "cy"); (case k2 => exact rfl))
  | ((with_reducible refine' HH.w_ixL ?k1 ?k2 ?_); (case k1 => walk_at "cy"); (case k2 => exact rfl))
  | ((with_reducible refine' HH.w_lenL ?k1 ?_); (case k1 => walk_at "cy"))
  | ((with_reducible refine' HH.w_lenT ?k1 ?_); (case k1 => walk_at "cy"))
  | ((with_reducible refine' HH.w_exT ?k1 ?_); (case k1 => walk_at "cy"))
  | ((with_reducible refine' HH.w_exL ?k1 ?_); (case k1 => walk_at "cy"))
  | ((with_reducible refine' HH.w_tyL ?k1 ?_); (case k1 => walk_at "cy"))
  | ((with_reducible refine' HH.w_setL ?k1 ?k2 ?_); (case k1 => walk_at "cy"); (case k2 => exact rfl))
  | ((with_reducible refine' HH.w_modI ?k1 ?_); (case k1 => first | (with_reducible assumption) | omega))
  | ((with_reducible refine' HH.w_divI ?k1 ?_); (case k1 => (constructor <;> omega)))))
local macro_rules | `(tactic| walk_at "v") => `(tactic| ((repeat ((fail_if_success (with_reducible refine HH.isIf ?_)); first
  | refine HH.stp ?_
  | with_reducible refine L2.iteT ?_
  | with_reducible refine L2.iteF ?_
  | ((with_reducible refine' HH.w_gtup ?k1 ?k2 ?_); (case k1 => walk_at "cy"); (case k2 => exact rfl))
  | ((with_reducible refine' HH.w_ixT ?k1 ?k2 ?_); (case k1 => walk_at "cy"); (case k2 => exact rfl))
  | ((with_reducible refine' HH.w_ixL ?k1 ?k2 ?_); (case k1 => walk_at "cy"); (case k2 => exact rfl))
  | ((with_reducible refine' HH.w_lenL ?k1 ?_); (case k1 => walk_at "cy"))
  | ((with_reducible refine' HH.w_lenT ?k1 ?_); (case k1 => walk_at "cy"))
  | ((with_reducible refine' HH.w_exT ?k1 ?_); (case k1 => walk_at "cy"))
  | ((with_reducible refine' HH.w_exL ?k1 ?_); (case k1 => walk_at "cy"))
  | ((with_reducible refine' HH.w_tyL ?k1 ?_); (case k1 => walk_at "cy"))
  | ((with_reducible refine' HH.w_setL ?k1 ?k2 ?_); (case k1 => walk_at "cy"); (case k2 => exact rfl))
  | ((with_reducible refine' HH.w_modI ?k1 ?_); (case k1 => first | (with_reducible assumption) | omega))
  | ((with_reducible refine' HH.w_divI ?k1 ?_); (case k1 => (constructor <;> omega)))))); (try (with_reducible refine HH.isIf ?_)))
/-! ### lists of numbers compared -/
def dI (cs : List Nat) : List PyData := cs.map fun c => .int (c : Nat)
theorem dI_dp {K : PySem.W.Frag} {H : Hp} : ∀ cs : List Nat, DpAll K H (vI cs) (dI cs)
  | [] => .nil
  | c :: cs => .cons (.int _) (dI_dp cs)
theorem dI_lay : ∀ cs : List Nat, PyData.canLayAll0 (dI cs) = true
  | [] => rfl
  | c :: cs => by
    show (true && PyData.canLayAll0 (dI cs)) = true
    rw [dI_lay cs]
    rfl
theorem dI_depth : ∀ cs : List Nat, PyData.depthAll (dI cs) = 0
  | [] => rfl
  | c :: cs => by
    show max 0 (PyData.depthAll (dI cs)) = 0
    rw [dI_depth cs]
    rfl
theorem dI_eqv : ∀ a b : List Nat, PyData.eqvAll (dI a) (dI b) = bD (a = b)
  | [], [] => (bD_t rfl).symm
  | x :: a, y :: b => by
    show (((x : Int) == (y : Int)) && PyData.eqvAll (dI a) (dI b)) = _
    rw [dI_eqv a b]
    by_cases h : x = y
    · subst h
      rw [show ((x : Int) == (x : Int)) = true from beq_self_eq_true _, Bool.true_and]
      exact bD_congr ⟨fun h => by rw [h], fun h => (List.cons.inj h).2⟩
    · rw [show ((x : Int) == (y : Int)) = false from beq_false_of_ne (by omega), Bool.false_and]
      exact (bD_f fun e => h (List.cons.inj e).1).symm
  | [], _ :: _ => (bD_f (fun e => by cases e)).symm
  | _ :: _, [] => (bD_f (fun e => by cases e)).symm
theorem shp_L (cs : List Nat) : SeqAt.shaped (.list (dI cs)) = true := by
  show (PyData.canLayAll0 (dI cs) && decide (PyData.depthAll (dI cs) + 1 ≤ 64)) = true
  rw [dI_lay, dI_depth]
  rfl
theorem shp_T (cs : List Nat) : SeqAt.shaped (.tuple (dI cs)) = true := by
  show (PyData.canLayAll0 (dI cs) && decide (PyData.depthAll (dI cs) + 1 ≤ 64)) = true
  rw [dI_lay, dI_depth]
  rfl
section
variable {K : PySem.W.Frag} {H : Hp} {Q : VK} {p p' : Addr} {a b : List Nat}
theorem w_eqL (h1 : SqL K H p (vI a)) (h2 : SqL K H p' (vI b)) (q : Q (.bl (bD (a = b))) H) : rEqD K (.ref p) (.ref p') H Q :=
  ⟨.list (dI a), .list (dI b), .lst h1 (dI_dp a), .lst h2 (dI_dp b), shp_L a, shp_L b, by rw [show PyData.eqv (.list (dI a)) (.list (dI b)) = bD (a = b) from dI_eqv a b]; exact q⟩
theorem w_neL (h1 : SqL K H p (vI a)) (h2 : SqL K H p' (vI b)) (q : Q (.bl (!bD (a = b))) H) : rNeD K (.ref p) (.ref p') H Q :=
  ⟨.list (dI a), .list (dI b), .lst h1 (dI_dp a), .lst h2 (dI_dp b), shp_L a, shp_L b, by rw [show PyData.eqv (.list (dI a)) (.list (dI b)) = bD (a = b) from dI_eqv a b]; exact q⟩
theorem w_eqT (h1 : SqT K H p (vI a)) (h2 : SqT K H p' (vI b)) (q : Q (.bl (bD (a = b))) H) : rEqD K (.ref p) (.ref p') H Q :=
  ⟨.tuple (dI a), .tuple (dI b), .tup h1 (dI_dp a), .tup h2 (dI_dp b), shp_T a, shp_T b, by rw [show PyData.eqv (.tuple (dI a)) (.tuple (dI b)) = bD (a = b) from dI_eqv a b]; exact q⟩
theorem w_neT (h1 : SqT K H p (vI a)) (h2 : SqT K H p' (vI b)) (q : Q (.bl (!bD (a = b))) H) : rNeD K (.ref p) (.ref p') H Q :=
  ⟨.tuple (dI a), .tuple (dI b), .tup h1 (dI_dp a), .tup h2 (dI_dp b), shp_T a, shp_T b, by rw [show PyData.eqv (.tuple (dI a)) (.tuple (dI b)) = bD (a = b) from dI_eqv a b]; exact q⟩
theorem w_catI (h1 : H p = some (.lst (vI a))) (h2 : H p' = some (.lst (vI b))) (z : a.length + b.length ≤ 10000000) (q : ∀ o, H o = none → Q (.ref o) (upd H o (.lst (vI (a ++ b))))) : rCat (.ref p) (.ref p') H Q :=
  w_cat h1 h2 (by rw [List.length_map, List.length_map]; exact szOk _ z) fun o no => by
    have := q o no
    unfold vI at this ⊢
    rw [List.map_append] at this
    exact this
end
section
variable (K : PySem.W.Frag)
def sp_common (_ : PySem.W.Frag) : Sp := fun vs H Q _ => ∃ (a b : Nat), vs = [.int (a : Nat), .int (b : Nat)] ∧ Q (.int (Nat.gcd a b : Nat)) H
def sp_whole_round : Sp := fun vs H Q _ => ∃ (x : V) (r : Row), vs = [x] ∧ Dp K H x (rowD r) ∧ rok r ∧ ∀ H', Same H H' → Q (.int (whole r : Nat)) H'
def sp_steps : Sp := fun vs H Q _ => ∃ (x : V) (r : Row) (n : Nat), vs = [x, .int (n : Nat)] ∧ Dp K H x (rowD r) ∧ rok r ∧ n ≤ 100000 ∧ ∀ (H' : Hp) (p : Addr), Same H H' → H p = none → H' p = some (.lst (vI (stp' r n))) → Q (.ref p) H'
def sp_least_round : Sp := fun vs H Q _ => ∃ (x : V) (r : Row), vs = [x] ∧ Dp K H x (rowD r) ∧ rok r ∧ r.length ≤ 4 ∧ ∀ H', Same H H' → Q (.int (lp r : Nat)) H'
def sp_round_of : Sp := fun vs H Q _ => ∃ (x : V) (r : Row), vs = [x] ∧ Dp K H x (rowD r) ∧ Row.Ok r ∧ ∀ (H' : Hp) (p : Addr), Same H H' → H p = none → H' p = some (.tup (vI [lp r, allCome r (lp r)])) → Q (.ref p) H'
theorem len_common : ∀ vs H Q E, sp_common K vs H Q E → vs.length = 2 := by rintro _ _ _ _ ⟨_, _, rfl, _⟩; rfl
theorem len_whole_round : ∀ vs H Q E, sp_whole_round K vs H Q E → vs.length = 1 := by rintro _ _ _ _ ⟨_, _, rfl, _⟩; rfl
theorem len_steps : ∀ vs H Q E, sp_steps K vs H Q E → vs.length = 2 := by rintro _ _ _ _ ⟨_, _, _, rfl, _⟩; rfl
theorem len_least_round : ∀ vs H Q E, sp_least_round K vs H Q E → vs.length = 1 := by rintro _ _ _ _ ⟨_, _, rfl, _⟩; rfl
theorem len_round_of : ∀ vs H Q E, sp_round_of K vs H Q E → vs.length = 1 := by rintro _ _ _ _ ⟨_, _, rfl, _⟩; rfl
end
def t_common (K : PySem.W.Frag) : TS :=
  (tSeq (tWhile (tTest (tOp rNe (tVar 1) (tC (.int 0)))) (tPar 0 1 (tCons (tVar 1) (tCons (tOp rModI (tVar 0) (tVar 1)) tNil))))
  (tRet (tVar 0)))

def t_whole_round (K : PySem.W.Frag) : TS :=
  (tSeq (tAsg (tTup (tCons (tC (.int 1)) (tCons (tC (.int 1)) tNil))) (gTup K 2 (gCons (gName 1) (gCons (gName 2) gNil))))
  (tSeq (tFor (iTup K (tVar 0)) (gName 3)
  (tIfS (tTest (tOp rNe (tOp (rIxT K) (tVar 3) (tC (.int 0))) (tC (.str "hears")))) (tSeq (tAsg (tOp rDivI (tOp (rIxT K) (tVar 3) (tC (.int 1))) (tCall (sp_common K) [] E0 (tCons (tVar 2) (tCons (tOp (rIxT K) (tVar 3) (tC (.int 1))) tNil)))) (gName 4))
  (tSeq (tPar 1 2 (tCons (tOp rMulI (tVar 1) (tVar 4)) (tCons (tOp rMulI (tVar 2) (tVar 4)) tNil)))
  (tAsg (tCall (sp_passed K) [] E0 (tCons (tTup (tCons (tOp (rIxT K) (tVar 3) (tC (.int 0))) (tCons (tOp (rIxT K) (tVar 3) (tC (.int 1))) (tCons (tC (.int 0)) tNil)))) (tCons (tVar 2) tNil))) (gName 2)))) tNext))
  (tRet (tVar 1))))

def t_steps (K : PySem.W.Frag) : TS :=
  (tSeq (tAsg (tLc (iRng1 (tCons (tOp rAddI (tVar 1) (tC (.int 1))) tNil)) (gName 3) tYes (tCall (sp_all_come K) [] E0 (tCons (tVar 0) (tCons (tVar 3) tNil))) [3]) (gName 2))
  (tRet (tLc (iZip K (tCons (tVar 2) (tCons (tSl (rSlL K) (tVar 2) (tPart (tC (.int 1))) tNoPart) tNil))) (gTup K 2 (gCons (gName 4) (gCons (gName 5) gNil))) tYes (tOp rSubI (tVar 5) (tVar 4)) [4, 5])))

def t_least_round (K : PySem.W.Frag) : TS :=
  (tSeq (tAsg (tCall (sp_whole_round K) [] E0 (tCons (tVar 0) tNil)) (gName 1))
  (tSeq (tAsg (tCall (sp_steps K) [] E0 (tCons (tVar 0) (tCons (tVar 1) tNil))) (gName 2))
  (tSeq (tFor (iRng2 (tCons (tC (.int 1)) (tCons (tOp rAddI (tVar 1) (tC (.int 1))) tNil))) (gName 3)
  (tIfS (tAnd (tTest (tOp rEq (tOp rModI (tVar 1) (tVar 3)) (tC (.int 0)))) (tTest (tOp (rEqD K) (tOp rCat (tSl (rSlL K) (tVar 2) (tPart (tVar 3)) tNoPart) (tSl (rSlL K) (tVar 2) tNoPart (tPart (tVar 3)))) (tVar 2)))) (tRet (tVar 3)) tNext))
  (tRet (tVar 1)))))

def t_round_of (K : PySem.W.Frag) : TS :=
  (tSeq (tDrop (tCall (sp_need_row K) [] E0 (tCons (tVar 0) tNil)))
  (tSeq (tAsg (tCall (sp_least_round K) [] E0 (tCons (tVar 0) tNil)) (gName 1))
  (tRet (tTup (tCons (tVar 1) (tCons (tCall (sp_all_come K) [] E0 (tCons (tVar 0) (tCons (tVar 1) tNil))) tNil))))))

theorem w_iZ {K : PySem.W.Frag} {ta : TA} {σ : St} {H : Hp} {R : It → Hp → Prop} (h : ta σ H fun vs H1 => ∃ a b xs ys, vs = [.ref a, .ref b] ∧ SqL K H1 a xs ∧ SqL K H1 b ys ∧ R (Itz K a b) H1) : iZip K ta σ H R := h
theorem vI_get {cs : List Nat} {i : Nat} {x : V} (h : (vI cs)[i]? = some x) : ∃ c, cs[i]? = some c ∧ x = .int (c : Nat) := by
  rw [List.getElem?_map] at h
  cases e : cs[i]? with
  | none => rw [e] at h; cases h
  | some c => rw [e] at h; cases h; exact ⟨c, rfl, rfl⟩
section
variable (K : PySem.W.Frag)
theorem sem_common : ∀ vs H Q E, sp_common K vs H Q E → t_common K { nx := fun _ H' => Q .non H', rt := Q } (start ["one", "other"] vs) H := by
  rintro vs H Q E ⟨a, b, rfl, q⟩
  show t_common K _ [some (.int (a : Nat)), some (.int (b : Nat))] H
  unfold t_common
  walk_at "w"
  refine ⟨fun m σ H1 => ∃ a' b' : Nat, σ = [some (.int (a' : Nat)), some (.int (b' : Nat))] ∧ Nat.gcd a' b' = Nat.gcd a b ∧ m = b' ∧ H1 = H, ⟨b, a, b, rfl, rfl, rfl, rfl⟩, ?_⟩
  rintro m σ H1 ⟨a', b', rfl, hg, rfl, rfl⟩
  walk_at "w"
  by_cases h0 : m = 0
  · subst h0
    rw [bD_t (by rfl : (((0 : Nat) : Int)) = 0)]
    refine iteF ?_
    walk_at "w"
    rw [Nat.gcd_zero_right] at hg
    rw [hg]
    exact q
  · rw [bD_f (by omega : ¬ (m : Int) = 0)]
    refine iteT ?_
    refine ⟨_, fun σ' H' q' => q', ?_⟩
    walk_at "w"
    refine ⟨a' % m, Nat.mod_lt _ (by omega), m, a' % m, rfl, ?_, rfl, rfl⟩
    rw [← hg, Nat.gcd_comm a' m, Nat.gcd_rec m a', Nat.gcd_comm]
theorem sem_whole_round : ∀ vs H Q E, sp_whole_round K vs H Q E → t_whole_round K { nx := fun _ H' => Q .non H', rt := Q } (start ["row", "signs", "there", "one", "times"] vs) H := by
  rintro vs H Q E ⟨x, r, rfl, hd, hr, q⟩
  show t_whole_round K _ [some x, none, none, none, none] H
  unfold t_whole_round
  obtain ⟨a, xs, rfl, hs, ha⟩ := dp_tup hd
  have hlx : xs.length = r.length := by rw [ha.len, List.length_map]
  walk_at "w"
  refine ⟨szOk 2, fun o0 no0 => ?_⟩
  walk_at "w"
  have hs0 : SqT K (upd H o0 (.tup [.int 1, .int 1])) a xs := (same_new no0).sqT hs
  refine for_tup (xs := xs) (fun i σ H1 => ∃ (s t : Nat) (y3 y4 : Option V), wr (r.drop i) s t = wr r 1 1 ∧ σ = [some (.ref a), some (.int (s : Nat)), some (.int (t : Nat)), y3, y4] ∧ Same H H1) ⟨1, 1, none, none, by rw [List.drop_zero], rfl, same_new no0⟩ (fun i σ H1 _ p => by obtain ⟨_, _, _, _, _, _, s⟩ := p; exact s.sqT hs) ?_ ?_
  · rintro i v σ H1 hv ⟨s, t, y3, y4, hw, rfl, sm⟩
    obtain ⟨f, hf, dd⟩ := row_get K ha hv
    obtain ⟨b, rfl, hb⟩ := folk_inv (sm.dat dd)
    have hdr : r.drop i = f :: r.drop (i + 1) := by
      obtain ⟨h1, h2⟩ := List.getElem?_eq_some_iff.mp hf
      rw [List.drop_eq_getElem_cons h1, h2]
    rw [hdr] at hw
    have hfok := hr f (List.mem_of_getElem? hf)
    cases f with
    | hears u v =>
      have hb' : SqT K H1 b [.str "hears", .str (sg u), .str (sg v)] := hb
      walk_at "w"
      refine w_nF rfl ?_
      walk_at "w"
      exact ⟨s, t, _, _, hw, rfl, sm⟩
    | ctr tw e c =>
      have hb' : SqT K H1 b [.str (kindOf tw), .int (e : Nat), .int (c : Nat)] := hb
      obtain ⟨h2, h6, hc⟩ := hfok
      walk_at "w"
      refine w_nT (kind_nh tw) ?_
      walk_at "w"
      refine ⟨t, e, rfl, ?_⟩
      have hg : 0 < Nat.gcd t e := Nat.gcd_pos_of_pos_right t (by omega)
      have hge : Nat.gcd t e ≤ e := Nat.gcd_le_right t (by omega)
      refine w_divI ⟨by omega, by omega⟩ ?_
      have hm6 : e / Nat.gcd t e ≤ 6 := Nat.le_trans (Nat.div_le_self _ _) h6
      have hw' : wr (r.drop (i + 1)) (s * (e / Nat.gcd t e)) (passed (.ctr tw e 0) (t * (e / Nat.gcd t e))) = wr r 1 1 := hw
      rw [show ((e : Int) / ((Nat.gcd t e : Nat) : Int)) = ((e / Nat.gcd t e : Nat) : Int) from rfl]
      generalize e / Nat.gcd t e = m at hm6 hw'
      walk_at "w"
      refine w_mulI (.inr ⟨by omega, by omega⟩) ?_
      walk_at "w"
      refine w_mulI (.inr ⟨by omega, by omega⟩) ?_
      walk_at "w"
      refine ⟨szOk 3, fun o no => ?_⟩
      walk_at "w"
      refine ⟨.ref o, .ctr tw e 0, t * m, rfl, folk_of (f := .ctr tw e 0) sqT_new, ⟨h2, h6, by omega⟩, ?_⟩
      walk_at "w"
      exact ⟨s * m, _, _, _, hw', rfl, sm.trans (same_new no)⟩
  · rintro σ H1 ⟨s, t, y3, y4, hw, rfl, sm⟩
    walk_at "w"
    rw [hlx, List.drop_length] at hw
    have := q H1 sm
    unfold whole at this
    rw [← hw] at this
    exact this
theorem sem_steps : ∀ vs H Q E, sp_steps K vs H Q E → t_steps K { nx := fun _ H' => Q .non H', rt := Q } (start ["row", "many", "counts", "number", "ahead", "later"] vs) H := by
  rintro vs H Q E ⟨x, r, n, rfl, hd, hr, hn, q⟩
  show t_steps K _ [some x, some (.int (n : Nat)), none, none, none, none] H
  unfold t_steps
  walk_at "w"
  refine ⟨(n : Int) + 1, rfl, by omega, by omega, fun D nD => ?_⟩
  refine lc_same walk_range nD [some x, some (.int (n : Nat)), none, none, none, none] rfl (fun i => vI ((List.range i).map (allCome r))) rfl (fun _ _ => trivial) (fun i v H1 H1' hi p y => ?_) (fun H1 s hD => ?_)
  · obtain ⟨rfl, rfl⟩ := y
    walk_at "w"
    refine ⟨rfl, ?_⟩
    walk_at "w"
    refine ⟨x, r, i, by show [x, V.int (0 + (i : Int))] = _; rw [Int.zero_add], p.1.dat hd, hr, ?_⟩
    refine lc_put nD p (Same.refl _) (szLt _ (by rw [List.length_map, List.length_map, List.length_range]; omega)) ?_
    unfold vI
    rw [List.range_succ, List.map_append, List.map_append]
    rfl
  · rw [show ((n : Int) + 1).toNat = n + 1 by omega] at hD
    walk_at "w"
    refine w_iZ ?_
    walk_at "w"
    refine w_slI_from (k := 1) (sqL_at hD) fun o no => ?_
    walk_at "w"
    have hD2 := (same_new (o := .lst (vI (((List.range (n + 1)).map (allCome r)).drop 1))) no) _ _ hD
    refine ⟨D, o, _, _, rfl, sqL_at hD2, sqL_new, fun D2 nD2 => ?_⟩
    have sA := s.trans (same_new (o := .lst (vI (((List.range (n + 1)).map (allCome r)).drop 1))) no)
    refine lc_same (walk_zip (xs := vI ((List.range (n + 1)).map (allCome r))) (ys := vI (((List.range (n + 1)).map (allCome r)).drop 1)) (n := n) (by simp only [vI, List.length_map, List.length_drop, List.length_range]; omega)) nD2 [some x, some (.int (n : Nat)), some (.ref D), none, none, none] rfl (fun i => vI (stp' r i)) rfl (fun H3 s3 => ⟨sqL_at (s3 _ _ hD2), sqL_at (s3 _ _ upd_same)⟩) (fun i v H3 H3' hi p y => ?_) (fun H3 s3 hD3 => ?_)
    · obtain ⟨T, x1, x2, rfl, nT, rfl, h1, h2⟩ := y
      obtain ⟨c1, g1, rfl⟩ := vI_get h1
      obtain ⟨c2, g2, rfl⟩ := vI_get h2
      rw [List.getElem?_drop, List.getElem?_map, List.getElem?_range (by omega)] at g2
      rw [List.getElem?_map, List.getElem?_range (by omega)] at g1
      cases g1
      cases g2
      have hT : SqT K (upd H3 T (.tup [.int (allCome r i : Nat), .int (allCome r (1 + i) : Nat)])) T [.int (allCome r i : Nat), .int (allCome r (1 + i) : Nat)] := sqT_new
      walk_at "w"
      refine ⟨rfl, ?_⟩
      walk_at "w"
      refine lc_put nD2 p (same_new nT) (szLt _ (by rw [List.length_map, stp_len]; omega)) ?_
      have e1 := allCome_succ hr i
      rw [Nat.add_comm 1 i, show ((allCome r (i + 1) : Nat) : Int) - (allCome r i : Nat) = (dl r i : Nat) by omega]
      unfold vI stp'
      rw [List.range_succ, List.map_append, List.map_append]
      rfl
    · exact q H3 D2 (sA.trans s3) (sA.free nD2) hD3
theorem sem_least_round : ∀ vs H Q E, sp_least_round K vs H Q E → t_least_round K { nx := fun _ H' => Q .non H', rt := Q } (start ["row", "signs", "some", "many"] vs) H := by
  rintro vs H Q E ⟨x, r, rfl, hd, hr, hl, q⟩
  show t_least_round K _ [some x, none, none, none] H
  unfold t_least_round
  have hW := perD_whole hr
  have hWp := whole_pos hr
  have hWl := whole_le hr hl
  walk_at "w"
  refine ⟨x, r, rfl, hd, hr, fun H1 s1 => ?_⟩
  generalize whole r = W at hW hWp hWl
  walk_at "w"
  refine ⟨x, r, W, rfl, s1.dat hd, hr, by omega, fun H2 p s2 np hp => ?_⟩
  walk_at "w"
  refine ⟨1, (W : Int) + 1, rfl, ⟨by omega, by omega, by omega, by omega⟩, ?_⟩
  refine for_range (lo := 1) (n := ((W : Int) + 1 - 1).toNat) (fun i σ H3 => ∃ y, σ = [some x, some (.int (W : Nat)), some (.ref p), y] ∧ Same H2 H3 ∧ ∀ k, 1 ≤ k → k ≤ i → k ∣ W → ¬ PerD r k) ⟨none, rfl, Same.refl _, fun k h1 h2 => by omega⟩ ?_ ?_
  · rintro i σ H3 hi ⟨y, rfl, s3, hno⟩
    have hp3 := s3 _ _ hp
    walk_at "w"
    rw [show (1 : Int) + (i : Nat) = ((i + 1 : Nat) : Int) by omega]
    have next : ∀ H4, Same H2 H4 → (i + 1 ∣ W → ¬ PerD r (i + 1)) → ∃ y, [some x, some (.int (W : Nat)), some (.ref p), some (.int ((i + 1 : Nat) : Int))] = [some x, some (.int (W : Nat)), some (.ref p), y] ∧ Same H2 H4 ∧ ∀ k, 1 ≤ k → k ≤ i + 1 → k ∣ W → ¬ PerD r k := fun H4 s4 h => ⟨_, rfl, s4, fun k k1 k2 k3 => by
      rcases Nat.lt_or_ge i k with h5 | h5
      · have : k = i + 1 := by omega
        subst this
        exact h k3
      · exact hno k k1 h5 k3⟩
    rw [show ((W : Int) % ((i + 1 : Nat) : Int)) = ((W % (i + 1) : Nat) : Int) from rfl]
    by_cases hm : W % (i + 1) = 0
    · refine w_dT (by omega) ?_
      walk_at "w"
      refine w_slI_from (sqL_at hp3) fun o no => ?_
      walk_at "w"
      have hp4 := (same_new (o := .lst (vI ((stp' r W).drop (i + 1)))) no) _ _ hp3
      refine w_slI_to (sqL_at hp4) fun o2 no2 => ?_
      refine w_catI ((same_new no2) _ _ upd_same) upd_same (by rw [List.length_drop, List.length_take, stp_len]; omega) fun o3 no3 => ?_
      have hp6 := (same_new (o := .lst (vI ((stp' r W).drop (i + 1) ++ (stp' r W).take (i + 1)))) no3) _ _ ((same_new (o := .lst (vI ((stp' r W).take (i + 1)))) no2) _ _ hp4)
      have s6 := ((s3.trans (same_new (o := .lst (vI ((stp' r W).drop (i + 1)))) no)).trans (same_new (o := .lst (vI ((stp' r W).take (i + 1)))) no2)).trans (same_new (o := .lst (vI ((stp' r W).drop (i + 1) ++ (stp' r W).take (i + 1)))) no3)
      walk_at "w"
      refine w_eqL sqL_new (sqL_at hp6) ?_
      walk_at "w"
      have hdv := Nat.dvd_of_mod_eq_zero hm
      have hle := Nat.le_of_dvd (by omega) hdv
      refine w_ifB (fun e => ?_) (fun e => ?_)
      · have hper := (rot_iff hW hle).mp (bT e)
        walk_at "w"
        have hL : IsLeast r (i + 1) := least_of_min (by omega) hper fun k k1 k2 k3 => by
          have hls := lp_spec hr
          have hd1 := hls.2.2 k k3
          have hd2 := hls.2.2 W hW
          exact hno (lp r) hls.1 (by have := Nat.le_of_dvd (by omega) hd1; omega) hd2 hls.2.1
        have := q _ ((s1.trans s2).trans s6)
        rw [lp_eq hr hL] at this
        exact this
      · walk_at "w"
        exact next _ s6 fun _ h => (bF e) ((rot_iff hW hle).mpr h)
    · refine w_dF (by omega) ?_
      walk_at "w"
      exact next _ s3 fun h => absurd (Nat.mod_eq_zero_of_dvd h) hm
  · rintro σ H3 ⟨y, rfl, s3, hno⟩
    exact absurd hW (hno W hWp (by omega) (Nat.dvd_refl _))
theorem sem_round_of : ∀ vs H Q E, sp_round_of K vs H Q E → t_round_of K { nx := fun _ H' => Q .non H', rt := Q } (start ["row", "many"] vs) H := by
  rintro vs H Q E ⟨x, r, rfl, hd, hR, q⟩
  show t_round_of K _ [some x, none] H
  unfold t_round_of
  walk_at "w"
  refine ⟨x, rowD r, rfl, hd, fit_row r, isRow_of hR, fun H1 s1 => ?_⟩
  walk_at "w"
  refine ⟨x, r, rfl, s1.dat hd, rok_of hR, hR.1, fun H2 s2 => ?_⟩
  walk_at "w"
  refine ⟨x, r, lp r, rfl, s2.dat (s1.dat hd), rok_of hR, ?_⟩
  walk_at "w"
  refine ⟨szOk 2, fun p np => ?_⟩
  exact q _ p ((s1.trans s2).trans (same_new np)) ((s1.trans s2).free np) upd_same
end
end HH

namespace HH
open PySem PySem.Spec L2
/-! ### rows that do the same -/
theorem comes_rep {r : Row} (h : rok r) (n c : Nat) : comes r (List.replicate n c) = List.replicate (allCome r n) (heardAs r c) := by
  have h1 := congrArg Prod.fst (told_rep r (begun r) c n (begun_len r))
  have h2 : comes r (List.replicate n c) = List.replicate (cntN r (begun r) n).1 (heardAs r c) := h1
  have h3 := comes_len h (List.replicate n c)
  rw [h2, List.length_replicate, List.length_replicate] at h3
  rw [h2, h3]
theorem comes_rep1 {r : Row} (h : rok r) (n c d : Nat) : comes r (List.replicate n c ++ [d]) = List.replicate (allCome r n) (heardAs r c) ++ List.replicate (dl r n) (heardAs r d) := by
  have h1 : comes r (List.replicate n c ++ [d]) = comes r (List.replicate n c) ++ (told r (told r (begun r) (List.replicate n c)).2 [d]).1 := congrArg Prod.fst (told_app r (begun r) _ _)
  have h2 := congrArg Prod.fst (told_rep r (told r (begun r) (List.replicate n c)).2 d 1 (by rw [told_len, begun_len]))
  have h3 : (told r (told r (begun r) (List.replicate n c)).2 [d]).1 = List.replicate (cntN r (told r (begun r) (List.replicate n c)).2 1).1 (heardAs r d) := h2
  have h4 := comes_len h (List.replicate n c ++ [d])
  rw [h1, h3, comes_rep h, List.length_append, List.length_append, List.length_replicate, List.length_replicate, List.length_replicate] at h4
  rw [h1, h3, comes_rep h]
  have h5 : allCome r (n + [d].length) = allCome r n + dl r n := allCome_succ h n
  rw [h5] at h4
  congr 2
  omega
def smalls : List Nat := (List.range 26).map (· + 97)
theorem mem_smalls {c : Nat} : c ∈ smalls ↔ isSmall c = true := by
  unfold smalls isSmall
  rw [List.mem_map, Bool.and_eq_true, decide_eq_true_eq, decide_eq_true_eq]
  constructor
  · rintro ⟨i, hi, rfl⟩
    rw [List.mem_range] at hi
    omega
  · rintro ⟨h1, h2⟩
    exact ⟨c - 97, List.mem_range.mpr (by omega), by omega⟩
noncomputable def unl (r o : Row) : List Nat := smalls.filter fun c => bD (¬ heardAs r c = heardAs o c)
def alike (r o : Row) : Prop := (∀ i, dl r i = dl o i) ∧ ∀ c, isSmall c = true → heardAs r c = heardAs o c
theorem unl_nil {r o : Row} : unl r o = [] ↔ ∀ c, isSmall c = true → heardAs r c = heardAs o c := by
  unfold unl
  rw [List.filter_eq_nil_iff]
  constructor
  · intro h c hc
    have := h c (mem_smalls.mpr hc)
    by_cases e : heardAs r c = heardAs o c
    · exact e
    · exact absurd (bD_t e) this
  · intro h c hc h2
    exact bT h2 (h c (mem_smalls.mp hc))
def pf (r o : Row) (u : List Nat) : Nat → Nat → Option (List Nat)
  | 0, _ => none
  | k + 1, i => if dl r i = dl o i then (if 0 < dl r i ∧ u ≠ [] then some (List.replicate i 97 ++ [u.headD 0]) else pf r o u k (i + 1)) else some (List.replicate (i + 1) 97)
noncomputable def parted (r o : Row) : Option (List Nat) := pf r o (unl r o) (lp r + lp o) 0
theorem pf_cases (r o : Row) (u : List Nat) : ∀ k i, (pf r o u k i = none ∧ ∀ j, i ≤ j → j < i + k → dl r j = dl o j ∧ (dl r j = 0 ∨ u = [])) ∨
    ∃ j, i ≤ j ∧ j < i + k ∧ (∀ l, i ≤ l → l < j → dl r l = dl o l ∧ (dl r l = 0 ∨ u = [])) ∧ ((dl r j ≠ dl o j ∧ pf r o u k i = some (List.replicate (j + 1) 97)) ∨ (dl r j = dl o j ∧ 0 < dl r j ∧ u ≠ [] ∧ pf r o u k i = some (List.replicate j 97 ++ [u.headD 0])))
  | 0, i => .inl ⟨rfl, fun j h1 h2 => by omega⟩
  | k + 1, i => by
    by_cases h1 : dl r i = dl o i
    · by_cases h2 : 0 < dl r i ∧ u ≠ []
      · refine .inr ⟨i, Nat.le_refl _, by omega, fun l h3 h4 => by omega, .inr ⟨h1, h2.1, h2.2, ?_⟩⟩
        show (if dl r i = dl o i then (if 0 < dl r i ∧ u ≠ [] then some (List.replicate i 97 ++ [u.headD 0]) else pf r o u k (i + 1)) else _) = _
        rw [if_pos h1, if_pos h2]
      · have e : pf r o u (k + 1) i = pf r o u k (i + 1) := by
          show (if dl r i = dl o i then (if 0 < dl r i ∧ u ≠ [] then some (List.replicate i 97 ++ [u.headD 0]) else pf r o u k (i + 1)) else _) = _
          rw [if_pos h1, if_neg h2]
        have hi : dl r i = dl o i ∧ (dl r i = 0 ∨ u = []) := ⟨h1, by
          by_cases h3 : u = []
          · exact .inr h3
          · exact .inl (by
              rcases Nat.eq_zero_or_pos (dl r i) with h4 | h4
              · exact h4
              · exact absurd ⟨h4, h3⟩ h2)⟩
        have all : ∀ (P : Nat → Prop) (n : Nat), P i → (∀ l, i + 1 ≤ l → l < n → P l) → ∀ l, i ≤ l → l < n → P l := fun P n h5 h6 l h7 h8 => by
          rcases Nat.lt_or_ge i l with h9 | h9
          · exact h6 l h9 h8
          · have : l = i := by omega
            rw [this]; exact h5
        rw [e]
        rcases pf_cases r o u k (i + 1) with ⟨e1, e2⟩ | ⟨j, j1, j2, j3, j4⟩
        · exact .inl ⟨e1, all _ _ hi fun l l1 l2 => e2 l l1 (by omega)⟩
        · exact .inr ⟨j, by omega, by omega, all _ _ hi j3, j4⟩
    · refine .inr ⟨i, Nat.le_refl _, by omega, fun l h3 h4 => by omega, .inl ⟨h1, ?_⟩⟩
      show (if dl r i = dl o i then (if 0 < dl r i ∧ u ≠ [] then some (List.replicate i 97 ++ [u.headD 0]) else pf r o u k (i + 1)) else _) = _
      rw [if_neg h1]
theorem allCome_of_dl {r o : Row} (hr : rok r) (ho : rok o) {n : Nat} (h : ∀ i, i < n → dl r i = dl o i) : allCome r n = allCome o n := by
  induction n with
  | zero => rw [allCome_zero hr, allCome_zero ho]
  | succ n ih => rw [allCome_succ hr, allCome_succ ho, ih fun i hi => h i (by omega), h n (by omega)]
/-- alike for so long, alike for ever -/
theorem dl_ever {r o : Row} {p q : Nat} (hp : PerD r p) (hq : PerD o q) (p1 : 1 ≤ p) (q1 : 1 ≤ q) (h : ∀ i, i < p + q → dl r i = dl o i) : ∀ n i, i < n → dl r i = dl o i
  | 0, i, hi => by omega
  | n + 1, i, hi => by
    have ih := dl_ever hp hq p1 q1 h n
    rcases Nat.lt_or_ge i (p + q) with h1 | h1
    · exact h i h1
    · have a1 := hp (i - p)
      rw [show i - p + p = i by omega] at a1
      have a2 := hq (i - p - q)
      rw [show i - p - q + q = i - p by omega] at a2
      have a3 := hp (i - p - q)
      rw [show i - p - q + p = i - q by omega] at a3
      have a4 := hq (i - q)
      rw [show i - q + q = i by omega] at a4
      rw [a1, ih (i - p) (by omega), a2, ← ih (i - p - q) (by omega), ← a3, ih (i - q) (by omega), ← a4]
theorem whole_come {r : Row} (h : rok r) : 1 ≤ allCome r (whole r) := by
  have h1 := wr_per r 1 1 id h (fun _ => rfl) 0
  have h2 : allCome r (0 + whole r) = allCome r 0 + (wr r 1 1).2 := h1
  rw [Nat.zero_add, allCome_zero h, Nat.zero_add] at h2
  rw [h2]
  exact (wr_bound r 1 1 h (Nat.le_refl 1) (Nat.le_refl 1)).2
theorem some_come {r : Row} (h : rok r) : ∃ i, i < lp r ∧ 0 < dl r i := by
  have hp := lp_spec h
  apply Classical.byContradiction
  intro hn
  have h0 : ∀ i, dl r i = 0 := fun i => by
    rw [← hp.2.1.mod i]
    rcases Nat.eq_zero_or_pos (dl r (i % lp r)) with h1 | h1
    · exact h1
    · exact absurd ⟨_, Nat.mod_lt _ hp.1, h1⟩ hn
  have : ∀ n, allCome r n = 0 := fun n => by
    induction n with
    | zero => exact allCome_zero h
    | succ n ih => rw [allCome_succ h, ih, h0]
  have h2 := whole_come h
  rw [this] at h2
  omega
theorem parted_none {r o : Row} (hr : rok r) (ho : rok o) : parted r o = none ↔ alike r o := by
  have hp := lp_spec hr
  have hq := lp_spec ho
  constructor
  · intro e
    rcases pf_cases r o (unl r o) (lp r + lp o) 0 with ⟨_, e2⟩ | ⟨j, j1, j2, j3, j4⟩
    · have hd := dl_ever hp.2.1 hq.2.1 hp.1 hq.1 (fun i hi => (e2 i (Nat.zero_le _) (by omega)).1)
      refine ⟨fun i => hd (i + 1) i (by omega), ?_⟩
      obtain ⟨i, hi, hpos⟩ := some_come hr
      rcases (e2 i (Nat.zero_le _) (by omega)).2 with h | h
      · omega
      · exact unl_nil.mp h
    · exfalso
      unfold parted at e
      rcases j4 with ⟨_, e3⟩ | ⟨_, _, _, e3⟩
      · rw [e3] at e; cases e
      · rw [e3] at e; cases e
  · rintro ⟨h1, h2⟩
    rcases pf_cases r o (unl r o) (lp r + lp o) 0 with ⟨e1, _⟩ | ⟨j, j1, j2, j3, j4⟩
    · exact e1
    · rcases j4 with ⟨h3, _⟩ | ⟨_, _, h3, _⟩
      · exact absurd (h1 j) h3
      · exact absurd (unl_nil.mpr h2) h3
theorem feed_alike {r o : Row} (hr : rok r) (ho : rok o) (h : alike r o) {w : List Nat} (hw : ∀ c ∈ w, isSmall c = true) : comes r w = comes o w := by
  rw [comes_feed, comes_feed, feed_pass r w _ (begun_len r), feed_pass o w _ (begun_len o)]
  have e : pass r (begun r) w.length = pass o (begun o) w.length := by
    rw [← copies_pass, ← copies_pass, copies_stp hr, copies_stp ho]
    unfold stp'
    exact List.map_congr_left fun i _ => h.1 i
  rw [e]
  congr 1
  refine List.map_congr_left fun p hp => ?_
  rw [h.2 p.2 (hw _ (List.of_mem_zip hp).2)]
theorem alike_refl (r : Row) : alike r r := ⟨fun _ => rfl, fun _ _ => rfl⟩
theorem alike_come {r o : Row} (hr : rok r) (ho : rok o) (h : alike r o) (n : Nat) : allCome r n = allCome o n := allCome_of_dl hr ho fun i _ => h.1 i
theorem alike_of {r o : Row} (h1 : ∀ n, allCome r n = allCome o n) (h2 : ∀ c, isSmall c = true → heardAs r c = heardAs o c) : alike r o := ⟨fun i => by unfold dl; rw [h1, h1], h2⟩
theorem allCome_snoc (f : Folk) (r : Row) (n : Nat) : allCome (r ++ [f]) n = passed f (allCome r n) := by
  rw [allCome_app]
  rfl
theorem heardAs_app : ∀ (a b : Row) (c : Nat), heardAs (a ++ b) c = heardAs b (heardAs a c)
  | [], _, _ => rfl
  | f :: a, b, c => heardAs_app a b _
theorem heardAs_small' {r : Row} (h : Row.Ok r) {c : Nat} (hc : isSmall c = true) : isSmall (heardAs r c) = true := heardAs_small h.2 hc
/-- a pair that undoes itself -/
theorem undo_pair {e c d : Nat} (he : 2 ≤ e) (hc : c < e) (hd : d ≤ 1) (n : Nat) : passed (.ctr false (e + 1) (c + d)) (passed (.ctr true e c) n) = n := by
  show (n + (n + c) / e) - (n + (n + c) / e + (c + d)) / (e + 1) = n
  have h1 := Nat.mod_add_div (n + c) e
  have h2 := Nat.mod_lt (n + c) (show 0 < e by omega)
  generalize (n + c) / e = q at h1
  generalize (n + c) % e = s at h1 h2
  have h3 : n + q + (c + d) = (s + d) + (e + 1) * q := by
    rw [Nat.add_mul]
    omega
  rw [h3, Nat.add_mul_div_left _ _ (by omega), Nat.div_eq_of_lt (by omega), Nat.zero_add]
  omega
end HH

namespace HH
open PySem PySem.Spec L2
local macro_rules | `(tactic| walk_at "cy") => `(tactic| first
  | assumption
  | exact L2.upd_same
  | exact L2.sqL_new
  | exact L2.sqT_new
  | exact L2.sqL_at (by assumption)
  | exact L2.sqT_at (by assumption)
  | (refine' L2.Same.seq (by assumption) ?k0; (case k0 => walk_at "cy"))
  | (refine' L2.Same.sqT (by assumption) ?k0; (case k0 => walk_at "cy"))
  | (refine' L2.Same.dat (by assumption) ?k0; (case k0 => walk_at "cy"))
  | (refine' (by assumption : L2.Same _ _) _ _ ?k0; (case k0 => walk_at "cy"))
  | (refine' L2.Same.seq (L2.same_new (by assumption)) ?k0; (case k0 => walk_at "cy"))
  | (refine' L2.Same.sqT (L2.same_new (by assumption)) ?k0; (case k0 => walk_at "cy"))
  | (refine' L2.Same.dat (L2.same_new (by assumption)) ?k0; (case k0 => walk_at "cy"))
  | (refine' L2.same_new (by assumption) _ _ ?k0; (case k0 => walk_at "cy"))
  | (refine' L2.Mv.sqT (by assumption) ?k0; (case k0 => walk_at "cy")))
local macro_rules | `(tactic| walk_at "w") => `(tactic| repeat (first
  | refine HH.stp ?_
  | with_reducible refine L2.iteT ?_
  | with_reducible refine L2.iteF ?_
  | ((with_reducible refine' HH.w_gtup ?k1 ?k2 ?_); (case k1 => walk_at "cy"); (case k2 => exact rfl))
  | ((with_reducible refine' HH.w_ixT ?k1 ?k2 ?_); (case k1 => walk_at "cy"); (case k2 => exact rfl))
  | ((with_reducible refine' HH.w_ixL ?k1 ?k2 ?_); (case k1 => walk_at "cy"); (case k2 => exact rfl))
  | ((with_reducible refine' HH.w_lenL ?k1 ?_); (case k1 => walk_at "cy"))
  | ((with_reducible refine' HH.w_lenT ?k1 ?_); (case k1 => walk_at "cy"))
  | ((with_reducible refine' HH.w_exT ?k1 ?_); (case k1 => walk_at "cy"))
  | ((with_reducible refine' HH.w_exL ?k1 ?_); (case k1 => walk_at "cy"))
  | ((with_reducible refine' HH.w_tyL ?k1 ?_); (case k1 => walk_at "cy"))
  | ((with_reducible refine' HH.w_setL ?k1 ?k2 ?_); (case k1 => walk_at "cy"); (case k2 => exact rfl))
  | ((with_reducible refine' HH.w_modI ?k1 ?_); (case k1 => first | (with_reducible assumption) | omega))
  | ((with_reducible refine' HH.w_divI ?k1 ?_); (case k1 => (constructor <;> omega)))))
local macro_rules | `(tactic| walk_at "v") => `(tactic| ((repeat ((fail_if_success (with_reducible refine HH.isIf ?_)); first
  | refine HH.stp ?_
  | with_reducible refine L2.iteT ?_
  | with_reducible refine L2.iteF ?_
  | ((with_reducible refine' HH.w_gtup ?k1 ?k2 ?_); (case k1 => walk_at "cy"); (case k2 => exact rfl))
  | ((with_reducible refine' HH.w_ixT ?k1 ?k2 ?_); (case k1 => walk_at "cy"); (case k2 => exact rfl))
  | ((with_reducible refine' HH.w_ixL ?k1 ?k2 ?_); (case k1 => walk_at "cy"); (case k2 => exact rfl))
  | ((with_reducible refine' HH.w_lenL ?k1 ?_); (case k1 => walk_at "cy"))
  | ((with_reducible refine' HH.w_lenT ?k1 ?_); (case k1 => walk_at "cy"))
  | ((with_reducible refine' HH.w_exT ?k1 ?_); (case k1 => walk_at "cy"))
  | ((with_reducible refine' HH.w_exL ?k1 ?_); (case k1 => walk_at "cy"))
  | ((with_reducible refine' HH.w_tyL ?k1 ?_); (case k1 => walk_at "cy"))
  | ((with_reducible refine' HH.w_setL ?k1 ?k2 ?_); (case k1 => walk_at "cy"); (case k2 => exact rfl))
  | ((with_reducible refine' HH.w_modI ?k1 ?_); (case k1 => first | (with_reducible assumption) | omega))
  | ((with_reducible refine' HH.w_divI ?k1 ?_); (case k1 => (constructor <;> omega)))))); (try (with_reducible refine HH.isIf ?_)))
section
variable (K : PySem.W.Frag)
/-- the bags, while one is drawn from -/
theorem bags_dr {H H' : Hp} {b p : Addr} {bs : List Addr} (d : Dr K b H H') (h : H p = some (.lst (bs.map V.ref)) ∧ ∀ c ∈ bs, BagOk K H c ∧ p ≠ c) (hb : b ∈ bs) : H' p = some (.lst (bs.map V.ref)) ∧ ∀ c ∈ bs, BagOk K H' c ∧ p ≠ c :=
  ⟨d.at h.1 (h.2 b hb).2, fun c hc => ⟨d.bag (h.2 c hc).1, (h.2 c hc).2⟩⟩
theorem dp_lit {H : Hp} {p q : Addr} {tw : Bool} {e c : Nat} (hq : H q = some (.tup [.str (kindOf tw), .int (e : Nat), .int (c : Nat)])) (hp : H p = some (.tup [.ref q])) : Dp K H (.ref p) (rowD [.ctr tw e c]) :=
  .tup (sqT_at hp) (.cons (folk_of (f := .ctr tw e c) (sqT_at hq)) .nil)
theorem ok_ctr {tw : Bool} {e c : Nat} (h1 : 2 ≤ e) (h2 : e ≤ 6) (h3 : c < e) : Folk.ok (.ctr tw e c) = true := by
  show (decide (2 ≤ e) && decide (e ≤ 6) && decide (c < e)) = true
  rw [decide_eq_true h1, decide_eq_true h2, decide_eq_true h3]
  rfl
theorem rowOk_1 {f : Folk} (h : f.ok = true) : Row.Ok [f] := ⟨by show 1 ≤ 4; decide, fun g hg => by rw [List.mem_singleton.mp hg]; exact h⟩
end
/-! ### the law's least round -/
theorem rep_get {r : Row} {k m i : Nat} (hk : 0 < k) (hi : i < k * m) : (List.replicate m (stp' r k)).flatten[i]? = some (dl r (i % k)) := by
  induction m generalizing i with
  | zero => omega
  | succ m ih =>
    rw [List.replicate_succ, List.flatten_cons]
    rcases Nat.lt_or_ge i k with h | h
    · rw [List.getElem?_append_left (by rw [stp_len]; exact h), stp_get r h, Nat.mod_eq_of_lt h]
    · rw [List.getElem?_append_right (by rw [stp_len]; exact h), stp_len, ih (by rw [Nat.mul_succ] at hi; omega)]
      congr 2
      rw [← Nat.mod_eq_sub_mod h]
theorem stp_take {r : Row} {k n : Nat} (h : k ≤ n) : (stp' r n).take k = stp' r k := by
  refine ext_get (by rw [List.length_take, stp_len]; omega) (stp_len r k) fun i hi => ?_
  rw [List.getElem?_take_of_lt hi, stp_get r (by omega), stp_get r hi]
theorem rep_iff {r : Row} {M k : Nat} (hM : PerD r M) (h1 : 1 ≤ M) (hk : 0 < k) (hd : k ∣ M) : stp' r M = ((List.replicate M (stp' r k)).flatten).take M ↔ PerD r k := by
  have hg : ∀ i, i < M → (((List.replicate M (stp' r k)).flatten).take M)[i]? = some (dl r (i % k)) := fun i hi => by
    have : M ≤ k * M := Nat.le_mul_of_pos_left M hk
    rw [List.getElem?_take_of_lt hi, rep_get hk (by omega)]
  refine ⟨fun e i => ?_, fun h => ?_⟩
  · have h2 : ∀ i, i < M → dl r i = dl r (i % k) := fun i hi => by
      have h3 := hg i hi
      rw [← e, stp_get r hi] at h3
      exact Option.some.inj h3
    have h4 : ∀ i, dl r i = dl r (i % k) := fun i => by
      rw [← hM.mod i, h2 _ (Nat.mod_lt _ (by omega)), Nat.mod_mod_of_dvd i hd]
    rw [h4 (i + k), h4 i, Nat.add_mod_right]
  · refine ext_get (stp_len r M) ?_ fun i hi => ?_
    · rw [List.length_take]
      have h5 : (List.replicate M (stp' r k)).flatten.length = M * k := by
        rw [List.length_flatten, List.map_replicate, stp_len]
        simp
      have h6 : M ≤ M * k := Nat.le_mul_of_pos_right M hk
      omega
    · rw [hg i hi, stp_get r hi, h.mod]
section
variable (K : PySem.W.Frag)
def sp_l_undoing : Sp := fun vs H Q _ => ∃ (b : Addr) (x : V) (r : Row), vs = [.ref b, x] ∧ BagOk K H b ∧ Dp K H x (rowD r) ∧ r.length ≤ 2 ∧ (∀ f ∈ r, f.ok = true) ∧
  ∀ (v : V) (r' : Row) (H' : Hp), Dr K b H H' → Row.Ok r' → Dp K H' v (rowD r') → Q v H'
def sp_l_least_round : Sp := fun vs H Q _ => ∃ (x : V) (r : Row), vs = [x] ∧ Dp K H x (rowD r) ∧ Row.Ok r ∧ ∀ (H' : Hp) (p : Addr), Same H H' → H p = none → H' p = some (.tup (vI [lp r, allCome r (lp r)])) → Q (.ref p) H'
theorem len_l_undoing : ∀ vs H Q E, sp_l_undoing K vs H Q E → vs.length = 2 := by rintro _ _ _ _ ⟨_, _, _, rfl, _⟩; rfl
theorem len_l_least_round : ∀ vs H Q E, sp_l_least_round K vs H Q E → vs.length = 1 := by rintro _ _ _ _ ⟨_, _, rfl, _⟩; rfl
end
def t_l_undoing (K : PySem.W.Frag) : TS :=
  (tSeq (tAsg (tOp rAddI (tC (.int 2)) (tCall (sp_l_take K) [] E0 (tCons (tVar 0) (tCons (tC (.int 4)) tNil)))) (gName 2))
  (tSeq (tAsg (tCall (sp_l_take K) [] E0 (tCons (tVar 0) (tCons (tVar 2) tNil))) (gName 3))
  (tSeq (tAsg (tTup (tCons (tTup (tCons (tC (.str "twice")) (tCons (tVar 2) (tCons (tVar 3) tNil)))) (tCons (tTup (tCons (tC (.str "drop")) (tCons (tOp rAddI (tVar 2) (tC (.int 1))) (tCons (tOp rAddI (tVar 3) (tCall (sp_l_take K) [] E0 (tCons (tVar 0) (tCons (tC (.int 2)) tNil)))) tNil)))) tNil))) (gName 4))
  (tSeq (tAsg (tCall (sp_l_take K) [] E0 (tCons (tVar 0) (tCons (tOp rAddI (tCB (rLenQ K) (tCons (tVar 1) tNil)) (tC (.int 1))) tNil))) (gName 5))
  (tRet (tOp (rCatA K) (tOp (rCatA K) (tSl (rSlA K) (tVar 1) tNoPart (tPart (tVar 5))) (tVar 4)) (tSl (rSlA K) (tVar 1) (tPart (tVar 5)) tNoPart)))))))

def t_l_least_round (K : PySem.W.Frag) : TS :=
  (tSeq (tPar 1 2 (tCons (tCall (sp_l_begun K) [] E0 (tCons (tVar 0) tNil)) (tCons (tC (.int 0)) tNil)))
  (tSeq (tWhile (tOr (tTest (tOp rEq (tVar 2) (tC (.int 0)))) (tTest (tOp (rNeD K) (tVar 1) (tCall (sp_l_begun K) [] E0 (tCons (tVar 0) tNil))))) (tSeq (tDrop (tCall (sp_l_told_on K) [] E0 (tCons (tVar 0) (tCons (tVar 1) (tCons (tC (.str "q")) tNil)))))
  (tAsg (tOp rAddI (tVar 2) (tC (.int 1))) (gName 2))))
  (tSeq (tAsg (tOp (rIxT K) (tCall (sp_l_copies K) [] E0 (tCons (tVar 0) (tCons (tVar 2) tNil))) (tC (.int 0))) (gName 3))
  (tSeq (tFor (iRng2 (tCons (tC (.int 1)) (tCons (tOp rAddI (tVar 2) (tC (.int 1))) tNil))) (gName 4)
  (tIfS (tAnd (tTest (tOp rEq (tOp rModI (tVar 2) (tVar 4)) (tC (.int 0)))) (tTest (tOp (rEqD K) (tVar 3) (tSl (rSlL K) (tOp rRep (tSl (rSlL K) (tVar 3) tNoPart (tPart (tVar 4))) (tVar 2)) tNoPart (tPart (tVar 2)))))) (tRet (tTup (tCons (tVar 4) (tCons (tCB (rSum K) (tCons (tSl (rSlL K) (tVar 3) tNoPart (tPart (tVar 4))) tNil)) tNil)))) tNext))
  (tRet (tC .non))))))

section
variable (K : PySem.W.Frag)
theorem sem_l_undoing : ∀ vs H Q E, sp_l_undoing K vs H Q E → t_l_undoing K { nx := fun _ H' => Q .non H', rt := Q } (start ["bag", "house", "every", "counted", "pair", "at"] vs) H := by
  rintro vs H Q E ⟨b, x, r, rfl, hb, hd, hl, hok, q⟩
  show t_l_undoing K _ [some (.ref b), some x, none, none, none, none] H
  unfold t_l_undoing
  walk_at "w"
  refine ⟨b, 4, rfl, hb, by decide, fun e0 H1 he0 d1 => ?_⟩
  walk_at "w"
  refine ⟨b, _, rfl, d1.b1, by omega, fun c H2 hc d2 => ?_⟩
  walk_at "w"
  refine ⟨szOk 3, fun p1 n1 => ?_⟩
  walk_at "w"
  refine ⟨b, 2, rfl, (d2.new n1).b1, by decide, fun k H3 hk d3 => ?_⟩
  walk_at "w"
  refine ⟨szOk 3, fun p2 n2 => ?_⟩
  walk_at "w"
  refine ⟨szOk 2, fun p3 n3 => ?_⟩
  walk_at "w"
  have f1 : Dp K (upd H2 p1 (.tup [.str "twice", .int (2 + (e0 : Int)), .int (c : Nat)])) (.ref p1) (folkD (.ctr true (2 + e0) c)) := folk_of (f := .ctr true (2 + e0) c) sqT_new
  have o1 : Folk.ok (.ctr true (2 + e0) c) = true := ok_ctr (by omega) (by omega) (by omega)
  have f1' := (same_new (o := .tup [.ref p1, .ref p2]) n3).dat ((same_new (o := .tup [.str "drop", .int (2 + (e0 : Int) + 1), .int ((c : Int) + (k : Int))]) n2).dat (d3.dat (noL_folk _) f1))
  have f2 : Dp K (upd H3 p2 (.tup [.str "drop", .int (2 + (e0 : Int) + 1), .int ((c : Int) + (k : Int))])) (.ref p2) (folkD (.ctr false (2 + e0 + 1) (c + k))) := folk_of (f := .ctr false (2 + e0 + 1) (c + k)) sqT_new
  have o2 : Folk.ok (.ctr false (2 + e0 + 1) (c + k)) = true := ok_ctr (by omega) (by omega) (by omega)
  have f2' := (same_new (o := .tup [.ref p1, .ref p2]) n3).dat f2
  have hp : Dp K (upd (upd H3 p2 (.tup [.str "drop", .int (2 + (e0 : Int) + 1), .int ((c : Int) + (k : Int))])) p3 (.tup [.ref p1, .ref p2])) (.ref p3) (rowD [.ctr true (2 + e0) c, .ctr false (2 + e0 + 1) (c + k)]) := .tup sqT_new (.cons f1' (.cons f2' .nil))
  have dd := ((((d1.trans d2).new (o := .tup [.str "twice", .int (2 + (e0 : Int)), .int (c : Nat)]) n1).trans d3).new (o := .tup [.str "drop", .int (2 + (e0 : Int) + 1), .int ((c : Int) + (k : Int))]) n2).new (o := .tup [.ref p1, .ref p2]) n3
  generalize upd (upd H3 p2 (.tup [.str "drop", .int (2 + (e0 : Int) + 1), .int ((c : Int) + (k : Int))])) p3 (.tup [.ref p1, .ref p2]) = H4 at hp dd
  have hd4 := dd.row hd
  refine w_lenR hd4 ?_
  walk_at "w"
  refine ⟨b, _, rfl, dd.b1, by omega, fun at' H5 hat d5 => ?_⟩
  have hd5 := d5.row hd4
  have hp5 := d5.row hp
  walk_at "w"
  refine w_slR_to hd5 fun v1 H6 s6 hv1 => ?_
  walk_at "w"
  refine w_catR hv1 (s6.dat hp5) (by rw [List.length_take]; show _ + 2 ≤ 10000; omega) fun v2 H7 s7 hv2 => ?_
  walk_at "w"
  refine w_slR_from (s7.dat (s6.dat hd5)) fun v3 H8 s8 hv3 => ?_
  refine w_catR (s8.dat hv2) hv3 (by rw [List.length_append, List.length_take, List.length_drop]; show _ + 2 + _ ≤ 10000; omega) fun v4 H9 s9 hv4 => ?_
  refine q v4 _ H9 ((((dd.trans d5).same s6).same s7).same s8 |>.same s9) ⟨?_, fun f hf => ?_⟩ hv4
  · rw [List.length_append, List.length_append, List.length_take, List.length_drop]
    show min at' r.length + 2 + _ ≤ 4
    omega
  · rcases List.mem_append.mp hf with hf | hf
    · rcases List.mem_append.mp hf with hf | hf
      · exact hok f (List.mem_of_mem_take hf)
      · rcases List.mem_cons.mp hf with hf | hf
        · rw [hf]; exact o1
        · rw [List.mem_singleton.mp hf]; exact o2
    · exact hok f (List.mem_of_mem_drop hf)
theorem w_ne0 {H : Hp} {p p' : Addr} {Q : VK} {a b : List Nat} (h1 : H p = some (.lst (vI a))) (h2 : H p' = some (.lst (vI b))) (q : Q (.bl (!bD (a = b))) H) : rNeD K (.ref p) (.ref p') H Q := w_neL (sqL_at h1) (sqL_at h2) q
theorem sem_l_least_round : ∀ vs H Q E, sp_l_least_round K vs H Q E → t_l_least_round K { nx := fun _ H' => Q .non H', rt := Q } (start ["house", "counts", "many", "copies", "least"] vs) H := by
  rintro vs H Q E ⟨x, r, rfl, hd, hR, q⟩
  show t_l_least_round K _ [some x, none, none, none, none] H
  unfold t_l_least_round
  have hro := rok_of hR
  have hl := hR.1
  have hWp := whole_pos hro
  have hWl := whole_le hro hl
  walk_at "w"
  refine ⟨x, r, rfl, hd, by omega, fun H1 cl s1 ncl hcl => ?_⟩
  walk_at "w"
  refine ⟨fun m σ H2 => ∃ n, σ = [some x, some (.ref cl), some (.int (n : Nat)), none, none] ∧ n ≤ whole r ∧ m = whole r - n ∧ Same H H2 ∧ H2 cl = some (.lst (vI (cn r n))), ⟨_, 0, rfl, by omega, rfl, s1, hcl⟩, ?_⟩
  rintro m σ H2 ⟨n, rfl, hnW, rfl, s2, hc2⟩
  have more : n = 0 ∨ cn r n ≠ begun r → n < whole r := fun h => by
    rcases h with h | h
    · omega
    · rcases Nat.lt_or_ge n (whole r) with h2 | h2
      · exact h2
      · have : n = whole r := by omega
        rw [this] at h
        exact absurd (cn_whole hro) h
  have body : ∀ (H3 : Hp) (D : Ends), n < whole r → Same H2 H3 → (∀ H4, Same H H4 → H4 cl = some (.lst (vI (cn r (n + 1)))) → D.nx [some x, some (.ref cl), some (.int ((n + 1 : Nat) : Int)), none, none] H4) →
      tSeq (tDrop (tCall (sp_l_told_on K) [] E0 (tCons (tVar 0) (tCons (tVar 1) (tCons (tC (.str "q")) tNil))))) (tAsg (tOp rAddI (tVar 2) (tC (.int 1))) (gName 2)) D [some x, some (.ref cl), some (.int (n : Nat)), none, none] H3 := by
    intro H3 D hn s3 k
    walk_at "w"
    have hcl2 : (cn r n).length = r.length := by
      rw [show cn r n = (told r (begun r) (qs n)).2 from congrArg Prod.snd (feed_told r (qs n) (begun r)), told_len]
      exact List.length_map _
    refine ⟨x, r, cl, cn r n, 113, by rw [q_sg]; rfl, s3.dat (s2.dat hd), hro, by omega, hcl2, s3 _ _ hc2, fun H4 m4 hc4 => ?_⟩
    walk_at "w"
    exact k H4 (fun p o e => m4.but p o (ne_of_none e ncl) ((s2.trans s3) _ _ e)) (by rw [cn_succ]; exact hc4)
  -- behind the while
  have fin : ∀ H3, Same H2 H3 → 1 ≤ n → cn r n = begun r → (tSeq (tAsg (tOp (rIxT K) (tCall (sp_l_copies K) [] E0 (tCons (tVar 0) (tCons (tVar 2) tNil))) (tC (.int 0))) (gName 3))
  (tSeq (tFor (iRng2 (tCons (tC (.int 1)) (tCons (tOp rAddI (tVar 2) (tC (.int 1))) tNil))) (gName 4)
  (tIfS (tAnd (tTest (tOp rEq (tOp rModI (tVar 2) (tVar 4)) (tC (.int 0)))) (tTest (tOp (rEqD K) (tVar 3) (tSl (rSlL K) (tOp rRep (tSl (rSlL K) (tVar 3) tNoPart (tPart (tVar 4))) (tVar 2)) tNoPart (tPart (tVar 2)))))) (tRet (tTup (tCons (tVar 4) (tCons (tCB (rSum K) (tCons (tSl (rSlL K) (tVar 3) tNoPart (tPart (tVar 4))) tNil)) tNil)))) tNext))
  (tRet (tC .non)))) { nx := fun _ H' => Q .non H', rt := Q } [some x, some (.ref cl), some (.int (n : Nat)), none, none] H3 := by
    intro H3 s3 hn1 hback
    have hM := perD_back hro hback
    have s3' := s2.trans s3
    walk_at "w"
    refine ⟨x, r, n, rfl, s3'.dat hd, hro, by omega, by omega, fun H4 cp cf cc s4 hcp ncf hcf => ?_⟩
    rw [copies_stp hro] at hcf
    have s4' := s3'.trans s4
    walk_at "w"
    refine ⟨1, (n : Int) + 1, rfl, ⟨by omega, by omega, by omega, by omega⟩, ?_⟩
    refine for_range (lo := 1) (n := ((n : Int) + 1 - 1).toNat) (fun i σ H5 => ∃ y, σ = [some x, some (.ref cl), some (.int (n : Nat)), some (.ref cf), y] ∧ Same H4 H5 ∧ ∀ k, 1 ≤ k → k ≤ i → k ∣ n → ¬ PerD r k) ⟨none, rfl, Same.refl _, fun k h1 h2 => by omega⟩ ?_ ?_
    · rintro i σ H5 hi ⟨y, rfl, s5, hno⟩
      have hp5 := s5 _ _ hcf
      walk_at "w"
      rw [show (1 : Int) + (i : Nat) = ((i + 1 : Nat) : Int) by omega]
      have next : ∀ H6, Same H4 H6 → (i + 1 ∣ n → ¬ PerD r (i + 1)) → ∃ y, [some x, some (.ref cl), some (.int (n : Nat)), some (.ref cf), some (.int ((i + 1 : Nat) : Int))] = [some x, some (.ref cl), some (.int (n : Nat)), some (.ref cf), y] ∧ Same H4 H6 ∧ ∀ k, 1 ≤ k → k ≤ i + 1 → k ∣ n → ¬ PerD r k := fun H6 s6 h => ⟨_, rfl, s6, fun k k1 k2 k3 => by
        rcases Nat.lt_or_ge i k with h5 | h5
        · have : k = i + 1 := by omega
          subst this
          exact h k3
        · exact hno k k1 h5 k3⟩
      rw [show ((n : Int) % ((i + 1 : Nat) : Int)) = ((n % (i + 1) : Nat) : Int) from rfl]
      walk_at "w"
      by_cases hm : n % (i + 1) = 0
      · refine w_dT (by omega) ?_
        have hdv := Nat.dvd_of_mod_eq_zero hm
        have hle := Nat.le_of_dvd (by omega) hdv
        walk_at "w"
        refine w_slI_to (sqL_at hp5) fun o no => ?_
        walk_at "w"
        rw [stp_take hle]
        refine w_rep upd_same (by omega) (by omega) ?_ fun o2 no2 => ?_
        · rw [List.length_map, stp_len, Int.toNat_natCast]
          have : (i + 1) * n ≤ 1296 * 1296 := Nat.mul_le_mul (by omega) (by omega)
          exact szOk _ (by omega)
        have e1 : (List.replicate ((n : Nat) : Int).toNat (vI (stp' r (i + 1)))).flatten = vI (List.replicate n (stp' r (i + 1))).flatten := by
          unfold vI
          rw [Int.toNat_natCast, List.map_flatten, List.map_replicate]
        rw [e1]
        walk_at "w"
        refine w_slI_to sqL_new fun o3 no3 => ?_
        have sx := (((same_new (o := .lst (vI (stp' r (i + 1)))) no).trans (same_new (o := .lst (vI (List.replicate n (stp' r (i + 1))).flatten)) no2)).trans (same_new (o := .lst (vI ((List.replicate n (stp' r (i + 1))).flatten.take n))) no3))
        have hp8 := sx _ _ hp5
        refine w_eqL (sqL_at hp8) sqL_new ?_
        walk_at "w"
        refine w_ifB (fun e => ?_) (fun e => ?_)
        · have hper := (rep_iff hM hn1 (by omega) hdv).mp (bT e)
          have hL : IsLeast r (i + 1) := least_of_min (by omega) hper fun k k1 k2 k3 => by
            have hls := lp_spec hro
            have hd1 := hls.2.2 k k3
            have hd2 := hls.2.2 n hM
            exact hno (lp r) hls.1 (by have := Nat.le_of_dvd (by omega) hd1; omega) hd2 hls.2.1
          walk_at "w"
          refine w_slI_to (sqL_at hp8) fun o4 no4 => ?_
          walk_at "w"
          refine w_sum sqL_new ?_
          walk_at "w"
          refine ⟨szOk 2, fun o5 no5 => ?_⟩
          have hsum := copies_sum hro (i + 1) n hle
          rw [copies_stp hro] at hsum
          rw [hsum]
          have := q _ o5 ((((s4'.trans s5).trans sx).trans (same_new no4)).trans (same_new no5)) ((((s4'.trans s5).trans sx).trans (same_new no4)).free no5) (by rw [lp_eq hro hL]; exact upd_same)
          exact this
        · walk_at "w"
          exact next _ (s5.trans sx) fun _ h => (bF e) ((rep_iff hM hn1 (by omega) hdv).mpr h)
      · refine w_dF (by omega) ?_
        walk_at "w"
        exact next _ s5 fun h => absurd (Nat.mod_eq_zero_of_dvd h) hm
    · rintro σ H5 ⟨y, rfl, s5, hno⟩
      exact absurd hM (hno n hn1 (by omega) (Nat.dvd_refl _))
  walk_at "w"
  by_cases h0 : n = 0
  · refine w_dT (by omega) ?_
    refine iteT ?_
    refine ⟨_, fun σ' H' q' => q', ?_⟩
    refine body H2 _ (more (.inl h0)) (Same.refl _) fun H4 s4 h4 => ?_
    exact ⟨_, by have := more (.inl h0); omega, n + 1, rfl, by have := more (.inl h0); omega, rfl, s4, h4⟩
  · refine w_dF (by omega) ?_
    walk_at "w"
    refine ⟨x, r, rfl, s2.dat hd, by omega, fun H3 c2 s3 nc2 hc3 => ?_⟩
    refine w_ne0 K (s3 _ _ hc2) hc3 ?_
    walk_at "w"
    by_cases hb : cn r n = begun r
    · rw [bD_t hb]
      refine iteF ?_
      exact fin H3 s3 (by omega) hb
    · rw [bD_f hb]
      refine iteT ?_
      refine ⟨_, fun σ' H' q' => q', ?_⟩
      refine body H3 _ (more (.inr hb)) s3 fun H4 s4 h4 => ?_
      exact ⟨_, by have := more (.inr hb); omega, n + 1, rfl, by have := more (.inr hb); omega, rfl, s4, h4⟩
end
end HH

namespace HH
open PySem PySem.Spec L2
local macro_rules | `(tactic| walk_at "cy") => `(tactic| first
  | assumption
  | exact L2.upd_same
  | exact L2.sqL_new
  | exact L2.sqT_new
  | exact L2.sqL_at (by assumption)
  | exact L2.sqT_at (by assumption)
  | (refine' L2.Same.seq (by assumption) ?k0; (case k0 => walk_at "cy"))
  | (refine' L2.Same.sqT (by assumption) ?k0; (case k0 => walk_at "cy"))
  | (refine' L2.Same.dat (by assumption) ?k0; (case k0 => walk_at "cy"))
  | (refine' (by assumption : L2.Same _ _) _ _ ?k0; (case k0 => walk_at "cy"))
  | (refine' L2.Same.seq (L2.same_new (by assumption)) ?k0; (case k0 => walk_at "cy"))
  | (refine' L2.Same.sqT (L2.same_new (by assumption)) ?k0; (case k0 => walk_at "cy"))
  | (refine' L2.Same.dat (L2.same_new (by assumption)) ?k0; (case k0 => walk_at "cy"))
  | (refine' L2.same_new (by assumption) _ _ ?k0; (case k0 => walk_at "cy"))
  | (refine' L2.Mv.sqT (by assumption) ?k0; (case k0 => walk_at "cy")))
local macro_rules | `(tactic| walk_at "w") => `(tactic| repeat (first
  | refine HH.stp ?_
  | with_reducible refine L2.iteT ?_
  | with_reducible refine L2.iteF ?_
  | ((with_reducible refine' HH.w_gtup ?k1 ?k2 ?_); (case k1 => walk_at "cy"); (case k2 => exact rfl))
  | ((with_reducible refine' HH.w_ixT ?k1 ?k2 ?_); (case k1 => walk_at "cy"); (case k2 => exact rfl))
  | ((with_reducible refine' HH.w_ixL ?k1 ?k2 ?_); (case k1 => walk_at "cy"); (case k2 => exact rfl))
  | ((with_reducible refine' HH.w_lenL ?k1 ?_); (case k1 => walk_at "cy"))
  | ((with_reducible refine' HH.w_lenT ?k1 ?_); (case k1 => walk_at "cy"))
  | ((with_reducible refine' HH.w_exT ?k1 ?_); (case k1 => walk_at "cy"))
  | ((with_reducible refine' HH.w_exL ?k1 ?_); (case k1 => walk_at "cy"))
  | ((with_reducible refine' HH.w_tyL ?k1 ?_); (case k1 => walk_at "cy"))
  | ((with_reducible refine' HH.w_setL ?k1 ?k2 ?_); (case k1 => walk_at "cy"); (case k2 => exact rfl))
  | ((with_reducible refine' HH.w_modI ?k1 ?_); (case k1 => first | (with_reducible assumption) | omega))
  | ((with_reducible refine' HH.w_divI ?k1 ?_); (case k1 => (constructor <;> omega)))))
local macro_rules | `(tactic| walk_at "v") => `(tactic| ((repeat ((fail_if_success (with_reducible refine HH.isIf ?_)); first
  | refine HH.stp ?_
  | with_reducible refine L2.iteT ?_
  | with_reducible refine L2.iteF ?_
  | ((with_reducible refine' HH.w_gtup ?k1 ?k2 ?_); (case k1 => walk_at "cy"); (case k2 => exact rfl))
  | ((with_reducible refine' HH.w_ixT ?k1 ?k2 ?_); (case k1 => walk_at "cy"); (case k2 => exact rfl))
  | ((with_reducible refine' HH.w_ixL ?k1 ?k2 ?_); (case k1 => walk_at "cy"); (case k2 => exact rfl))
  | ((with_reducible refine' HH.w_lenL ?k1 ?_); (case k1 => walk_at "cy"))
  | ((with_reducible refine' HH.w_lenT ?k1 ?_); (case k1 => walk_at "cy"))
  | ((with_reducible refine' HH.w_exT ?k1 ?_); (case k1 => walk_at "cy"))
  | ((with_reducible refine' HH.w_exL ?k1 ?_); (case k1 => walk_at "cy"))
  | ((with_reducible refine' HH.w_tyL ?k1 ?_); (case k1 => walk_at "cy"))
  | ((with_reducible refine' HH.w_setL ?k1 ?k2 ?_); (case k1 => walk_at "cy"); (case k2 => exact rfl))
  | ((with_reducible refine' HH.w_modI ?k1 ?_); (case k1 => first | (with_reducible assumption) | omega))
  | ((with_reducible refine' HH.w_divI ?k1 ?_); (case k1 => (constructor <;> omega)))))); (try (with_reducible refine HH.isIf ?_)))
theorem lp_le {r : Row} (h : rok r) (hl : r.length ≤ 4) : lp r ≤ 1296 := by
  have h1 := Nat.le_of_dvd (whole_pos h) ((lp_spec h).2.2 _ (perD_whole h))
  have h2 := whole_le h hl
  omega
section
variable (K : PySem.W.Frag)
noncomputable def partV (r o : Row) : V := match parted r o with
  | none => .non
  | some w => .str (tx w)
theorem partV_non {r o : Row} : partV r o = .non ↔ parted r o = none := by
  unfold partV
  cases parted r o with
  | none => exact Iff.intro (fun _ => rfl) (fun _ => rfl)
  | some w => exact Iff.intro (fun h => by cases h) (fun h => by cases h)
def sp_parted : Sp := fun vs H Q _ => ∃ (x y : V) (r o : Row), vs = [x, y] ∧ Dp K H x (rowD r) ∧ Dp K H y (rowD o) ∧ Row.Ok r ∧ Row.Ok o ∧ ∀ H', Same H H' → Q (partV r o) H'
def sp_are_alike : Sp := fun vs H Q _ => ∃ (x y : V) (r o : Row), vs = [x, y] ∧ Dp K H x (rowD r) ∧ Dp K H y (rowD o) ∧ Row.Ok r ∧ Row.Ok o ∧ ∀ H', Same H H' → Q (.bl (bD (alike r o))) H'
def sp_parting : Sp := fun vs H Q _ => ∃ (x y : V) (r o : Row), vs = [x, y] ∧ Dp K H x (rowD r) ∧ Dp K H y (rowD o) ∧ Row.Ok r ∧ Row.Ok o ∧ ∀ H', Same H H' → Q (partV r o) H'
def sp_does_nothing : Sp := fun vs H Q _ => ∃ (x : V) (r : Row), vs = [x] ∧ Dp K H x (rowD r) ∧ Row.Ok r ∧ ∀ H', Same H H' → Q (.bl (bD (alike r []))) H'
def undoneR : Folk → Row
  | .hears _ _ => []
  | .ctr tw e c => if tw = true ∧ e ≤ 5 then [.ctr false (e + 1) c, .ctr false (e + 1) (c + 1)] else []
def sp_undone_by : Sp := fun vs H Q _ => ∃ (x : V) (f : Folk), vs = [x] ∧ Dp K H x (folkD f) ∧ f.ok = true ∧ ∀ (v : V) H', Same H H' → Dp K H' v (rowD (undoneR f)) → Q v H'
theorem len_parted : ∀ vs H Q E, sp_parted K vs H Q E → vs.length = 2 := by rintro _ _ _ _ ⟨_, _, _, _, rfl, _⟩; rfl
theorem len_are_alike : ∀ vs H Q E, sp_are_alike K vs H Q E → vs.length = 2 := by rintro _ _ _ _ ⟨_, _, _, _, rfl, _⟩; rfl
theorem len_parting : ∀ vs H Q E, sp_parting K vs H Q E → vs.length = 2 := by rintro _ _ _ _ ⟨_, _, _, _, rfl, _⟩; rfl
theorem len_does_nothing : ∀ vs H Q E, sp_does_nothing K vs H Q E → vs.length = 1 := by rintro _ _ _ _ ⟨_, _, rfl, _⟩; rfl
theorem len_undone_by : ∀ vs H Q E, sp_undone_by K vs H Q E → vs.length = 1 := by rintro _ _ _ _ ⟨_, _, rfl, _⟩; rfl
end
def t_parted (K : PySem.W.Frag) : TS :=
  (tSeq (tAsg (tOp rAddI (tCall (sp_least_round K) [] E0 (tCons (tVar 0) tNil)) (tCall (sp_least_round K) [] E0 (tCons (tVar 1) tNil))) (gName 2))
  (tSeq (tPar 3 4 (tCons (tCall (sp_steps K) [] E0 (tCons (tVar 0) (tCons (tVar 2) tNil))) (tCons (tCall (sp_steps K) [] E0 (tCons (tVar 1) (tCons (tVar 2) tNil))) tNil)))
  (tSeq (tAsg (tLc (iStr (tC (.str "abcdefghijklmnopqrstuvwxyz"))) (gName 7) (tTest (tOp rNe (tCall (sp_heard_as K) [] E0 (tCons (tVar 0) (tCons (tVar 7) tNil))) (tCall (sp_heard_as K) [] E0 (tCons (tVar 1) (tCons (tVar 7) tNil))))) (tVar 7) [7]) (gName 5))
  (tSeq (tFor (iRng1 (tCons (tVar 2) tNil)) (gName 6)
  (tSeq (tIfS (tTest (tOp rNe (tOp (rIxL K) (tVar 3) (tVar 6)) (tOp (rIxL K) (tVar 4) (tVar 6)))) (tRet (tOp rMulS (tC (.str "a")) (tOp rAddI (tVar 6) (tC (.int 1))))) tNext)
  (tIfS (tAnd (tTest (tOp rGtI (tOp (rIxL K) (tVar 3) (tVar 6)) (tC (.int 0)))) (tTest (tOp (rNeD K) (tVar 5) (tLst tNil)))) (tRet (tOp rAddS (tOp rMulS (tC (.str "a")) (tVar 6)) (tOp (rIxL K) (tVar 5) (tC (.int 0))))) tNext)))
  (tRet (tC .non))))))

def t_are_alike (K : PySem.W.Frag) : TS :=
  (tSeq (tDrop (tCall (sp_need_row K) [] E0 (tCons (tVar 0) tNil)))
  (tSeq (tDrop (tCall (sp_need_row K) [] E0 (tCons (tVar 1) tNil)))
  (tRet (tOp rIsNon (tCall (sp_parted K) [] E0 (tCons (tVar 0) (tCons (tVar 1) tNil))) (tC .non)))))

def t_parting (K : PySem.W.Frag) : TS :=
  (tSeq (tDrop (tCall (sp_need_row K) [] E0 (tCons (tVar 0) tNil)))
  (tSeq (tDrop (tCall (sp_need_row K) [] E0 (tCons (tVar 1) tNil)))
  (tRet (tCall (sp_parted K) [] E0 (tCons (tVar 0) (tCons (tVar 1) tNil))))))

def t_does_nothing (K : PySem.W.Frag) : TS :=
  (tSeq (tDrop (tCall (sp_need_row K) [] E0 (tCons (tVar 0) tNil)))
  (tRet (tOp rIsNon (tCall (sp_parted K) [] E0 (tCons (tVar 0) (tCons (tTup tNil) tNil))) (tC .non))))

def t_undone_by (K : PySem.W.Frag) : TS :=
  (tSeq (tIfS (tNot (tB (tCall (sp_is_one K) [] E0 (tCons (tVar 0) tNil)))) tNever tNext)
  (tSeq (tAsg (tVar 0) (gTup K 3 (gCons (gName 1) (gCons (gName 2) (gCons (gName 3) gNil)))))
  (tSeq (tIfS (tOr (tTest (tOp rNe (tVar 1) (tC (.str "twice")))) (tTest (tOp rGtI (tVar 2) (tC (.int 5))))) (tRet (tTup tNil)) tNext)
  (tRet (tTup (tCons (tTup (tCons (tC (.str "drop")) (tCons (tOp rAddI (tVar 2) (tC (.int 1))) (tCons (tVar 3) tNil)))) (tCons (tTup (tCons (tC (.str "drop")) (tCons (tOp rAddI (tVar 2) (tC (.int 1))) (tCons (tOp rAddI (tVar 3) (tC (.int 1))) tNil)))) tNil)))))))

theorem alpha_tl : (Str.ofString "abcdefghijklmnopqrstuvwxyz").cps.toList = smalls := by decide +kernel
theorem fold_app : ∀ (l : List (Array Nat)) (acc : Array Nat), (l.foldl (· ++ ·) acc).toList = acc.toList ++ (l.map Array.toList).flatten
  | [], acc => by simp
  | a :: l, acc => by
    rw [List.foldl_cons, fold_app l, List.map_cons, List.flatten_cons]
    simp
theorem tx_mul (w : List Nat) (n : Nat) : Txt.mul (tx w) (n : Int) = tx (List.replicate n w).flatten := by
  unfold Txt.mul
  by_cases h0 : n = 0
  · subst h0
    rw [if_pos (by decide)]
    rfl
  · rw [if_neg (by omega)]
    by_cases h1 : (((n : Int) == 1) || ((tx w).length == 0)) = true
    · rw [if_pos h1]
      rw [Bool.or_eq_true] at h1
      rcases h1 with h | h
      · have : n = 1 := by have := eq_of_beq h; omega
        subst this
        simp
      · have h2 : w.length = 0 := eq_of_beq h
        have : w = [] := List.length_eq_zero_iff.mp h2
        subst this
        congr 1
        simp
    · rw [if_neg h1]
      apply tl_inj
      show ((List.replicate (n : Int).toNat w.toArray).foldl (· ++ ·) #[]).toList = (List.replicate n w).flatten
      rw [fold_app, Int.toNat_natCast, List.map_replicate]
      rfl
theorem mulOk {w : List Nat} {n : Nat} (h : w.length * n ≤ 10000) (hn : n ≤ 1000000) : MulOk (tx w) (n : Int) := by
  rcases Nat.eq_zero_or_pos w.length with h0 | h0
  · refine ⟨?_, fun _ h2 => ?_, fun _ h2 => ?_⟩
    · rw [decide_eq_false (by omega), decide_eq_false (by omega)]
      rfl
    · rw [Bool.or_eq_false_iff] at h2
      exact absurd h0 (ne_of_beq_false h2.2)
    · rw [Bool.or_eq_false_iff] at h2
      exact absurd h0 (ne_of_beq_false h2.2)
  · refine ⟨?_, fun h1 _ => ?_, fun h1 _ => ?_⟩
    · rw [decide_eq_false (by omega), decide_eq_false (by omega)]
      rfl
    · have : ((w.length : Nat) : Int) ≤ (2 ^ 63 - 1) / (n : Int) := Int.le_ediv_of_mul_le (by omega) (by
        have h3 : ((w.length : Nat) : Int) * (n : Int) = ((w.length * n : Nat) : Int) := (Int.natCast_mul _ _).symm
        rw [h3]
        omega)
      show ¬ ((w.length : Nat) : Int) > _
      omega
    · show Builtin.Str.tooLong (w.length * (n : Int).toNat) = false
      rw [Int.toNat_natCast]
      exact decide_eq_false (by have : sizeLine = sizeLine := rfl; have := szOk (w.length * n) (by omega); omega)
section
variable (K : PySem.W.Frag)
theorem dS_dp {H : Hp} : ∀ cs : List Nat, DpAll K H (vS cs) (cs.map fun c => .str (sg c))
  | [] => .nil
  | c :: cs => .cons (.str _) (dS_dp cs)
theorem dS_lay : ∀ cs : List Nat, (∀ c ∈ cs, isSmall c = true) → PyData.canLayAll0 (cs.map fun c => .str (sg c)) = true ∧ PyData.depthAll (cs.map fun c => .str (sg c)) = 0
  | [], _ => ⟨rfl, rfl⟩
  | c :: cs, h => by
    have ih := dS_lay cs fun d hd => h d (List.mem_cons_of_mem _ hd)
    constructor
    · show (PyData.strOk (sg c) && PyData.canLayAll0 (cs.map fun c => .str (sg c))) = true
      rw [ih.1, Bool.and_true]
      have hc := h c List.mem_cons_self
      unfold isSmall at hc
      rw [Bool.and_eq_true, decide_eq_true_eq, decide_eq_true_eq] at hc
      show (#[c] : Array Nat).all (· < 0x110000) = true
      simp
      omega
    · show max 0 (PyData.depthAll (cs.map fun c => .str (sg c))) = 0
      rw [ih.2]
      rfl
theorem shp_S (cs : List Nat) (h : ∀ c ∈ cs, isSmall c = true) : SeqAt.shaped (.list (cs.map fun c => .str (sg c))) = true := by
  show (PyData.canLayAll0 (cs.map fun c => .str (sg c)) && decide (PyData.depthAll (cs.map fun c => .str (sg c)) + 1 ≤ 64)) = true
  rw [(dS_lay cs h).1, (dS_lay cs h).2]
  rfl
theorem ok_nil : Row.Ok [] := ⟨by decide, by decide⟩
theorem flat1 (n c : Nat) : (List.replicate n [c]).flatten = List.replicate n c := by
  induction n with
  | zero => rfl
  | succ n ih => rw [List.replicate_succ, List.flatten_cons, ih]; rfl
theorem w_mulA {n : Nat} {H : Hp} {Q : VK} (hn : n ≤ 10000) (q : Q (.str (tx (List.replicate n 97))) H) : rMulS (.str (Str.ofString "a")) (.int (n : Nat)) H Q := by
  have e : Str.ofString "a" = tx [97] := by decide +kernel
  rw [e]
  refine w_mulS (mulOk (by show 1 * n ≤ 10000; omega) (by omega)) ?_
  rw [tx_mul, flat1]
  exact q
theorem sem_parted : ∀ vs H Q E, sp_parted K vs H Q E → t_parted K { nx := fun _ H' => Q .non H', rt := Q } (start ["row", "other", "many", "one", "two", "unlike", "place", "letter"] vs) H := by
  rintro vs H Q E ⟨x, y, r, o, rfl, hd, hd2, hR, hO, q⟩
  show t_parted K _ [some x, some y, none, none, none, none, none, none] H
  unfold t_parted
  have hro := rok_of hR
  have hoo := rok_of hO
  have hp := lp_spec hro
  have hq := lp_spec hoo
  have hp6 := lp_le hro hR.1
  have hq6 := lp_le hoo hO.1
  have hpv : ∀ v, parted r o = v → (match v with | none => V.non | some w => V.str (tx w)) = partV r o := fun v h => by unfold partV; rw [h]
  unfold parted at hpv
  walk_at "w"
  refine ⟨x, r, rfl, hd, hro, hR.1, fun H1 s1 => ?_⟩
  walk_at "w"
  refine ⟨y, o, rfl, s1.dat hd2, hoo, hO.1, fun H2 s2 => ?_⟩
  have s12 := s1.trans s2
  generalize lp r = p at hp hp6 hpv
  generalize lp o = p' at hq hq6 hpv
  walk_at "w"
  refine ⟨x, r, p + p', rfl, s12.dat hd, hro, by omega, fun H3 a1 s3 n1 h1 => ?_⟩
  walk_at "w"
  have s13 := s12.trans s3
  refine ⟨y, o, p + p', rfl, s13.dat hd2, hoo, by omega, fun H4 a2 s4 n2 h2 => ?_⟩
  have h1' := s4 _ _ h1
  have s14 := s13.trans s4
  have hdx := s14.dat hd
  have hdy := s14.dat hd2
  walk_at "w"
  intro D nD
  refine lc_same (walk_str (z := "abcdefghijklmnopqrstuvwxyz")) nD [some x, some y, some (.int ((p : Int) + (p' : Int))), some (.ref a1), some (.ref a2), none, none, none] rfl (fun i => vS ((smalls.take i).filter fun c => bD (¬ heardAs r c = heardAs o c))) rfl (fun _ _ => trivial) (fun i v H5 H5' hi z yy => ?_) (fun H5 s5 hD => ?_)
  · obtain ⟨rfl, c, hc, rfl⟩ := yy
    have hc' : smalls[i]? = some c := by rw [← alpha_tl, Array.getElem?_toList]; exact hc
    have hsz : (vS ((smalls.take i).filter fun c => bD (¬ heardAs r c = heardAs o c))).length < sizeLine := szLt _ (by
      rw [List.length_map]
      have g1 := List.length_filter_le (fun c => bD (¬ heardAs r c = heardAs o c)) (smalls.take i)
      have g2 : (smalls.take i).length ≤ smalls.length := by rw [List.length_take]; exact Nat.min_le_right _ _
      have g3 : smalls.length = 26 := by decide
      omega)
    walk_at "w"
    refine ⟨rfl, ?_⟩
    walk_at "w"
    refine ⟨x, r, c, rfl, z.1.dat hdx, ?_⟩
    walk_at "w"
    refine ⟨y, o, c, rfl, z.1.dat hdy, ?_⟩
    walk_at "w"
    by_cases he : heardAs r c = heardAs o c
    · refine w_nF (congrArg sg he) ?_
      refine lc_skip z (Same.refl _) ?_
      rw [List.take_add_one, hc', List.filter_append]
      have : ([c].filter fun c => bD (¬ heardAs r c = heardAs o c)) = [] := by
        rw [List.filter_cons, if_neg (by rw [bD_f (fun h => h he)]; decide)]
        rfl
      show vS (_ ++ [c].filter fun c => bD (¬ heardAs r c = heardAs o c)) = _
      rw [this, List.append_nil]
    · refine w_nT (fun h => he (sg_inj h)) ?_
      walk_at "w"
      refine lc_put nD z (Same.refl _) hsz ?_
      rw [List.take_add_one, hc', List.filter_append]
      have : ([c].filter fun c => bD (¬ heardAs r c = heardAs o c)) = [c] := by
        rw [List.filter_cons, if_pos (bD_t he)]
        rfl
      show vS (_ ++ [c].filter fun c => bD (¬ heardAs r c = heardAs o c)) = _
      rw [this]
      unfold vS
      rw [List.map_append]
      rfl
  · have hu : (smalls.take (Str.cps "abcdefghijklmnopqrstuvwxyz").size).filter (fun c => bD (¬ heardAs r c = heardAs o c)) = unl r o := by
      rw [List.take_of_length_le (by decide +kernel)]
      rfl
    rw [hu] at hD
    have h1'' := s5 _ _ h1'
    have h2'' := s5 _ _ h2
    have s15 := s14.trans s5
    walk_at "v"
    refine ⟨(p : Int) + (p' : Int), rfl, by omega, by omega, ?_⟩
    have hn : ((p : Int) + (p' : Int)).toNat = p + p' := by omega
    have hus : ∀ c ∈ unl r o, isSmall c = true := fun c hc => mem_smalls.mp (List.mem_filter.mp hc).1
    generalize hU : unl r o = u at hD hpv hus
    refine for_range (lo := 0) (n := ((p : Int) + (p' : Int)).toNat) (fun i σ H6 => ∃ (y6 : Option V), σ = [some x, some y, some (.int ((p : Int) + (p' : Int))), some (.ref a1), some (.ref a2), some (.ref D), y6, none] ∧ Same H5 H6 ∧ pf r o u (p + p') 0 = pf r o u (p + p' - i) i) ⟨none, rfl, Same.refl _, by rw [Nat.sub_zero]⟩ ?_ ?_
    · rintro i σ H6 hi ⟨y6, rfl, s6, hpf⟩
      rw [hn] at hi
      have g1 := s6 _ _ h1''
      have g2 := s6 _ _ h2''
      have gD := s6 _ _ hD
      obtain ⟨k, hk⟩ : ∃ k, p + p' - i = k + 1 := ⟨p + p' - i - 1, by omega⟩
      rw [hk] at hpf
      have hpf' : pf r o u (k + 1) i = if dl r i = dl o i then (if 0 < dl r i ∧ u ≠ [] then some (List.replicate i 97 ++ [u.headD 0]) else pf r o u k (i + 1)) else some (List.replicate (i + 1) 97) := rfl
      have at1 : ∀ (w : Row), atI (vI (stp' w (p + p'))) (i : Int) = some (.int (dl w i : Nat)) := fun w => at_of rfl (by rw [List.getElem?_map, stp_get w hi]; rfl)
      walk_at "v"
      refine w_ifS ?_
      rw [show (0 : Int) + (i : Nat) = ((i : Nat) : Int) by omega]
      walk_at "v"
      refine w_ixL (sqL_at g1) (at1 r) ?_
      walk_at "v"
      refine w_ixL (sqL_at g2) (at1 o) ?_
      walk_at "v"
      by_cases he : dl r i = dl o i
      · rw [if_pos he] at hpf'
        refine w_nF (by rw [he]) ?_
        walk_at "v"
        refine w_ifS ?_
        walk_at "v"
        refine w_ixL (sqL_at g1) (at1 r) ?_
        walk_at "v"
        have next : ∀ H7, Same H6 H7 → ¬ (0 < dl r i ∧ u ≠ []) → ∃ (y6 : Option V), [some x, some y, some (.int ((p : Int) + (p' : Int))), some (.ref a1), some (.ref a2), some (.ref D), some (.int (i : Nat)), none] = [some x, some y, some (.int ((p : Int) + (p' : Int))), some (.ref a1), some (.ref a2), some (.ref D), y6, none] ∧ Same H5 H7 ∧ pf r o u (p + p') 0 = pf r o u (p + p' - (i + 1)) (i + 1) := fun H7 s7 h => ⟨_, rfl, s6.trans s7, by
          rw [hpf, hpf', if_neg h]
          congr 1
          omega⟩
        by_cases hpos : 0 < dl r i
        · refine w_dT (by omega) ?_
          walk_at "v"
          refine ⟨szOk 0, fun e ne => ?_⟩
          have cmp : ∀ (H7 : Hp) (Q' : VK), H7 D = some (.lst (vS u)) → H7 e = some (.lst []) → Q' (.bl (!bD (u = []))) H7 → rNeD K (.ref D) (.ref e) H7 Q' := fun H7 Q' b1 b2 b3 =>
            ⟨.list (u.map fun c => .str (sg c)), .list [], .lst (sqL_at b1) (dS_dp K u), .lst (sqL_at b2) .nil, shp_S u hus, by decide, by
              rw [show PyData.eqv (.list (u.map fun c => .str (sg c))) (.list []) = bD (u = []) from by
                cases u with
                | nil => exact (bD_t rfl).symm
                | cons a b => exact (bD_f (fun h => by cases h)).symm]
              exact b3⟩
          refine cmp _ _ ((same_new ne) _ _ gD) upd_same ?_
          walk_at "v"
          by_cases hu0 : u = []
          · refine w_nF hu0 ?_
            walk_at "v"
            exact next _ (same_new ne) fun h => h.2 hu0
          · refine w_nT hu0 ?_
            rw [if_pos ⟨hpos, hu0⟩] at hpf'
            obtain ⟨c, u', rfl⟩ : ∃ c u', u = c :: u' := by
              cases u with
              | nil => exact absurd rfl hu0
              | cons c u' => exact ⟨c, u', rfl⟩
            walk_at "v"
            refine w_mulA (by omega) ?_
            walk_at "v"
            refine w_ixL (i := 0) (v := .str (sg c)) (sqL_at ((same_new ne) _ _ gD)) (at_of (j := 0) rfl rfl) ?_
            refine w_addW (w2 := [c]) (by rw [List.length_replicate]; show i + 1 ≤ _; omega) ?_
            have := q _ ((s15.trans s6).trans (same_new (o := .lst []) ne))
            rw [← hpv _ (hpf.trans hpf')] at this
            exact this
        · refine w_dF (by omega) ?_
          walk_at "v"
          exact next _ (Same.refl _) fun h => hpos h.1
      · rw [if_neg he] at hpf'
        refine w_nT (by omega) ?_
        walk_at "v"
        refine w_mulA (n := i + 1) (by omega) ?_
        have := q _ (s15.trans s6)
        rw [← hpv _ (hpf.trans hpf')] at this
        exact this
    · rintro σ H6 ⟨y6, rfl, s6, hpf⟩
      rw [hn, Nat.sub_self] at hpf
      walk_at "v"
      have := q _ (s15.trans s6)
      rw [← hpv _ hpf] at this
      exact this
end
section
variable (K : PySem.W.Frag)
theorem bD_partV {r o : Row} (hR : Row.Ok r) (hO : Row.Ok o) : bD (partV r o = .non) = bD (alike r o) := bD_congr (partV_non.trans (parted_none (rok_of hR) (rok_of hO)))
theorem sem_are_alike : ∀ vs H Q E, sp_are_alike K vs H Q E → t_are_alike K { nx := fun _ H' => Q .non H', rt := Q } (start ["row", "other"] vs) H := by
  rintro vs H Q E ⟨x, y, r, o, rfl, hd, hd2, hR, hO, q⟩
  show t_are_alike K _ [some x, some y] H
  unfold t_are_alike
  walk_at "w"
  refine ⟨x, rowD r, rfl, hd, fit_row r, isRow_of hR, fun H1 s1 => ?_⟩
  walk_at "w"
  refine ⟨y, rowD o, rfl, s1.dat hd2, fit_row o, isRow_of hO, fun H2 s2 => ?_⟩
  walk_at "w"
  refine ⟨x, y, r, o, rfl, s2.dat (s1.dat hd), s2.dat (s1.dat hd2), hR, hO, fun H3 s3 => ?_⟩
  walk_at "w"
  rw [bD_partV hR hO]
  exact q H3 ((s1.trans s2).trans s3)
theorem sem_parting : ∀ vs H Q E, sp_parting K vs H Q E → t_parting K { nx := fun _ H' => Q .non H', rt := Q } (start ["row", "other"] vs) H := by
  rintro vs H Q E ⟨x, y, r, o, rfl, hd, hd2, hR, hO, q⟩
  show t_parting K _ [some x, some y] H
  unfold t_parting
  walk_at "w"
  refine ⟨x, rowD r, rfl, hd, fit_row r, isRow_of hR, fun H1 s1 => ?_⟩
  walk_at "w"
  refine ⟨y, rowD o, rfl, s1.dat hd2, fit_row o, isRow_of hO, fun H2 s2 => ?_⟩
  walk_at "w"
  exact ⟨x, y, r, o, rfl, s2.dat (s1.dat hd), s2.dat (s1.dat hd2), hR, hO, fun H3 s3 => q H3 ((s1.trans s2).trans s3)⟩
theorem sem_does_nothing : ∀ vs H Q E, sp_does_nothing K vs H Q E → t_does_nothing K { nx := fun _ H' => Q .non H', rt := Q } (start ["row"] vs) H := by
  rintro vs H Q E ⟨x, r, rfl, hd, hR, q⟩
  show t_does_nothing K _ [some x] H
  unfold t_does_nothing
  walk_at "w"
  refine ⟨x, rowD r, rfl, hd, fit_row r, isRow_of hR, fun H1 s1 => ?_⟩
  walk_at "w"
  refine ⟨szOk 0, fun p np => ?_⟩
  walk_at "w"
  refine ⟨x, .ref p, r, [], rfl, (same_new np).dat (s1.dat hd), .tup sqT_new .nil, hR, ok_nil, fun H3 s3 => ?_⟩
  walk_at "w"
  rw [bD_partV hR ok_nil]
  exact q H3 ((s1.trans (same_new np)).trans s3)
theorem kind_tw (tw : Bool) : bD (kindOf tw = "twice") = tw := by
  cases tw with
  | true => exact bD_t rfl
  | false => exact bD_f (by decide +kernel)
theorem sem_undone_by : ∀ vs H Q E, sp_undone_by K vs H Q E → t_undone_by K { nx := fun _ H' => Q .non H', rt := Q } (start ["one", "kind", "every", "counted"] vs) H := by
  rintro vs H Q E ⟨x, f, rfl, hd, hf, q⟩
  show t_undone_by K _ [some x, none, none, none] H
  unfold t_undone_by
  walk_at "w"
  refine ⟨x, folkD f, rfl, hd, fit_folk f, fun H1 s1 => ?_⟩
  rw [isOne_of hf]
  walk_at "w"
  refine iteF ?_
  obtain ⟨a, rfl, hs⟩ := folk_inv (s1.dat hd)
  have none' : ∀ H2, Same H H2 → undoneR f = [] → tRet (tTup tNil) { nx := fun _ H' => Q .non H', rt := Q } [some (.ref a), none, none, none] H2 := fun H2 s2 e => by
    walk_at "w"
    refine ⟨szOk 0, fun p np => ?_⟩
    refine q _ _ (s2.trans (same_new np)) ?_
    rw [e]
    exact .tup sqT_new .nil
  cases f with
  | hears u v =>
    have hs' : SqT K H1 a [.str "hears", .str (sg u), .str (sg v)] := hs
    walk_at "w"
    refine w_nT (by decide +kernel) ?_
    walk_at "w"
    refine ⟨szOk 0, fun p np => ?_⟩
    exact q _ _ (s1.trans (same_new np)) (.tup sqT_new .nil)
  | ctr tw e c =>
    have hs' : SqT K H1 a [.str (kindOf tw), .int (e : Nat), .int (c : Nat)] := hs
    walk_at "w"
    have hno : ¬ (tw = true ∧ e ≤ 5) → ∀ y1 y2 y3, tRet (tTup tNil) { nx := fun _ H' => Q .non H', rt := Q } [some (.ref a), y1, y2, y3] H1 := fun h y1 y2 y3 => by
      walk_at "w"
      refine ⟨szOk 0, fun p np => ?_⟩
      refine q _ _ (s1.trans (same_new np)) ?_
      rw [show undoneR (.ctr tw e c) = [] from if_neg h]
      exact .tup sqT_new .nil
    cases tw with
    | false =>
      refine w_nT (by decide +kernel) ?_
      exact hno (fun h => by cases h.1) _ _ _
    | true =>
      refine w_nF rfl ?_
      walk_at "w"
      by_cases h5 : e ≤ 5
      · refine w_dF (by omega) ?_
        walk_at "w"
        refine ⟨szOk 3, fun p1 n1 => ?_⟩
        walk_at "w"
        refine ⟨szOk 3, fun p2 n2 => ?_⟩
        walk_at "w"
        refine ⟨szOk 2, fun p3 n3 => ?_⟩
        refine q _ _ (((s1.trans (same_new n1)).trans (same_new n2)).trans (same_new n3)) ?_
        rw [show undoneR (.ctr true e c) = [.ctr false (e + 1) c, .ctr false (e + 1) (c + 1)] from if_pos ⟨rfl, h5⟩]
        exact .tup sqT_new (.cons (folk_of (f := .ctr false (e + 1) c) (sqT_at ((same_new n3) _ _ ((same_new n2) _ _ upd_same)))) (.cons (folk_of (f := .ctr false (e + 1) (c + 1)) (sqT_at ((same_new n3) _ _ upd_same))) .nil))
      · refine w_dT (by omega) ?_
        exact hno (fun h => h5 h.2) _ _ _
end
end HH

namespace HH
open PySem PySem.Spec L2
local macro_rules | `(tactic| walk_at "cy") => `(tactic| first
  | assumption
  | exact L2.upd_same
  | exact L2.sqL_new
  | exact L2.sqT_new
  | exact L2.sqL_at (by assumption)
  | exact L2.sqT_at (by assumption)
  | (refine' L2.Same.seq (by assumption) ?k0; (case k0 => walk_at "cy"))
  | (refine' L2.Same.sqT (by assumption) ?k0; (case k0 => walk_at "cy"))
  | (refine' L2.Same.dat (by assumption) ?k0; (case k0 => walk_at "cy"))
  | (refine' (by assumption : L2.Same _ _) _ _ ?k0; (case k0 => walk_at "cy"))
  | (refine' L2.Same.seq (L2.same_new (by assumption)) ?k0; (case k0 => walk_at "cy"))
  | (refine' L2.Same.sqT (L2.same_new (by assumption)) ?k0; (case k0 => walk_at "cy"))
  | (refine' L2.Same.dat (L2.same_new (by assumption)) ?k0; (case k0 => walk_at "cy"))
  | (refine' L2.same_new (by assumption) _ _ ?k0; (case k0 => walk_at "cy"))
  | (refine' L2.Mv.sqT (by assumption) ?k0; (case k0 => walk_at "cy")))
local macro_rules | `(tactic| walk_at "w") => `(tactic| repeat (first
  | refine HH.stp ?_
  | with_reducible refine L2.iteT ?_
  | with_reducible refine L2.iteF ?_
  | ((with_reducible refine' HH.w_gtup ?k1 ?k2 ?_); (case k1 => walk_at "cy"); (case k2 => exact rfl))
  | ((with_reducible refine' HH.w_ixT ?k1 ?k2 ?_); (case k1 => walk_at "cy"); (case k2 => exact rfl))
  | ((with_reducible refine' HH.w_ixL ?k1 ?k2 ?_); (case k1 => walk_at "cy"); (case k2 => exact rfl))
  | ((with_reducible refine' HH.w_lenL ?k1 ?_); (case k1 => walk_at "cy"))
  | ((with_reducible refine' HH.w_lenT ?k1 ?_); (case k1 => walk_at "cy"))
  | ((with_reducible refine' HH.w_exT ?k1 ?_); (case k1 => walk_at "cy"))
  | ((with_reducible refine' HH.w_exL ?k1 ?_); (case k1 => walk_at "cy"))
  | ((with_reducible refine' HH.w_tyL ?k1 ?_); (case k1 => walk_at "cy"))
  | ((with_reducible refine' HH.w_setL ?k1 ?k2 ?_); (case k1 => walk_at "cy"); (case k2 => exact rfl))
  | ((with_reducible refine' HH.w_modI ?k1 ?_); (case k1 => first | (with_reducible assumption) | omega))
  | ((with_reducible refine' HH.w_divI ?k1 ?_); (case k1 => (constructor <;> omega)))))
local macro_rules | `(tactic| walk_at "v") => `(tactic| ((repeat ((fail_if_success (with_reducible refine HH.isIf ?_)); first
  | refine HH.stp ?_
  | with_reducible refine L2.iteT ?_
  | with_reducible refine L2.iteF ?_
  | ((with_reducible refine' HH.w_gtup ?k1 ?k2 ?_); (case k1 => walk_at "cy"); (case k2 => exact rfl))
  | ((with_reducible refine' HH.w_ixT ?k1 ?k2 ?_); (case k1 => walk_at "cy"); (case k2 => exact rfl))
  | ((with_reducible refine' HH.w_ixL ?k1 ?k2 ?_); (case k1 => walk_at "cy"); (case k2 => exact rfl))
  | ((with_reducible refine' HH.w_lenL ?k1 ?_); (case k1 => walk_at "cy"))
  | ((with_reducible refine' HH.w_lenT ?k1 ?_); (case k1 => walk_at "cy"))
  | ((with_reducible refine' HH.w_exT ?k1 ?_); (case k1 => walk_at "cy"))
  | ((with_reducible refine' HH.w_exL ?k1 ?_); (case k1 => walk_at "cy"))
  | ((with_reducible refine' HH.w_tyL ?k1 ?_); (case k1 => walk_at "cy"))
  | ((with_reducible refine' HH.w_setL ?k1 ?k2 ?_); (case k1 => walk_at "cy"); (case k2 => exact rfl))
  | ((with_reducible refine' HH.w_modI ?k1 ?_); (case k1 => first | (with_reducible assumption) | omega))
  | ((with_reducible refine' HH.w_divI ?k1 ?_); (case k1 => (constructor <;> omega)))))); (try (with_reducible refine HH.isIf ?_)))
section
variable (K : PySem.W.Frag)
def sp_l_bent : Sp := fun vs H Q _ => ∃ (b : Addr) (x : V) (r : Row), vs = [.ref b, x] ∧ BagOk K H b ∧ Dp K H x (rowD r) ∧ Row.Ok r ∧ ∀ (v : V) (r' : Row) (H' : Hp), Dr K b H H' → Row.Ok r' → Dp K H' v (rowD r') → Q v H'
def sp_l_same_out : Sp := fun vs H Q _ => ∃ (x y : V) (r o : Row), vs = [x, y] ∧ Dp K H x (rowD r) ∧ Dp K H y (rowD o) ∧ Row.Ok r ∧ Row.Ok o ∧ ∀ H', Same H H' → Q (.bl (bD (alike r o))) H'
theorem len_l_bent : ∀ vs H Q E, sp_l_bent K vs H Q E → vs.length = 2 := by rintro _ _ _ _ ⟨_, _, _, rfl, _⟩; rfl
theorem len_l_same_out : ∀ vs H Q E, sp_l_same_out K vs H Q E → vs.length = 2 := by rintro _ _ _ _ ⟨_, _, _, _, rfl, _⟩; rfl
end
def t_l_bent (K : PySem.W.Frag) : TS :=
  (tSeq (tAsg (tCall (sp_l_take K) [] E0 (tCons (tVar 0) (tCons (tC (.int 4)) tNil))) (gName 2))
  (tSeq (tIfS (tAnd (tTest (tOp rEq (tVar 2) (tC (.int 0)))) (tTest (tOp rLtI (tCB (rLenQ K) (tCons (tVar 1) tNil)) (tC (.int 3))))) (tSeq (tAsg (tOp rAddI (tC (.int 2)) (tCall (sp_l_take K) [] E0 (tCons (tVar 0) (tCons (tC (.int 4)) tNil)))) (gName 3))
  (tSeq (tAsg (tCall (sp_l_take K) [] E0 (tCons (tVar 0) (tCons (tVar 3) tNil))) (gName 4))
  (tSeq (tAsg (tCall (sp_l_take K) [] E0 (tCons (tVar 0) (tCons (tOp rAddI (tCB (rLenQ K) (tCons (tVar 1) tNil)) (tC (.int 1))) tNil))) (gName 5))
  (tSeq (tAsg (tTup (tCons (tTup (tCons (tC (.str "twice")) (tCons (tVar 3) (tCons (tVar 4) tNil)))) (tCons (tTup (tCons (tC (.str "drop")) (tCons (tOp rAddI (tVar 3) (tC (.int 1))) (tCons (tOp rAddI (tVar 4) (tCall (sp_l_take K) [] E0 (tCons (tVar 0) (tCons (tC (.int 2)) tNil)))) tNil)))) tNil))) (gName 6))
  (tRet (tOp (rCatA K) (tOp (rCatA K) (tSl (rSlA K) (tVar 1) tNoPart (tPart (tVar 5))) (tVar 6)) (tSl (rSlA K) (tVar 1) (tPart (tVar 5)) tNoPart))))))) tNext)
  (tSeq (tIfS (tTest (tOp rEq (tVar 2) (tC (.int 1)))) (tRet (tRevT K (tVar 1))) tNext)
  (tSeq (tIfS (tOr (tTest (tOp (rEqD K) (tVar 1) (tTup tNil))) (tTest (tOp rEq (tVar 2) (tC (.int 2))))) (tRet (tCall (sp_l_mouths K) [] E0 (tCons (tVar 0) (tCons (tC (.int 4)) (tCons (tC (.int 26)) tNil))))) tNext)
  (tSeq (tAsg (tCall (sp_l_take K) [] E0 (tCons (tVar 0) (tCons (tCB (rLenQ K) (tCons (tVar 1) tNil)) tNil))) (gName 5))
  (tSeq (tAsg (tOp (rIxT K) (tVar 1) (tVar 5)) (gTup K 3 (gCons (gName 7) (gCons (gName 8) (gCons (gName 9) gNil)))))
  (tRet (tIf (tTest (tOp rEq (tVar 7) (tC (.str "hears")))) (tVar 1) (tOp (rCatA K) (tOp (rCatA K) (tSl (rSlA K) (tVar 1) tNoPart (tPart (tVar 5))) (tTup (tCons (tTup (tCons (tVar 7) (tCons (tVar 8) (tCons (tCall (sp_l_take K) [] E0 (tCons (tVar 0) (tCons (tVar 8) tNil))) tNil)))) tNil))) (tSl (rSlA K) (tVar 1) (tPart (tOp rAddI (tVar 5) (tC (.int 1)))) tNoPart))))))))))

def t_l_same_out (K : PySem.W.Frag) : TS :=
  (tSeq (tAsg (tOp rAddI (tOp (rIxT K) (tCall (sp_round_of K) [] E0 (tCons (tVar 0) tNil)) (tC (.int 0))) (tOp (rIxT K) (tCall (sp_round_of K) [] E0 (tCons (tVar 1) tNil)) (tC (.int 0)))) (gName 2))
  (tSeq (tIfS (tTest (tOp (rNeD K) (tLc (iRng1 (tCons (tOp rAddI (tVar 2) (tC (.int 1))) tNil)) (gName 4) (tTest (tOp rNe (tCall (sp_come K) [] E0 (tCons (tVar 0) (tCons (tVar 4) tNil))) (tCall (sp_come K) [] E0 (tCons (tVar 1) (tCons (tVar 4) tNil))))) (tC (.int 1)) [4]) (tLst tNil))) (tRet (tC (.bl false))) tNext)
  (tSeq (tFor (iStr (tC (.str "abcdefghijklmnopqrstuvwxyz"))) (gName 3)
  (tIfS (tTest (tOp rNe (tCall (sp_letter_out K) [] E0 (tCons (tVar 0) (tCons (tVar 3) tNil))) (tCall (sp_letter_out K) [] E0 (tCons (tVar 1) (tCons (tVar 3) tNil))))) (tRet (tC (.bl false))) tNext))
  (tRet (tC (.bl true))))))

section
variable (K : PySem.W.Frag)
theorem eqv_row0 (r : Row) : PyData.eqv (rowD r) (.tuple []) = bD (r = []) := by
  cases r with
  | nil => exact (bD_t rfl).symm
  | cons f r => exact (bD_f (fun h => by cases h)).symm
theorem lay_folk {f : Folk} (h : f.ok = true) : PyData.canLay0 (folkD f) = true ∧ PyData.depth (folkD f) = 1 := by
  cases f with
  | hears a b =>
    have h' : (isSmall a && isSmall b && decide (a ≠ b)) = true := h
    simp only [Bool.and_eq_true] at h'
    have sm : ∀ c, isSmall c = true → PyData.strOk (sg c) = true := fun c hc => by
      unfold isSmall at hc
      rw [Bool.and_eq_true, decide_eq_true_eq, decide_eq_true_eq] at hc
      show (#[c] : Array Nat).all (· < 0x110000) = true
      simp
      omega
    refine ⟨?_, rfl⟩
    show (PyData.strOk "hears" && (PyData.strOk (sg a) && (PyData.strOk (sg b) && true))) = true
    rw [sm a h'.1.1, sm b h'.1.2]
    decide +kernel
  | ctr tw e c =>
    refine ⟨?_, rfl⟩
    show (PyData.strOk (kindOf tw) && (true && (true && true))) = true
    cases tw <;> decide +kernel
theorem lay_row : ∀ {r : Row}, (∀ f ∈ r, f.ok = true) → PyData.canLayAll0 (r.map folkD) = true ∧ PyData.depthAll (r.map folkD) ≤ 1
  | [], _ => ⟨rfl, by decide⟩
  | f :: r, h => by
    have ih := lay_row fun g hg => h g (List.mem_cons_of_mem _ hg)
    have hf := lay_folk (h f List.mem_cons_self)
    constructor
    · show (PyData.canLay0 (folkD f) && PyData.canLayAll0 (r.map folkD)) = true
      rw [hf.1, ih.1]
      rfl
    · show max (PyData.depth (folkD f)) (PyData.depthAll (r.map folkD)) ≤ 1
      rw [hf.2]
      omega
theorem shp_row {r : Row} (h : ∀ f ∈ r, f.ok = true) : SeqAt.shaped (rowD r) = true := by
  have := lay_row h
  show (PyData.canLayAll0 (r.map folkD) && decide (PyData.depthAll (r.map folkD) + 1 ≤ 64)) = true
  rw [this.1, decide_eq_true (by omega)]
  rfl
theorem w_eqR0 {H : Hp} {Q : VK} {x : V} {p : Addr} {r : Row} (hx : Dp K H x (rowD r)) (hr : ∀ f ∈ r, f.ok = true) (hp : H p = some (.tup [])) (q : Q (.bl (bD (r = []))) H) : rEqD K x (.ref p) H Q :=
  ⟨rowD r, .tuple [], hx, .tup (sqT_at hp) .nil, shp_row hr, by decide, by rw [eqv_row0]; exact q⟩
/-- house[:at] + mid + house[at + 1:] -/
theorem splice_ok {r mid : Row} {i : Nat} (h : ∀ f ∈ r, f.ok = true) (hm : ∀ f ∈ mid, f.ok = true) : ∀ f ∈ (r.take i ++ mid) ++ r.drop (i + 1), f.ok = true := fun f hf => by
  rcases List.mem_append.mp hf with hf | hf
  · rcases List.mem_append.mp hf with hf | hf
    · exact h f (List.mem_of_mem_take hf)
    · exact hm f hf
  · exact h f (List.mem_of_mem_drop hf)
theorem splice_ok0 {r mid : Row} {i : Nat} (h : ∀ f ∈ r, f.ok = true) (hm : ∀ f ∈ mid, f.ok = true) : ∀ f ∈ (r.take i ++ mid) ++ r.drop i, f.ok = true := fun f hf => by
  rcases List.mem_append.mp hf with hf | hf
  · rcases List.mem_append.mp hf with hf | hf
    · exact h f (List.mem_of_mem_take hf)
    · exact hm f hf
  · exact h f (List.mem_of_mem_drop hf)
theorem row_at {H : Hp} {xs : List V} {r : Row} {i : Nat} (ha : DpAll K H xs (r.map folkD)) (hi : i < r.length) : ∃ (v : V) (f : Folk), atI xs (i : Int) = some v ∧ r[i]? = some f ∧ Dp K H v (folkD f) := by
  have hl : i < xs.length := by rw [ha.len, List.length_map]; exact hi
  obtain ⟨f, hf, dd⟩ := row_get K ha (List.getElem?_eq_getElem hl)
  exact ⟨_, f, at_of rfl (List.getElem?_eq_getElem hl), hf, dd⟩
theorem w_revD {H : Hp} {a : Addr} {xs : List V} {r : Row} {Q : V → Hp → Prop} (ha : DpAll K H xs (r.map folkD)) (q : ∀ v H', Same H H' → Dp K H' v (rowD r.reverse) → Q v H') : ∀ p, H p = none → Q (.ref p) (upd H p (.tup xs.reverse)) := fun p np => by
  refine q _ _ (same_new np) (.tup sqT_new ?_)
  have := (same_new (o := .tup xs.reverse) np).dpAll _ _ ha.rev
  rw [List.map_reverse]
  exact this
theorem sem_l_bent : ∀ vs H Q E, sp_l_bent K vs H Q E → t_l_bent K { nx := fun _ H' => Q .non H', rt := Q } (start ["bag", "house", "way", "every", "counted", "at", "pair", "kind", "one", "other"] vs) H := by
  rintro vs H Q E ⟨b, x, r, rfl, hb, hd, hR, q⟩
  show t_l_bent K _ [some (.ref b), some x, none, none, none, none, none, none, none, none] H
  unfold t_l_bent
  have hl := hR.1
  walk_at "v"
  refine ⟨b, 4, rfl, hb, by decide, fun w H1 hw d1 => ?_⟩
  have hd1 := d1.row hd
  walk_at "v"
  -- behind the first test
  have rest : ∀ H2, Same H1 H2 → (tSeq (tIfS (tTest (tOp rEq (tVar 2) (tC (.int 1)))) (tRet (tRevT K (tVar 1))) tNext)
  (tSeq (tIfS (tOr (tTest (tOp (rEqD K) (tVar 1) (tTup tNil))) (tTest (tOp rEq (tVar 2) (tC (.int 2))))) (tRet (tCall (sp_l_mouths K) [] E0 (tCons (tVar 0) (tCons (tC (.int 4)) (tCons (tC (.int 26)) tNil))))) tNext)
  (tSeq (tAsg (tCall (sp_l_take K) [] E0 (tCons (tVar 0) (tCons (tCB (rLenQ K) (tCons (tVar 1) tNil)) tNil))) (gName 5))
  (tSeq (tAsg (tOp (rIxT K) (tVar 1) (tVar 5)) (gTup K 3 (gCons (gName 7) (gCons (gName 8) (gCons (gName 9) gNil)))))
  (tRet (tIf (tTest (tOp rEq (tVar 7) (tC (.str "hears")))) (tVar 1) (tOp (rCatA K) (tOp (rCatA K) (tSl (rSlA K) (tVar 1) tNoPart (tPart (tVar 5))) (tTup (tCons (tTup (tCons (tVar 7) (tCons (tVar 8) (tCons (tCall (sp_l_take K) [] E0 (tCons (tVar 0) (tCons (tVar 8) tNil))) tNil)))) tNil))) (tSl (rSlA K) (tVar 1) (tPart (tOp rAddI (tVar 5) (tC (.int 1)))) tNoPart)))))))) { nx := fun _ H' => Q .non H', rt := Q } [some (.ref b), some x, some (.int (w : Nat)), none, none, none, none, none, none, none] H2 := by
    intro H2 s2
    have dr2 := d1.same s2
    have hd2 := s2.dat hd1
    obtain ⟨a, xs, rfl, hs, ha⟩ := dp_tup hd2
    walk_at "v"
    refine w_ifS ?_
    walk_at "v"
    by_cases h1 : w = 1
    · refine w_dT (by omega) ?_
      walk_at "v"
      exact ⟨.ref a, rfl, a, xs, rfl, hs, w_revD K (a := a) ha fun v H' s' hv => q v _ H' (dr2.same s') ⟨by rw [List.length_reverse]; exact hl, fun f hf => hR.2 f (List.mem_reverse.mp hf)⟩ hv⟩
    · refine w_dF (by omega) ?_
      walk_at "v"
      refine w_ifS ?_
      walk_at "v"
      refine ⟨szOk 0, fun p np => ?_⟩
      refine w_eqR0 K ((same_new np).dat hd2) hR.2 upd_same ?_
      walk_at "v"
      have d3 := dr2.new (o := .tup []) np
      have hs3 := (same_new (o := .tup []) np).sqT hs
      have ha3 := (same_new (o := .tup []) np).dpAll _ _ ha
      have hd3 := (same_new (o := .tup []) np).dat hd2
      generalize upd H2 p (.tup []) = H3 at d3 hs3 ha3 hd3
      have mouths : tRet (tCall (sp_l_mouths K) [] E0 (tCons (tVar 0) (tCons (tC (.int 4)) (tCons (tC (.int 26)) tNil)))) { nx := fun _ H' => Q .non H', rt := Q } [some (.ref b), some (.ref a), some (.int (w : Nat)), none, none, none, none, none, none, none] H3 := by
        walk_at "v"
        exact ⟨b, 4, 26, rfl, d3.b1, by decide, by decide, by decide, fun v r' H' d' hl' hok _ hr => q v r' H' (d3.trans d') ⟨hl', hok⟩ hr⟩
      by_cases h0 : r = []
      · refine w_dT h0 ?_
        refine iteT ?_
        exact mouths
      · refine w_dF h0 ?_
        walk_at "v"
        by_cases h2 : w = 2
        · refine w_dT (by omega) ?_
          exact mouths
        · refine w_dF (by omega) ?_
          walk_at "v"
          have hr0 : 0 < r.length := List.length_pos_iff.mpr h0
          have hlx : xs.length = r.length := by rw [ha.len, List.length_map]
          rw [hlx]
          refine ⟨b, _, rfl, d3.b1, by omega, fun at' H4 hat d4 => ?_⟩
          have dd4 := d3.trans d4
          have hd4 := d4.row hd3
          have hs4 := d4.tp _ _ hs3
          have ha4 := d4.tp.dpAll _ _ (noLs_folks r) ha3
          obtain ⟨v, f, hv, hf, dd⟩ := row_at K ha4 (show at' < r.length by omega)
          walk_at "v"
          refine w_ixT hs4 hv ?_
          obtain ⟨fa, rfl, hfa⟩ := folk_inv dd
          have hfo := hR.2 f (List.mem_of_getElem? hf)
          cases f with
          | hears u z =>
            have hb' : SqT K H4 fa [.str "hears", .str (sg u), .str (sg z)] := hfa
            walk_at "v"
            refine w_dT rfl ?_
            walk_at "v"
            exact q _ r H4 dd4 hR hd4
          | ctr tw e c =>
            have hb' : SqT K H4 fa [.str (kindOf tw), .int (e : Nat), .int (c : Nat)] := hfa
            have hfk := fok_of hfo
            have he2 : 2 ≤ e := hfk.1
            have he6 : e ≤ 6 := hfk.2.1
            walk_at "v"
            refine w_dF (kind_nh tw) ?_
            walk_at "v"
            refine w_slR_to hd4 fun v1 H5 s5 hv1 => ?_
            walk_at "v"
            refine ⟨b, _, rfl, (dd4.same s5).b1, by omega, fun c2 H6 hc2 d6 => ?_⟩
            walk_at "v"
            refine ⟨szOk 3, fun p1 n1 => ?_⟩
            walk_at "v"
            refine ⟨szOk 1, fun p2 n2 => ?_⟩
            have hv1' := (same_new (o := .tup [.ref p1]) n2).dat ((same_new (o := .tup [.str (kindOf tw), .int (e : Nat), .int (c2 : Nat)]) n1).dat (d6.row hv1))
            have hd7 := (same_new (o := .tup [.ref p1]) n2).dat ((same_new (o := .tup [.str (kindOf tw), .int (e : Nat), .int (c2 : Nat)]) n1).dat (d6.row (s5.dat hd4)))
            have hnew : Dp K (upd (upd H6 p1 (.tup [.str (kindOf tw), .int (e : Nat), .int (c2 : Nat)])) p2 (.tup [.ref p1])) (.ref p2) (rowD [.ctr tw e c2]) := dp_lit K (q := p1) ((same_new n2) _ _ upd_same) upd_same
            have d7 := (((dd4.same s5).trans d6).new (o := .tup [.str (kindOf tw), .int (e : Nat), .int (c2 : Nat)]) n1).new (o := .tup [.ref p1]) n2
            have hl1 : (r.take at').length = at' := by rw [List.length_take]; omega
            refine w_catR hv1' hnew (by rw [hl1]; show at' + 1 ≤ 10000; omega) fun v2 H8 s8 hv2 => ?_
            walk_at "v"
            refine w_slR_from (k := at' + 1) (s8.dat hd7) fun v3 H9 s9 hv3 => ?_
            refine w_catR (s9.dat hv2) hv3 (by rw [List.length_append, hl1, List.length_drop]; show at' + 1 + _ ≤ 10000; omega) fun v4 H10 s10 hv4 => ?_
            refine q v4 _ H10 (((d7.same s8).same s9).same s10) ⟨?_, splice_ok hR.2 fun g hg => by rw [List.mem_singleton.mp hg]; exact ok_ctr he2 he6 (by omega)⟩ hv4
            rw [List.length_append, List.length_append, hl1, List.length_drop]
            show at' + 1 + _ ≤ 4
            omega
  refine w_ifS ?_
  walk_at "v"
  by_cases h0 : w = 0
  · refine w_dT (by omega) ?_
    walk_at "v"
    refine w_lenR hd1 ?_
    walk_at "v"
    by_cases h3 : r.length < 3
    · refine w_dT (by omega) ?_
      walk_at "v"
      refine ⟨b, 4, rfl, d1.b1, by decide, fun e0 H2 he0 d2 => ?_⟩
      walk_at "v"
      refine ⟨b, _, rfl, d2.b1, by omega, fun c H3 hc d3 => ?_⟩
      have dd3 := (d1.trans d2).trans d3
      have hd3 := dd3.row hd
      walk_at "v"
      refine w_lenR hd3 ?_
      walk_at "v"
      refine ⟨b, _, rfl, d3.b1, by omega, fun at' H4 hat d4 => ?_⟩
      walk_at "v"
      refine ⟨szOk 3, fun p1 n1 => ?_⟩
      walk_at "v"
      refine ⟨b, 2, rfl, (d4.new n1).b1, by decide, fun k H5 hk d5 => ?_⟩
      walk_at "v"
      refine ⟨szOk 3, fun p2 n2 => ?_⟩
      walk_at "v"
      refine ⟨szOk 2, fun p3 n3 => ?_⟩
      have f1 : Dp K (upd H4 p1 (.tup [.str "twice", .int (2 + (e0 : Int)), .int (c : Nat)])) (.ref p1) (folkD (.ctr true (2 + e0) c)) := folk_of (f := .ctr true (2 + e0) c) sqT_new
      have o1 : Folk.ok (.ctr true (2 + e0) c) = true := ok_ctr (by omega) (by omega) (by omega)
      have f1' := (same_new (o := .tup [.ref p1, .ref p2]) n3).dat ((same_new (o := .tup [.str "drop", .int (2 + (e0 : Int) + 1), .int ((c : Int) + (k : Int))]) n2).dat (d5.dat (noL_folk _) f1))
      have f2 : Dp K (upd H5 p2 (.tup [.str "drop", .int (2 + (e0 : Int) + 1), .int ((c : Int) + (k : Int))])) (.ref p2) (folkD (.ctr false (2 + e0 + 1) (c + k))) := folk_of (f := .ctr false (2 + e0 + 1) (c + k)) sqT_new
      have o2 : Folk.ok (.ctr false (2 + e0 + 1) (c + k)) = true := ok_ctr (by omega) (by omega) (by omega)
      have f2' := (same_new (o := .tup [.ref p1, .ref p2]) n3).dat f2
      have hp : Dp K (upd (upd H5 p2 (.tup [.str "drop", .int (2 + (e0 : Int) + 1), .int ((c : Int) + (k : Int))])) p3 (.tup [.ref p1, .ref p2])) (.ref p3) (rowD [.ctr true (2 + e0) c, .ctr false (2 + e0 + 1) (c + k)]) := .tup sqT_new (.cons f1' (.cons f2' .nil))
      have dd := ((((dd3.trans d4).new (o := .tup [.str "twice", .int (2 + (e0 : Int)), .int (c : Nat)]) n1).trans d5).new (o := .tup [.str "drop", .int (2 + (e0 : Int) + 1), .int ((c : Int) + (k : Int))]) n2).new (o := .tup [.ref p1, .ref p2]) n3
      walk_at "v"
      generalize upd (upd H5 p2 (.tup [.str "drop", .int (2 + (e0 : Int) + 1), .int ((c : Int) + (k : Int))])) p3 (.tup [.ref p1, .ref p2]) = H6 at hp dd
      have hd5 := dd.row hd
      refine w_slR_to hd5 fun v1 H6 s6 hv1 => ?_
      walk_at "v"
      refine w_catR hv1 (s6.dat hp) (by rw [List.length_take]; show _ + 2 ≤ 10000; omega) fun v2 H7 s7 hv2 => ?_
      walk_at "v"
      refine w_slR_from (s7.dat (s6.dat hd5)) fun v3 H8 s8 hv3 => ?_
      refine w_catR (s8.dat hv2) hv3 (by rw [List.length_append, List.length_take, List.length_drop]; show _ + 2 + _ ≤ 10000; omega) fun v4 H9 s9 hv4 => ?_
      refine q v4 _ H9 (((dd.same s6).same s7).same s8 |>.same s9) ⟨?_, splice_ok0 hR.2 fun g hg => ?_⟩ hv4
      · rw [List.length_append, List.length_append, List.length_take, List.length_drop]
        show min at' r.length + 2 + _ ≤ 4
        omega
      · rcases List.mem_cons.mp hg with hg | hg
        · rw [hg]; exact o1
        · rw [List.mem_singleton.mp hg]; exact o2
    · refine w_dF (by omega) ?_
      walk_at "v"
      exact rest H1 (Same.refl _)
  · refine w_dF (by omega) ?_
    walk_at "v"
    exact rest H1 (Same.refl _)
theorem sem_l_same_out : ∀ vs H Q E, sp_l_same_out K vs H Q E → t_l_same_out K { nx := fun _ H' => Q .non H', rt := Q } (start ["house", "other", "many", "letter", "signs"] vs) H := by
  rintro vs H Q E ⟨x, y, r, o, rfl, hd, hd2, hR, hO, q⟩
  show t_l_same_out K _ [some x, some y, none, none, none] H
  unfold t_l_same_out
  have hro := rok_of hR
  have hoo := rok_of hO
  have hp := lp_spec hro
  have hq := lp_spec hoo
  have hp6 := lp_le hro hR.1
  have hq6 := lp_le hoo hO.1
  walk_at "v"
  refine ⟨x, r, rfl, hd, hR, fun H1 p1 s1 n1 h1 => ?_⟩
  have h1' : H1 p1 = some (.tup [.int (lp r : Nat), .int (allCome r (lp r) : Nat)]) := h1
  clear h1
  walk_at "v"
  refine ⟨y, o, rfl, s1.dat hd2, hO, fun H2 p2 s2 n2 h2 => ?_⟩
  have h2' : H2 p2 = some (.tup [.int (lp o : Nat), .int (allCome o (lp o) : Nat)]) := h2
  clear h2
  walk_at "v"
  have s12 := s1.trans s2
  have hdx := s12.dat hd
  have hdy := s12.dat hd2
  generalize lp r = p at hp hp6 h1'
  generalize lp o = p' at hq hq6 h2'
  refine w_ifS ?_
  walk_at "v"
  refine ⟨_, rfl, by omega, by omega, fun D nD => ?_⟩
  have hn : ((p : Int) + (p' : Int) + 1).toNat = p + p' + 1 := by omega
  refine lc_same walk_range nD [some x, some y, some (.int ((p : Int) + (p' : Int))), none, none] rfl (fun i => vI (((List.range i).filter fun j => bD (¬ allCome r j = allCome o j)).map fun _ => 1)) rfl (fun _ _ => trivial) (fun i v H3 H3' hi z yy => ?_) (fun H3 s3 hD => ?_)
  · obtain ⟨rfl, rfl⟩ := yy
    rw [hn] at hi
    have hsz : (vI (((List.range i).filter fun j => bD (¬ allCome r j = allCome o j)).map fun _ => 1)).length < sizeLine := szLt _ (by
      rw [List.length_map, List.length_map]
      have g1 := List.length_filter_le (fun j => bD (¬ allCome r j = allCome o j)) (List.range i)
      rw [List.length_range] at g1
      omega)
    walk_at "v"
    refine ⟨rfl, ?_⟩
    walk_at "v"
    refine ⟨x, r, i, by show [x, V.int (0 + (i : Int))] = _; rw [Int.zero_add], z.1.dat hdx, hR, by omega, fun H4 s4 => ?_⟩
    walk_at "v"
    refine ⟨y, o, i, by show [y, V.int (0 + (i : Int))] = _; rw [Int.zero_add], s4.dat (z.1.dat hdy), hO, by omega, fun H5 s5 => ?_⟩
    walk_at "v"
    by_cases he : allCome r i = allCome o i
    · refine w_nF (by rw [he]) ?_
      refine lc_skip z (s4.trans s5) ?_
      rw [List.range_succ, List.filter_append]
      have : ([i].filter fun j => bD (¬ allCome r j = allCome o j)) = [] := by
        rw [List.filter_cons, if_neg (by rw [bD_f (fun h => h he)]; decide)]
        rfl
      rw [this, List.append_nil]
    · refine w_nT (by omega) ?_
      walk_at "v"
      refine lc_put nD z (s4.trans s5) hsz ?_
      rw [List.range_succ, List.filter_append]
      have : ([i].filter fun j => bD (¬ allCome r j = allCome o j)) = [i] := by
        rw [List.filter_cons, if_pos (bD_t he)]
        rfl
      rw [this]
      unfold vI
      rw [List.map_append, List.map_append]
      rfl
  · rw [hn] at hD
    walk_at "v"
    refine ⟨szOk 0, fun e ne => ?_⟩
    refine w_neL (sqL_at ((same_new ne) _ _ hD)) (b := []) sqL_new ?_
    have s4 := (s12.trans s3).trans (same_new (o := .lst []) ne)
    have hdx4 := (same_new (o := .lst []) ne).dat (s3.dat hdx)
    have hdy4 := (same_new (o := .lst []) ne).dat (s3.dat hdy)
    generalize upd H3 e (.lst []) = H4 at s4 hdx4 hdy4
    walk_at "v"
    have hnil : (((List.range (p + p' + 1)).filter fun j => bD (¬ allCome r j = allCome o j)).map fun _ => 1) = ([] : List Nat) ↔ ∀ i, i ≤ p + p' → allCome r i = allCome o i := by
      rw [List.map_eq_nil_iff, List.filter_eq_nil_iff]
      constructor
      · intro h i hi
        apply Classical.byContradiction
        intro h2
        exact h i (List.mem_range.mpr (by omega)) (bD_t h2)
      · intro h i hi h2
        exact bT h2 (h i (by have := List.mem_range.mp hi; omega))
    by_cases hall : ∀ i, i ≤ p + p' → allCome r i = allCome o i
    · refine w_nF (hnil.mpr hall) ?_
      have hdl : ∀ i, dl r i = dl o i := fun i => dl_ever hp.2.1 hq.2.1 hp.1 hq.1 (fun j hj => by unfold dl; rw [hall j (by omega), hall (j + 1) (by omega)]) (i + 1) i (by omega)
      walk_at "v"
      refine for_it (walk_str (z := "abcdefghijklmnopqrstuvwxyz")) (fun i σ H5 => ∃ y3, σ = [some x, some y, some (.int ((p : Int) + (p' : Int))), y3, none] ∧ Same H4 H5 ∧ ∀ c ∈ smalls.take i, heardAs r c = heardAs o c) ⟨none, rfl, Same.refl _, fun c hc => by cases hc⟩ (fun _ _ _ _ _ => trivial) ?_ ?_
      · rintro i v σ H5 H5' hi ⟨y3, rfl, s5, hall2⟩ ⟨rfl, c, hc, rfl⟩
        have hc' : smalls[i]? = some c := by rw [← alpha_tl, Array.getElem?_toList]; exact hc
        have hcs : isSmall c = true := mem_smalls.mp (List.mem_of_getElem? hc')
        walk_at "v"
        refine w_ifS ?_
        walk_at "v"
        refine ⟨x, r, c, rfl, s5.dat hdx4, hR, hcs, fun H6 s6 => ?_⟩
        walk_at "v"
        refine ⟨y, o, c, rfl, s6.dat (s5.dat hdy4), hO, hcs, fun H7 s7 => ?_⟩
        walk_at "v"
        by_cases he : heardAs r c = heardAs o c
        · refine w_nF (congrArg sg he) ?_
          walk_at "v"
          refine ⟨_, rfl, (s5.trans s6).trans s7, fun d hd => ?_⟩
          rw [List.take_add_one, hc'] at hd
          rcases List.mem_append.mp hd with hd | hd
          · exact hall2 d hd
          · rw [List.mem_singleton.mp hd]; exact he
        · refine w_nT (fun h => he (sg_inj h)) ?_
          walk_at "v"
          have := q H7 (((s4.trans s5).trans s6).trans s7)
          rw [bD_f (fun h : alike r o => he (h.2 c hcs))] at this
          exact this
      · rintro σ H5 ⟨y3, rfl, s5, hall2⟩
        walk_at "v"
        have := q H5 (s4.trans s5)
        rw [bD_t ⟨hdl, fun c hc => hall2 c (by rw [List.take_of_length_le (by decide +kernel)]; exact mem_smalls.mpr hc)⟩] at this
        exact this
    · refine w_nT (fun h => hall (hnil.mp h)) ?_
      walk_at "v"
      have := q H4 s4
      rw [bD_f (fun h : alike r o => hall fun i _ => alike_come hro hoo h i)] at this
      exact this
end
end HH

namespace HH
open PySem PySem.Spec L2
/-! ### what can have been said -/
noncomputable def goodL (r : Row) (m : Nat) (h : List Nat) : List Nat := smalls.filter fun c => bD (h.take m = List.replicate m (heardAs r c))
noncomputable def goL (r : Row) : List Nat → List Nat → Option (List (List Nat))
  | [], _ => some []
  | m :: ms, h => if goodL r m h = [] then none else (goL r ms (h.drop m)).map (goodL r m h :: ·)
noncomputable def lets (r : Row) (n : Nat) (h : List Nat) : Option (List (List Nat)) := if allCome r n = h.length then goL r (stp' r n) h else none
theorem goL_drop {r : Row} {n i : Nat} (hi : i < n) (h : List Nat) : goL r ((stp' r n).drop i) h = if goodL r (dl r i) h = [] then none else (goL r ((stp' r n).drop (i + 1)) (h.drop (dl r i))).map (goodL r (dl r i) h :: ·) := by
  have e : (stp' r n).drop i = dl r i :: (stp' r n).drop (i + 1) := by
    have h1 := stp_get r hi
    obtain ⟨h2, h3⟩ := List.getElem?_eq_some_iff.mp h1
    rw [List.drop_eq_getElem_cons h2, h3]
  rw [e]
  rfl
theorem goL_next {r : Row} {n i : Nat} (hr : rok r) (hi : i < n) {h : List Nat} {ps : List (List Nat)} {o : Option (List (List Nat))} (e : o = (goL r ((stp' r n).drop i) (h.drop (allCome r i))).map (ps ++ ·)) :
    (goodL r (dl r i) (h.drop (allCome r i)) = [] → o = none) ∧ (goodL r (dl r i) (h.drop (allCome r i)) ≠ [] → o = (goL r ((stp' r n).drop (i + 1)) (h.drop (allCome r (i + 1)))).map ((ps ++ [goodL r (dl r i) (h.drop (allCome r i))]) ++ ·)) := by
  rw [goL_drop hi] at e
  constructor
  · intro h1
    rw [if_pos h1] at e
    exact e
  · intro h1
    rw [if_neg h1, List.drop_drop, ← allCome_succ hr] at e
    rw [e, Option.map_map]
    congr 1
    funext x
    show ps ++ (_ :: x) = (ps ++ [_]) ++ x
    rw [List.append_assoc]
    rfl
theorem goL_len {r : Row} : ∀ {ms h : List Nat} {ps : List (List Nat)}, goL r ms h = some ps → ps.length = ms.length ∧ ∀ p ∈ ps, p ≠ [] ∧ ∀ c ∈ p, isSmall c = true
  | [], _, _, e => by cases e; exact ⟨rfl, fun p hp => by cases hp⟩
  | m :: ms, h, ps, e => by
    have e' : (if goodL r m h = [] then none else (goL r ms (h.drop m)).map (goodL r m h :: ·)) = some ps := e
    by_cases h1 : goodL r m h = []
    · rw [if_pos h1] at e'; cases e'
    · rw [if_neg h1] at e'
      cases h2 : goL r ms (h.drop m) with
      | none => rw [h2] at e'; cases e'
      | some qs =>
        rw [h2] at e'
        cases e'
        have ih := goL_len h2
        refine ⟨congrArg (· + 1) ih.1, fun p hp => ?_⟩
        rcases List.mem_cons.mp hp with h3 | h3
        · rw [h3]
          exact ⟨h1, fun c hc => mem_smalls.mp (List.mem_filter.mp hc).1⟩
        · exact ih.2 p h3
theorem lets_len {r : Row} {n : Nat} {h : List Nat} {ps : List (List Nat)} (e : lets r n h = some ps) : ps.length = n ∧ ∀ p ∈ ps, p ≠ [] ∧ ∀ c ∈ p, isSmall c = true := by
  unfold lets at e
  by_cases h1 : allCome r n = h.length
  · rw [if_pos h1] at e
    have := goL_len e
    rw [stp_len] at this
    exact this
  · rw [if_neg h1] at e; cases e
def allLen (r : Row) (m : Nat) : Option (Nat × Nat) := if allCome r (fewest r m) = m ∧ fewest r m ≤ 200 then some (fewest r m, min 200 (fewest r (m + 1) - 1)) else none
def lasts (r : Row) (m : Nat) : List Nat := (List.range 201).filter fun n => decide (allCome r n = m)
theorem come_iff {r : Row} (h : rok r) (m n : Nat) : allCome r n = m ↔ fewest r m ≤ n ∧ n < fewest r (m + 1) := by
  have h0 := fewest_iff h m n
  have h1 := fewest_iff h (m + 1) n
  constructor
  · intro e
    have h2 := h0.mpr (by omega)
    have h3 : ¬ fewest r (m + 1) ≤ n := fun h2 => by have := h1.mp h2; omega
    omega
  · rintro ⟨h2, h3⟩
    have h4 := h0.mp h2
    have : ¬ m + 1 ≤ allCome r n := fun h5 => by have := h1.mpr h5; omega
    omega
theorem filter_range : ∀ (n lo hi : Nat), lo ≤ hi → hi ≤ n → (List.range n).filter (fun k => decide (lo ≤ k ∧ k < hi)) = List.range' lo (hi - lo)
  | 0, lo, hi, h1, h2 => by
    have : hi - lo = 0 := by omega
    rw [this]
    rfl
  | n + 1, lo, hi, h1, h2 => by
    rw [List.range_succ, List.filter_append]
    rcases Nat.lt_or_ge n hi with h3 | h3
    · have hn : hi = n + 1 := by omega
      subst hn
      rcases Nat.lt_or_ge n lo with h4 | h4
      · have : lo = n + 1 := by omega
        subst this
        rw [Nat.sub_self]
        have e1 : (List.range n).filter (fun k => decide (n + 1 ≤ k ∧ k < n + 1)) = [] := List.filter_eq_nil_iff.mpr fun k hk h5 => by
          have := of_decide_eq_true h5
          omega
        rw [e1, List.filter_cons, if_neg (by rw [decide_eq_false (by omega)]; decide)]
        rfl
      · have e1 : (List.range n).filter (fun k => decide (lo ≤ k ∧ k < n + 1)) = (List.range n).filter (fun k => decide (lo ≤ k ∧ k < n)) := by
          refine List.filter_congr fun k hk => ?_
          have := List.mem_range.mp hk
          exact decide_eq_decide.mpr ⟨fun h => ⟨h.1, this⟩, fun h => ⟨h.1, by omega⟩⟩
        rw [e1, filter_range n lo n h4 (Nat.le_refl n), List.filter_cons, if_pos (decide_eq_true ⟨h4, by omega⟩), show n + 1 - lo = (n - lo) + 1 by omega, List.range'_concat]
        simp
        omega
    · rw [filter_range n lo hi h1 h3, List.filter_cons, if_neg (by rw [decide_eq_false (by omega)]; decide)]
      simp
theorem lasts_of {r : Row} (h : rok r) (m : Nat) : match allLen r m with
    | none => lasts r m = []
    | some (lo, hi) => lo ≤ hi ∧ hi ≤ 200 ∧ lasts r m = List.range' lo (hi + 1 - lo) := by
  have e : lasts r m = (List.range 201).filter (fun k => decide (fewest r m ≤ k ∧ k < fewest r (m + 1))) := List.filter_congr fun k _ => decide_eq_decide.mpr (come_iff h m k)
  unfold allLen
  by_cases h1 : allCome r (fewest r m) = m ∧ fewest r m ≤ 200
  · rw [if_pos h1]
    have h2 := (come_iff h m _).mp h1.1
    show fewest r m ≤ min 200 (fewest r (m + 1) - 1) ∧ _
    refine ⟨by omega, Nat.min_le_left _ _, ?_⟩
    rw [e]
    have e2 : (List.range 201).filter (fun k => decide (fewest r m ≤ k ∧ k < fewest r (m + 1))) = (List.range 201).filter (fun k => decide (fewest r m ≤ k ∧ k < min 200 (fewest r (m + 1) - 1) + 1)) := List.filter_congr fun k hk => by
      have := List.mem_range.mp hk
      exact decide_eq_decide.mpr (by omega)
    rw [e2, filter_range _ _ _ (by omega) (by omega)]
  · rw [if_neg h1]
    show lasts r m = []
    rw [e]
    refine List.filter_eq_nil_iff.mpr fun k hk h2 => ?_
    have h3 := of_decide_eq_true h2
    have h4 := List.mem_range.mp hk
    have h5 := (come_iff h m k).mpr h3
    refine h1 ⟨?_, by omega⟩
    exact (come_iff h m _).mpr ⟨Nat.le_refl _, by omega⟩
noncomputable def allPl (r : Row) (h : List Nat) : List (List (List Nat)) := ((lasts r h.length).map fun n => lets r n h).filterMap id
def prodN (l : List Nat) : Nat := l.foldl (· * ·) 1
noncomputable def ways (r : Row) (h : List Nat) : Nat := ((allPl r h).map fun ps => prodN (ps.map List.length)).sum
noncomputable def firstW (r : Row) (h : List Nat) : Option (List Nat) := (allPl r h).head?.map fun ps => ps.map (·.headD 0)
theorem prodN_snoc (l : List Nat) (x : Nat) : prodN (l ++ [x]) = prodN l * x := by
  unfold prodN
  rw [List.foldl_append]
  rfl
end HH

namespace HH
open PySem PySem.Spec L2
local macro_rules | `(tactic| walk_at "cy") => `(tactic| first
  | assumption
  | exact L2.upd_same
  | exact L2.sqL_new
  | exact L2.sqT_new
  | exact L2.sqL_at (by assumption)
  | exact L2.sqT_at (by assumption)
  | (refine' L2.Same.seq (by assumption) ?k0; (case k0 => walk_at "cy"))
  | (refine' L2.Same.sqT (by assumption) ?k0; (case k0 => walk_at "cy"))
  | (refine' L2.Same.dat (by assumption) ?k0; (case k0 => walk_at "cy"))
  | (refine' (by assumption : L2.Same _ _) _ _ ?k0; (case k0 => walk_at "cy"))
  | (refine' L2.Same.seq (L2.same_new (by assumption)) ?k0; (case k0 => walk_at "cy"))
  | (refine' L2.Same.sqT (L2.same_new (by assumption)) ?k0; (case k0 => walk_at "cy"))
  | (refine' L2.Same.dat (L2.same_new (by assumption)) ?k0; (case k0 => walk_at "cy"))
  | (refine' L2.same_new (by assumption) _ _ ?k0; (case k0 => walk_at "cy"))
  | (refine' L2.Mv.sqT (by assumption) ?k0; (case k0 => walk_at "cy")))
local macro_rules | `(tactic| walk_at "w") => `(tactic| repeat (first
  | refine HH.stp ?_
  | with_reducible refine L2.iteT ?_
  | with_reducible refine L2.iteF ?_
  | ((with_reducible refine' HH.w_gtup ?k1 ?k2 ?_); (case k1 => walk_at "cy"); (case k2 => exact rfl))
  | ((with_reducible refine' HH.w_ixT ?k1 ?k2 ?_); (case k1 => walk_at "cy"); (case k2 => exact rfl))
  | ((with_reducible refine' HH.w_ixL ?k1 ?k2 ?_); (case k1 => walk_at "cy"); (case k2 => exact rfl))
  | ((with_reducible refine' HH.w_lenL ?k1 ?_); (case k1 => walk_at "cy"))
  | ((with_reducible refine' HH.w_lenT ?k1 ?_); (case k1 => walk_at "cy"))
  | ((with_reducible refine' HH.w_exT ?k1 ?_); (case k1 => walk_at "cy"))
  | ((with_reducible refine' HH.w_exL ?k1 ?_); (case k1 => walk_at "cy"))
  | ((with_reducible refine' HH.w_tyL ?k1 ?_); (case k1 => walk_at "cy"))
  | ((with_reducible refine' HH.w_setL ?k1 ?k2 ?_); (case k1 => walk_at "cy"); (case k2 => exact rfl))
  | ((with_reducible refine' HH.w_modI ?k1 ?_); (case k1 => first | (with_reducible assumption) | omega))
  | ((with_reducible refine' HH.w_divI ?k1 ?_); (case k1 => (constructor <;> omega)))))
local macro_rules | `(tactic| walk_at "v") => `(tactic| ((repeat ((fail_if_success (with_reducible refine HH.isIf ?_)); first
  | refine HH.stp ?_
  | with_reducible refine L2.iteT ?_
  | with_reducible refine L2.iteF ?_
  | ((with_reducible refine' HH.w_gtup ?k1 ?k2 ?_); (case k1 => walk_at "cy"); (case k2 => exact rfl))
  | ((with_reducible refine' HH.w_ixT ?k1 ?k2 ?_); (case k1 => walk_at "cy"); (case k2 => exact rfl))
  | ((with_reducible refine' HH.w_ixL ?k1 ?k2 ?_); (case k1 => walk_at "cy"); (case k2 => exact rfl))
  | ((with_reducible refine' HH.w_lenL ?k1 ?_); (case k1 => walk_at "cy"))
  | ((with_reducible refine' HH.w_lenT ?k1 ?_); (case k1 => walk_at "cy"))
  | ((with_reducible refine' HH.w_exT ?k1 ?_); (case k1 => walk_at "cy"))
  | ((with_reducible refine' HH.w_exL ?k1 ?_); (case k1 => walk_at "cy"))
  | ((with_reducible refine' HH.w_tyL ?k1 ?_); (case k1 => walk_at "cy"))
  | ((with_reducible refine' HH.w_setL ?k1 ?k2 ?_); (case k1 => walk_at "cy"); (case k2 => exact rfl))
  | ((with_reducible refine' HH.w_modI ?k1 ?_); (case k1 => first | (with_reducible assumption) | omega))
  | ((with_reducible refine' HH.w_divI ?k1 ?_); (case k1 => (constructor <;> omega)))))); (try (with_reducible refine HH.isIf ?_)))
section
variable (K : PySem.W.Frag)
def IsLets (H : Hp) (v : V) (H' : Hp) : Option (List (List Nat)) → Prop
  | none => v = .non
  | some ps => ∃ p, v = .ref p ∧ H p = none ∧ H' p = some (.lst (vT ps))
def IsLen (H : Hp) (v : V) (H' : Hp) : Option (Nat × Nat) → Prop
  | none => v = .non
  | some (lo, hi) => ∃ p, v = .ref p ∧ H p = none ∧ H' p = some (.tup [.int (lo : Nat), .int (hi : Nat)])
/-- a list's values, each none or a list of texts, none of them at D -/
def OptsAt (H : Hp) (D : Addr) : List V → List (Option (List (List Nat))) → Prop
  | [], [] => True
  | v :: vs, none :: os => v = .non ∧ OptsAt H D vs os
  | v :: vs, some ps :: os => (∃ p, v = .ref p ∧ p ≠ D ∧ H p = some (.lst (vT ps))) ∧ OptsAt H D vs os
  | _, _ => False
def ListsAt (H : Hp) : List V → List (List (List Nat)) → Prop
  | [], [] => True
  | v :: vs, ps :: pss => (∃ p, v = .ref p ∧ H p = some (.lst (vT ps))) ∧ ListsAt H vs pss
  | _, _ => False
theorem OptsAt.but {H H' : Hp} {D : Addr} (s : ∀ p o, p ≠ D → H p = some o → H' p = some o) : ∀ {vs : List V} {os : List (Option (List (List Nat)))}, OptsAt H D vs os → OptsAt H' D vs os
  | [], [], _ => trivial
  | v :: vs, none :: os, h => ⟨h.1, OptsAt.but s h.2⟩
  | v :: vs, some ps :: os, ⟨⟨p, e, ne, hp⟩, h⟩ => ⟨⟨p, e, ne, s _ _ ne hp⟩, OptsAt.but s h⟩
  | [], _ :: _, h => h.elim
  | _ :: _, [], h => h.elim
theorem OptsAt.snoc {H : Hp} {D : Addr} {v : V} {o : Option (List (List Nat))} : ∀ {vs : List V} {os : List (Option (List (List Nat)))}, OptsAt H D vs os → OptsAt H D [v] [o] → OptsAt H D (vs ++ [v]) (os ++ [o])
  | [], [], _, k => k
  | v :: vs, none :: os, h, k => ⟨h.1, OptsAt.snoc h.2 k⟩
  | v :: vs, some ps :: os, h, k => ⟨h.1, OptsAt.snoc h.2 k⟩
  | [], _ :: _, h, _ => h.elim
  | _ :: _, [], h, _ => h.elim
theorem OptsAt.len {H : Hp} {D : Addr} : ∀ {vs : List V} {os : List (Option (List (List Nat)))}, OptsAt H D vs os → vs.length = os.length
  | [], [], _ => rfl
  | v :: vs, none :: os, h => congrArg (· + 1) h.2.len
  | v :: vs, some ps :: os, h => congrArg (· + 1) h.2.len
  | [], _ :: _, h => h.elim
  | _ :: _, [], h => h.elim
theorem ListsAt.same {H H' : Hp} (s : Same H H') : ∀ {vs : List V} {pss : List (List (List Nat))}, ListsAt H vs pss → ListsAt H' vs pss
  | [], [], _ => trivial
  | v :: vs, ps :: pss, ⟨⟨p, e, hp⟩, h⟩ => ⟨⟨p, e, s _ _ hp⟩, ListsAt.same s h⟩
  | [], _ :: _, h => h.elim
  | _ :: _, [], h => h.elim
theorem ListsAt.len {H : Hp} : ∀ {vs : List V} {pss : List (List (List Nat))}, ListsAt H vs pss → vs.length = pss.length
  | [], [], _ => rfl
  | v :: vs, ps :: pss, h => congrArg (· + 1) h.2.len
  | [], _ :: _, h => h.elim
  | _ :: _, [], h => h.elim
theorem ListsAt.get {H : Hp} : ∀ {vs : List V} {pss : List (List (List Nat))} {i : Nat} {v : V}, ListsAt H vs pss → vs[i]? = some v → ∃ ps p, pss[i]? = some ps ∧ v = .ref p ∧ H p = some (.lst (vT ps))
  | v :: vs, ps :: pss, 0, _, ⟨⟨p, e, hp⟩, h⟩, hv => by cases hv; exact ⟨ps, p, rfl, e, hp⟩
  | v :: vs, ps :: pss, i + 1, w, ⟨_, h⟩, hv => @ListsAt.get H vs pss i w h hv
  | [], [], _, _, _, hv => by cases hv
  | [], _ :: _, _, _, h, _ => h.elim
  | _ :: _, [], _, _, h, _ => h.elim
def notNon : V → Bool
  | .non => false
  | _ => true
theorem OptsAt.get {H : Hp} {D : Addr} : ∀ {vs : List V} {os : List (Option (List (List Nat)))} {i : Nat} {v : V}, OptsAt H D vs os → vs[i]? = some v → v = .non ∨ ∃ p, v = .ref p
  | v :: vs, none :: os, 0, _, h, hv => by cases hv; exact .inl h.1
  | v :: vs, some ps :: os, 0, _, ⟨⟨p, e, _⟩, _⟩, hv => by cases hv; exact .inr ⟨p, e⟩
  | v :: vs, none :: os, i + 1, w, h, hv => @OptsAt.get H D vs os i w h.2 hv
  | v :: vs, some ps :: os, i + 1, w, h, hv => @OptsAt.get H D vs os i w h.2 hv
  | [], [], _, _, _, hv => by cases hv
  | [], _ :: _, _, _, h, _ => h.elim
  | _ :: _, [], _, _, h, _ => h.elim
theorem OptsAt.lists {H : Hp} {D : Addr} : ∀ {vs : List V} {os : List (Option (List (List Nat)))}, OptsAt H D vs os → ListsAt H (vs.filter notNon) (os.filterMap id)
  | [], [], _ => trivial
  | v :: vs, none :: os, h => by
    rw [h.1]
    have := OptsAt.lists h.2
    exact this
  | v :: vs, some ps :: os, ⟨⟨p, e, _, hp⟩, h⟩ => by
    rw [e]
    have := OptsAt.lists h
    exact ⟨⟨p, rfl, hp⟩, this⟩
  | [], _ :: _, h => h.elim
  | _ :: _, [], h => h.elim
def sp_all_lengths : Sp := fun vs H Q _ => ∃ (x : V) (r : Row) (m : Nat), vs = [x, .int (m : Nat)] ∧ Dp K H x (rowD r) ∧ rok r ∧ ∀ v H', Same H H' → IsLen H v H' (allLen r m) → Q v H'
def sp_lengths : Sp := fun vs H Q _ => ∃ (x : V) (r : Row) (h : List Nat), vs = [x, .str (tx h)] ∧ Dp K H x (rowD r) ∧ Row.Ok r ∧ WordOk h ∧ ∀ v H', Same H H' → IsLen H v H' (allLen r h.length) → Q v H'
def sp_letters_at : Sp := fun vs H Q _ => ∃ (x : V) (r : Row) (n : Nat) (h : List Nat), vs = [x, .int (n : Nat), .str (tx h)] ∧ Dp K H x (rowD r) ∧ rok r ∧ r.length ≤ 4 ∧ n ≤ 1000 ∧ h.length ≤ 1000 ∧ ∀ v H', Same H H' → IsLets H v H' (lets r n h) → Q v H'
def sp_places : Sp := fun vs H Q _ => ∃ (x : V) (r : Row) (n : Nat) (h : List Nat), vs = [x, .int (n : Nat), .str (tx h)] ∧ Dp K H x (rowD r) ∧ Row.Ok r ∧ n ≤ 200 ∧ WordOk h ∧ ∀ v H', Same H H' → IsLets H v H' (lets r n h) → Q v H'
def sp_all_places : Sp := fun vs H Q _ => ∃ (x : V) (r : Row) (h : List Nat), vs = [x, .str (tx h)] ∧ Dp K H x (rowD r) ∧ rok r ∧ r.length ≤ 4 ∧ h.length ≤ 1000 ∧ ∀ (p : Addr) (ws : List V) H', Same H H' → H' p = some (.lst ws) → ListsAt H' ws (allPl r h) → Q (.ref p) H'
def sp_how_many : Sp := fun vs H Q _ => ∃ (x : V) (r : Row) (h : List Nat), vs = [x, .str (tx h)] ∧ Dp K H x (rowD r) ∧ Row.Ok r ∧ WordOk h ∧ ∀ H', Same H H' → Q (.int (ways r h : Nat)) H'
noncomputable def optW : Option (List Nat) → V
  | none => .non
  | some w => .str (tx w)
def sp_first_said : Sp := fun vs H Q _ => ∃ (x : V) (r : Row) (h : List Nat), vs = [x, .str (tx h)] ∧ Dp K H x (rowD r) ∧ Row.Ok r ∧ WordOk h ∧ ∀ H', Same H H' → Q (optW (firstW r h)) H'
theorem len_all_lengths : ∀ vs H Q E, sp_all_lengths K vs H Q E → vs.length = 2 := by rintro _ _ _ _ ⟨_, _, _, rfl, _⟩; rfl
theorem len_lengths : ∀ vs H Q E, sp_lengths K vs H Q E → vs.length = 2 := by rintro _ _ _ _ ⟨_, _, _, rfl, _⟩; rfl
theorem len_letters_at : ∀ vs H Q E, sp_letters_at K vs H Q E → vs.length = 3 := by rintro _ _ _ _ ⟨_, _, _, _, rfl, _⟩; rfl
theorem len_places : ∀ vs H Q E, sp_places K vs H Q E → vs.length = 3 := by rintro _ _ _ _ ⟨_, _, _, _, rfl, _⟩; rfl
theorem len_all_places : ∀ vs H Q E, sp_all_places K vs H Q E → vs.length = 2 := by rintro _ _ _ _ ⟨_, _, _, rfl, _⟩; rfl
theorem len_how_many : ∀ vs H Q E, sp_how_many K vs H Q E → vs.length = 2 := by rintro _ _ _ _ ⟨_, _, _, rfl, _⟩; rfl
theorem len_first_said : ∀ vs H Q E, sp_first_said K vs H Q E → vs.length = 2 := by rintro _ _ _ _ ⟨_, _, _, rfl, _⟩; rfl
end
def t_all_lengths (K : PySem.W.Frag) : TS :=
  (tSeq (tPar 2 3 (tCons (tCall (sp_fewest_signs K) [] E0 (tCons (tVar 0) (tCons (tVar 1) tNil))) (tCons (tCB rMin2 (tCons (tC (.int 200)) (tCons (tOp rSubI (tCall (sp_fewest_signs K) [] E0 (tCons (tVar 0) (tCons (tOp rAddI (tVar 1) (tC (.int 1))) tNil))) (tC (.int 1))) tNil))) tNil)))
  (tRet (tIf (tAnd (tTest (tOp rEq (tCall (sp_all_come K) [] E0 (tCons (tVar 0) (tCons (tVar 2) tNil))) (tVar 1))) (tTest (tOp rLeI (tVar 2) (tC (.int 200))))) (tTup (tCons (tVar 2) (tCons (tVar 3) tNil))) (tC .non))))

def t_lengths (K : PySem.W.Frag) : TS :=
  (tSeq (tDrop (tCall (sp_need_row K) [] E0 (tCons (tVar 0) tNil)))
  (tSeq (tDrop (tCall (sp_need_word K) [] E0 (tCons (tVar 1) tNil)))
  (tRet (tCall (sp_all_lengths K) [] E0 (tCons (tVar 0) (tCons (tCB rLenT (tCons (tVar 1) tNil)) tNil))))))

def t_letters_at (K : PySem.W.Frag) : TS :=
  (tSeq (tIfS (tTest (tOp rNe (tCall (sp_all_come K) [] E0 (tCons (tVar 0) (tCons (tVar 1) tNil))) (tCB rLenT (tCons (tVar 2) tNil)))) (tRet (tC .non)) tNext)
  (tSeq (tPar 3 4 (tCons (tLst tNil) (tCons (tC (.int 0)) tNil)))
  (tSeq (tFor (iList K (tCall (sp_steps K) [] E0 (tCons (tVar 0) (tCons (tVar 1) tNil)))) (gName 5)
  (tSeq (tAsg (tSl rSlS (tVar 2) (tPart (tVar 4)) (tPart (tOp rAddI (tVar 4) (tVar 5)))) (gName 6))
  (tSeq (tAsg (tM1 (rJoin K) (tC (.str "")) (tLc (iStr (tC (.str "abcdefghijklmnopqrstuvwxyz"))) (gName 8) (tTest (tOp rEq (tVar 6) (tOp rMulS (tCall (sp_heard_as K) [] E0 (tCons (tVar 0) (tCons (tVar 8) tNil))) (tVar 5)))) (tVar 8) [8])) (gName 7))
  (tSeq (tIfS (tTest (tOp rEq (tVar 7) (tC (.str "")))) (tRet (tC .non)) tNext)
  (tSeq (tDrop (tBM K "list" rAppend (tVar 3) (tCons (tVar 7) tNil)))
  (tAsg (tOp rAddI (tVar 4) (tVar 5)) (gName 4)))))))
  (tRet (tVar 3)))))

def t_places (K : PySem.W.Frag) : TS :=
  (tSeq (tDrop (tCall (sp_need_row K) [] E0 (tCons (tVar 0) tNil)))
  (tSeq (tIfS (tNot (tB (tCall (sp_is_within K) [] E0 (tCons (tVar 1) (tCons (tC (.int 0)) (tCons (tC (.int 200)) tNil)))))) tNever tNext)
  (tSeq (tDrop (tCall (sp_need_word K) [] E0 (tCons (tVar 2) tNil)))
  (tRet (tCall (sp_letters_at K) [] E0 (tCons (tVar 0) (tCons (tVar 1) (tCons (tVar 2) tNil))))))))

def t_all_places (K : PySem.W.Frag) : TS :=
  (tSeq (tAsg (tCall (sp_all_lengths K) [] E0 (tCons (tVar 0) (tCons (tCB rLenT (tCons (tVar 1) tNil)) tNil))) (gName 2))
  (tSeq (tIfS (tTest (tOp rIsNon (tVar 2) (tC .non))) (tRet (tLst tNil)) tNext)
  (tSeq (tAsg (tLc (iRng2 (tCons (tOp (rIxT K) (tVar 2) (tC (.int 0))) (tCons (tOp rAddI (tOp (rIxT K) (tVar 2) (tC (.int 1))) (tC (.int 1))) tNil))) (gName 4) tYes (tCall (sp_letters_at K) [] E0 (tCons (tVar 0) (tCons (tVar 4) (tCons (tVar 1) tNil)))) [4]) (gName 3))
  (tRet (tLc (iList K (tVar 3)) (gName 5) (tTest (tOp rNotNon (tVar 5) (tC .non))) (tVar 5) [5])))))

def t_how_many (K : PySem.W.Frag) : TS :=
  (tSeq (tDrop (tCall (sp_need_row K) [] E0 (tCons (tVar 0) tNil)))
  (tSeq (tDrop (tCall (sp_need_word K) [] E0 (tCons (tVar 1) tNil)))
  (tSeq (tAsg (tC (.int 0)) (gName 2))
  (tSeq (tFor (iList K (tCall (sp_all_places K) [] E0 (tCons (tVar 0) (tCons (tVar 1) tNil)))) (gName 3)
  (tSeq (tAsg (tC (.int 1)) (gName 4))
  (tSeq (tFor (iList K (tVar 3)) (gName 5)
  (tAsg (tOp rMulI (tVar 4) (tCB rLenT (tCons (tVar 5) tNil))) (gName 4)))
  (tAsg (tOp rAddI (tVar 2) (tVar 4)) (gName 2)))))
  (tRet (tVar 2))))))

def t_first_said (K : PySem.W.Frag) : TS :=
  (tSeq (tDrop (tCall (sp_need_row K) [] E0 (tCons (tVar 0) tNil)))
  (tSeq (tDrop (tCall (sp_need_word K) [] E0 (tCons (tVar 1) tNil)))
  (tSeq (tFor (iList K (tCall (sp_all_places K) [] E0 (tCons (tVar 0) (tCons (tVar 1) tNil)))) (gName 2)
  (tRet (tM1 (rJoin K) (tC (.str "")) (tLc (iList K (tVar 2)) (gName 3) tYes (tOp rIxS (tVar 3) (tC (.int 0))) [3]))))
  (tRet (tC .non)))))

section
variable (K : PySem.W.Frag)
theorem sem_all_lengths : ∀ vs H Q E, sp_all_lengths K vs H Q E → t_all_lengths K { nx := fun _ H' => Q .non H', rt := Q } (start ["row", "many", "low", "high"] vs) H := by
  rintro vs H Q E ⟨x, r, m, rfl, hd, hr, q⟩
  show t_all_lengths K _ [some x, some (.int (m : Nat)), none, none] H
  unfold t_all_lengths
  walk_at "v"
  refine ⟨x, r, m, rfl, hd, hr, fun H1 s1 => ?_⟩
  walk_at "v"
  refine ⟨x, r, m + 1, rfl, s1.dat hd, hr, fun H2 s2 => ?_⟩
  have hf1 : 1 ≤ fewest r (m + 1) := by
    have := fewest_zero hr (m + 1)
    omega
  walk_at "v"
  have e2 : (if ((fewest r (m + 1) : Nat) : Int) - 1 < 200 then ((fewest r (m + 1) : Nat) : Int) - 1 else 200) = ((min 200 (fewest r (m + 1) - 1) : Nat) : Int) := by split <;> omega
  rw [e2]
  refine ⟨x, r, fewest r m, rfl, s2.dat (s1.dat hd), hr, ?_⟩
  walk_at "v"
  have s12 := s1.trans s2
  have no : ¬ (allCome r (fewest r m) = m ∧ fewest r m ≤ 200) → Q .non H2 := fun h => q _ _ s12 (by unfold allLen; rw [if_neg h]; rfl)
  by_cases h1 : allCome r (fewest r m) = m
  · refine w_dT (by omega) ?_
    walk_at "v"
    by_cases h2 : fewest r m ≤ 200
    · refine w_dT (by omega) ?_
      walk_at "v"
      refine ⟨szOk 2, fun p np => ?_⟩
      refine q _ _ (s12.trans (same_new np)) ?_
      unfold allLen
      rw [if_pos ⟨h1, h2⟩]
      exact ⟨p, rfl, s12.free np, upd_same⟩
    · refine w_dF (by omega) ?_
      walk_at "v"
      exact no fun h => h2 h.2
  · refine w_dF (by omega) ?_
    walk_at "v"
    exact no fun h => h1 h.1
theorem sem_lengths : ∀ vs H Q E, sp_lengths K vs H Q E → t_lengths K { nx := fun _ H' => Q .non H', rt := Q } (start ["row", "heard"] vs) H := by
  rintro vs H Q E ⟨x, r, h, rfl, hd, hR, hW, q⟩
  show t_lengths K _ [some x, some (.str (tx h))] H
  unfold t_lengths
  have hl := hW.1
  walk_at "v"
  refine ⟨x, rowD r, rfl, hd, fit_row r, isRow_of hR, fun H1 s1 => ?_⟩
  walk_at "v"
  refine ⟨_, .str (tx h), rfl, .str _, fit_tx (by omega), isWord_of hW, fun H2 s2 => ?_⟩
  walk_at "v"
  refine w_lenW (by omega) ?_
  walk_at "v"
  refine ⟨x, r, h.length, rfl, s2.dat (s1.dat hd), rok_of hR, fun v H3 s3 hv => q v H3 ((s1.trans s2).trans s3) ?_⟩
  have s12 := s1.trans s2
  cases e : allLen r h.length with
  | none => rw [e] at hv; exact hv
  | some lh =>
    rw [e] at hv
    obtain ⟨p, e1, np, hp⟩ := hv
    exact ⟨p, e1, s12.free np, hp⟩
theorem lets_free {H H1 H' : Hp} {v : V} {o : Option (List (List Nat))} (s : Same H H1) (h : IsLets H1 v H' o) : IsLets H v H' o := by
  cases o with
  | none => exact h
  | some ps =>
    obtain ⟨p, e1, np, hp⟩ := h
    exact ⟨p, e1, s.free np, hp⟩
theorem sem_letters_at : ∀ vs H Q E, sp_letters_at K vs H Q E → t_letters_at K { nx := fun _ H' => Q .non H', rt := Q } (start ["row", "length", "heard", "found", "at", "many", "some", "good", "letter"] vs) H := by
  rintro vs H Q E ⟨x, r, n, h, rfl, hd, hr, hl, hn, hh, q⟩
  show t_letters_at K _ [some x, some (.int (n : Nat)), some (.str (tx h)), none, none, none, none, none, none] H
  unfold t_letters_at
  walk_at "v"
  refine w_ifS ?_
  walk_at "v"
  refine ⟨x, r, n, rfl, hd, hr, ?_⟩
  walk_at "v"
  refine w_lenW (by omega) ?_
  walk_at "v"
  by_cases hA : allCome r n = h.length
  · refine w_nF (by omega) ?_
    have hlets : lets r n h = (goL r ((stp' r n).drop 0) (h.drop (allCome r 0))).map (([] : List (List Nat)) ++ ·) := by
      unfold lets
      rw [if_pos hA, allCome_zero hr, List.drop_zero, List.drop_zero]
      cases goL r (stp' r n) h <;> rfl
    walk_at "v"
    refine ⟨szOk 0, fun fo nfo => ?_⟩
    walk_at "v"
    have hd0 := (same_new (o := .lst []) nfo).dat hd
    refine ⟨x, r, n, rfl, hd0, hr, by omega, fun H1 p s1 np hp => ?_⟩
    have hfo1 : H1 fo = some (.lst (vT [])) := s1 _ _ upd_same
    have s01 := (same_new (o := .lst []) nfo).trans s1
    have nep : p ≠ fo := fun e => by rw [e, upd_same] at np; cases np
    walk_at "v"
    refine for_list (xs := vI (stp' r n)) (fun i σ H2 => ∃ (y5 y6 y7 : Option V) (ps : List (List Nat)), σ = [some x, some (.int (n : Nat)), some (.str (tx h)), some (.ref fo), some (.int (allCome r i : Nat)), y5, y6, y7, none] ∧ Same H H2 ∧ H2 fo = some (.lst (vT ps)) ∧ H2 p = some (.lst (vI (stp' r n))) ∧ ps.length = i ∧ lets r n h = (goL r ((stp' r n).drop i) (h.drop (allCome r i))).map (ps ++ ·)) ?_ ?_ ?_ ?_
    · exact ⟨none, none, none, [], by rw [allCome_zero hr]; rfl, s01, hfo1, hp, rfl, hlets⟩
    · rintro i σ H2 hi ⟨y5, y6, y7, ps, rfl, s2, hf2, hp2, _⟩
      exact sqL_at hp2
    · rintro i v σ H2 hv ⟨y5, y6, y7, ps, rfl, s2, hf2, hp2, hpl, he⟩
      obtain ⟨m, hm, rfl⟩ := vI_get hv
      have hin : i < n := by
        have := (List.getElem?_eq_some_iff.mp hm).1
        rw [stp_len] at this
        exact this
      rw [stp_get r hin] at hm
      cases hm
      have hd2 := s2.dat hd
      obtain ⟨gN, gS⟩ := goL_next hr hin he
      have hdl : dl r i ≤ 16 := by
        have := (allCome_1 hr hl i).2
        unfold dl
        omega
      walk_at "v"
      refine w_slW_mid (i := allCome r i) (j := allCome r i + dl r i) (by omega) ?_
      rw [show (h.take (allCome r i + dl r i)).drop (allCome r i) = (h.drop (allCome r i)).take (dl r i) from by rw [List.drop_take]; congr 1; omega]
      walk_at "v"
      intro D nD
      have hg : ∀ c, bD (tx ((h.drop (allCome r i)).take (dl r i)) = tx (List.replicate (dl r i) (heardAs r c))) = bD ((h.drop (allCome r i)).take (dl r i) = List.replicate (dl r i) (heardAs r c)) := fun c => bD_congr ⟨tx_inj, congrArg tx⟩
      refine lc_same (walk_str (z := "abcdefghijklmnopqrstuvwxyz")) nD [some x, some (.int (n : Nat)), some (.str (tx h)), some (.ref fo), some (.int (allCome r i : Nat)), some (.int (dl r i : Nat)), some (.str (tx ((h.drop (allCome r i)).take (dl r i)))), y7, none] rfl (fun k => vS ((smalls.take k).filter fun c => bD ((h.drop (allCome r i)).take (dl r i) = List.replicate (dl r i) (heardAs r c)))) rfl (fun _ _ => trivial) (fun k v H5 H5' hk z yy => ?_) (fun H5 s5 hD => ?_)
      · obtain ⟨rfl, c, hc, rfl⟩ := yy
        have hc' : smalls[k]? = some c := by rw [← alpha_tl, Array.getElem?_toList]; exact hc
        have hsz : (vS ((smalls.take k).filter fun c => bD ((h.drop (allCome r i)).take (dl r i) = List.replicate (dl r i) (heardAs r c)))).length < sizeLine := szLt _ (by
          rw [List.length_map]
          have g1 := List.length_filter_le (fun c => bD ((h.drop (allCome r i)).take (dl r i) = List.replicate (dl r i) (heardAs r c))) (smalls.take k)
          have g2 : (smalls.take k).length ≤ smalls.length := by rw [List.length_take]; exact Nat.min_le_right _ _
          have g3 : smalls.length = 26 := by decide
          omega)
        walk_at "v"
        refine ⟨rfl, ?_⟩
        walk_at "v"
        refine ⟨x, r, c, rfl, z.1.dat hd2, ?_⟩
        walk_at "v"
        refine w_mulS (z := tx [heardAs r c]) (mulOk (by show 1 * dl r i ≤ 10000; omega) (by omega)) ?_
        rw [tx_mul, flat1]
        walk_at "v"
        rw [hg]
        by_cases heq : (h.drop (allCome r i)).take (dl r i) = List.replicate (dl r i) (heardAs r c)
        · refine w_dT heq ?_
          walk_at "v"
          refine lc_put nD z (Same.refl _) hsz ?_
          rw [List.take_add_one, hc', List.filter_append]
          have : ([c].filter fun c => bD ((h.drop (allCome r i)).take (dl r i) = List.replicate (dl r i) (heardAs r c))) = [c] := by
            rw [List.filter_cons, if_pos (bD_t heq)]
            rfl
          show vS (_ ++ [c].filter fun c => bD ((h.drop (allCome r i)).take (dl r i) = List.replicate (dl r i) (heardAs r c))) = _
          rw [this]
          unfold vS
          rw [List.map_append]
          rfl
        · refine w_dF heq ?_
          refine lc_skip z (Same.refl _) ?_
          rw [List.take_add_one, hc', List.filter_append]
          have : ([c].filter fun c => bD ((h.drop (allCome r i)).take (dl r i) = List.replicate (dl r i) (heardAs r c))) = [] := by
            rw [List.filter_cons, if_neg (by rw [bD_f heq]; decide)]
            rfl
          show vS (_ ++ [c].filter fun c => bD ((h.drop (allCome r i)).take (dl r i) = List.replicate (dl r i) (heardAs r c))) = _
          rw [this, List.append_nil]
      · have hu : (smalls.take (Str.cps "abcdefghijklmnopqrstuvwxyz").size).filter (fun c => bD ((h.drop (allCome r i)).take (dl r i) = List.replicate (dl r i) (heardAs r c))) = goodL r (dl r i) (h.drop (allCome r i)) := by
          have e26 : smalls.take (Str.cps "abcdefghijklmnopqrstuvwxyz").size = smalls := List.take_of_length_le (by decide +kernel)
          rw [e26]
          rfl
        rw [hu] at hD
        have hgl : (goodL r (dl r i) (h.drop (allCome r i))).length ≤ 26 := by
          have g1 := List.length_filter_le (fun c => bD ((h.drop (allCome r i)).take (dl r i) = List.replicate (dl r i) (heardAs r c))) smalls
          have g3 : smalls.length = 26 := by decide
          have : (goodL r (dl r i) (h.drop (allCome r i))).length ≤ smalls.length := g1
          omega
        generalize goodL r (dl r i) (h.drop (allCome r i)) = g at hD gN gS hgl
        walk_at "v"
        have e : vS g = (g.map sg).map V.str := by rw [List.map_map]; rfl
        refine w_joinQ (g.map sg) (sqL_at (by rw [hD, e])) (by rw [sum_ones, show (Str.ofString "").length = 0 by decide +kernel, Nat.mul_zero]; omega) ?_
        rw [join_strs, flat_sg]
        have sx := s2.trans s5
        have hf5 := s5 _ _ hf2
        have hp5 := s5 _ _ hp2
        walk_at "v"
        refine w_ifS ?_
        walk_at "v"
        have ecmp : bD (tx g = Str.ofString "") = bD (g = []) := bD_congr ⟨fun h => tx_inj (h.trans (show Str.ofString "" = tx [] by decide +kernel)), fun h => by rw [h]; decide +kernel⟩
        rw [ecmp]
        by_cases hg0 : g = []
        · refine w_dT hg0 ?_
          walk_at "v"
          refine q _ _ sx ?_
          rw [gN hg0]
          rfl
        · refine w_dF hg0 ?_
          walk_at "v"
          refine w_append hf5 (szLt _ (by rw [List.length_map]; omega)) ?_
          walk_at "v"
          have eC : ((allCome r (i + 1) : Nat) : Int) = (allCome r i : Nat) + (dl r i : Nat) := by rw [allCome_succ hr]; rfl
          rw [eC]
          refine ⟨_, _, _, ps ++ [g], rfl, same_mut sx nfo, ?_, ?_, by rw [List.length_append, hpl]; rfl, gS hg0⟩
          · rw [upd_same]
            unfold vT
            rw [List.map_append]
            rfl
          · rw [upd_ne nep]
            exact hp5
    · rintro σ H2 ⟨y5, y6, y7, ps, rfl, s2, hf2, hp2, hpl, he⟩
      rw [show (vI (stp' r n)).length = n by rw [List.length_map, stp_len]] at he
      walk_at "v"
      refine q _ _ s2 ?_
      rw [he, List.drop_of_length_le (by rw [stp_len]; exact Nat.le_refl n)]
      show IsLets H _ H2 (some (ps ++ []))
      rw [List.append_nil]
      exact ⟨fo, rfl, nfo, hf2⟩
  · refine w_nT (by omega) ?_
    walk_at "v"
    refine q _ _ (Same.refl H) ?_
    unfold lets
    rw [if_neg hA]
    rfl
theorem sem_places : ∀ vs H Q E, sp_places K vs H Q E → t_places K { nx := fun _ H' => Q .non H', rt := Q } (start ["row", "length", "heard"] vs) H := by
  rintro vs H Q E ⟨x, r, n, h, rfl, hd, hR, hn, hW, q⟩
  show t_places K _ [some x, some (.int (n : Nat)), some (.str (tx h))] H
  unfold t_places
  have hl := hW.1
  walk_at "v"
  refine ⟨x, rowD r, rfl, hd, fit_row r, isRow_of hR, fun H1 s1 => ?_⟩
  walk_at "v"
  refine w_ifS ?_
  walk_at "v"
  refine ⟨_, 0, 200, .int (n : Nat), rfl, .int _, ?_⟩
  rw [show isWithinD (PyData.int (n : Nat)) 0 200 = true from by
    show (decide ((0 : Int) ≤ (n : Nat)) && decide (((n : Nat) : Int) ≤ 200)) = true
    rw [decide_eq_true (by omega), decide_eq_true (by omega)]
    rfl]
  walk_at "v"
  refine iteF ?_
  walk_at "v"
  refine ⟨_, .str (tx h), rfl, .str _, fit_tx (by omega), isWord_of hW, fun H2 s2 => ?_⟩
  walk_at "v"
  exact ⟨x, r, n, h, rfl, s2.dat (s1.dat hd), rok_of hR, hR.1, by omega, by omega, fun v H3 s3 hv => q v H3 ((s1.trans s2).trans s3) (lets_free (s1.trans s2) hv)⟩
theorem sem_all_places : ∀ vs H Q E, sp_all_places K vs H Q E → t_all_places K { nx := fun _ H' => Q .non H', rt := Q } (start ["row", "heard", "ends", "rows", "length", "some"] vs) H := by
  rintro vs H Q E ⟨x, r, h, rfl, hd, hr, hl, hh, q⟩
  show t_all_places K _ [some x, some (.str (tx h)), none, none, none, none] H
  unfold t_all_places
  walk_at "v"
  refine w_lenW (by omega) ?_
  walk_at "v"
  refine ⟨x, r, h.length, rfl, hd, hr, fun v H1 s1 hv => ?_⟩
  have hlast := lasts_of hr h.length
  cases e : allLen r h.length with
  | none =>
    rw [e] at hv hlast
    have hv' : v = .non := hv
    subst hv'
    walk_at "v"
    refine w_ifS ?_
    walk_at "v"
    refine w_dT rfl ?_
    walk_at "v"
    refine ⟨szOk 0, fun p np => ?_⟩
    refine q p [] _ (s1.trans (same_new np)) upd_same ?_
    have : allPl r h = [] := by
      unfold allPl
      rw [show lasts r h.length = [] from hlast]
      rfl
    rw [this]
    trivial
  | some lh =>
    obtain ⟨lo, hi⟩ := lh
    rw [e] at hv hlast
    obtain ⟨p, rfl, np, hp⟩ := hv
    obtain ⟨h1, h2, h3⟩ : lo ≤ hi ∧ hi ≤ 200 ∧ lasts r h.length = List.range' lo (hi + 1 - lo) := hlast
    walk_at "v"
    refine w_ifS ?_
    walk_at "v"
    refine w_dF (fun h => by cases h) ?_
    walk_at "v"
    refine ⟨(lo : Nat), (hi : Int) + 1, rfl, ⟨by omega, by omega, by omega, by omega⟩, fun D nD => ?_⟩
    have hn : ((hi : Int) + 1 - (lo : Int)).toNat = hi + 1 - lo := by omega
    refine lc_it walk_range (fun i H2 => ∃ ws, Same H1 H2 ∧ H2 D = some (.lst ws) ∧ OptsAt H2 D ws ((List.range' lo i).map fun n => lets r n h)) ⟨[], same_new nD, upd_same, trivial⟩ (fun _ _ _ _ => trivial) ?_ ?_
    · rintro i v H2 H2' hi' ⟨ws, s2, hD, hws⟩ ⟨rfl, rfl⟩
      rw [hn] at hi'
      show gName 4 _ [some x, some (.str (tx h)), some (.ref p), none, none, none] _ _
      walk_at "v"
      refine ⟨rfl, ?_⟩
      walk_at "v"
      refine ⟨x, r, lo + i, h, rfl, s2.dat (s1.dat hd), hr, hl, by omega, by omega, fun v H3 s3 hv => ?_⟩
      have hD3 := s3 _ _ hD
      have hwl : ws.length = i := by rw [hws.len, List.length_map, List.length_range']
      refine ⟨ws, hD3, szLt _ (by omega), ws ++ [v], same_mut (s2.trans s3) nD, upd_same, ?_⟩
      rw [List.range'_concat, List.map_append, Nat.one_mul]
      have hb : ∀ a o, a ≠ D → H3 a = some o → (upd H3 D (.lst (ws ++ [v]))) a = some o := fun a o ne e => by rw [upd_ne ne]; exact e
      refine OptsAt.snoc ((hws.but fun a o _ e => s3 _ _ e).but hb) ?_
      show OptsAt _ D [v] [lets r (lo + i) h]
      cases e4 : lets r (lo + i) h with
      | none => rw [e4] at hv; exact ⟨hv, trivial⟩
      | some ps =>
        rw [e4] at hv
        obtain ⟨a, e5, na, ha⟩ := hv
        have neD : a ≠ D := fun e => by rw [e, hD] at na; cases na
        exact ⟨⟨a, e5, neD, hb _ _ neD ha⟩, trivial⟩
    · rintro H2 ⟨ws, s2, hD, hws⟩
      rw [hn, ← h3] at hws
      walk_at "v"
      have hwl : ws.length ≤ 201 := by
        rw [hws.len, List.length_map, h3, List.length_range']
        omega
      intro D2 nD2
      refine lc_same (walk_list (K := K) (a := D) (xs := ws)) nD2 [some x, some (.str (tx h)), some (.ref p), some (.ref D), none, none] rfl (fun i => (ws.take i).filter notNon) rfl (fun H3 s3 => sqL_at (s3 _ _ hD)) (fun i v H3 H3' hi z yy => ?_) (fun H3 s3 hD3 => ?_)
      · obtain ⟨rfl, hv⟩ := yy
        have hsz : ((ws.take i).filter notNon).length < sizeLine := szLt _ (by
          have g1 := List.length_filter_le notNon (ws.take i)
          rw [List.length_take] at g1
          omega)
        rcases hws.get hv with rfl | ⟨a, rfl⟩
        · walk_at "v"
          refine ⟨rfl, ?_⟩
          walk_at "v"
          refine w_nF rfl ?_
          refine lc_skip z (Same.refl _) ?_
          rw [List.take_add_one, hv, List.filter_append]
          show _ ++ [] = _
          rw [List.append_nil]
        · walk_at "v"
          refine ⟨rfl, ?_⟩
          walk_at "v"
          refine w_nT (fun h => by cases h) ?_
          walk_at "v"
          refine lc_put nD2 z (Same.refl _) hsz ?_
          rw [List.take_add_one, hv, List.filter_append]
          rfl
      · rw [List.take_length] at hD3
        refine q D2 _ H3 ((s1.trans s2).trans s3) hD3 ?_
        exact (hws.lists).same s3
end
section
variable (K : PySem.W.Frag)
theorem allPl_len {r : Row} {h : List Nat} : (allPl r h).length ≤ 201 ∧ ∀ ps ∈ allPl r h, ps.length ≤ 200 ∧ ∀ p ∈ ps, p ≠ [] ∧ p.length ≤ 26 ∧ ∀ c ∈ p, isSmall c = true := by
  constructor
  · unfold allPl
    refine Nat.le_trans (List.length_filterMap_le _ _) ?_
    rw [List.length_map]
    refine Nat.le_trans (List.length_filter_le _ _) ?_
    rw [List.length_range]
    exact Nat.le_refl _
  · intro ps hps
    unfold allPl at hps
    obtain ⟨o, ho, e⟩ := List.mem_filterMap.mp hps
    obtain ⟨n, hn, rfl⟩ := List.mem_map.mp ho
    have e' : lets r n h = some ps := e
    have hn' := List.mem_range.mp (List.mem_filter.mp hn).1
    have h1 := lets_len e'
    refine ⟨by omega, fun p hp => ⟨(h1.2 p hp).1, ?_, (h1.2 p hp).2⟩⟩
    have e2 : ∀ (ms h : List Nat) (ps : List (List Nat)), goL r ms h = some ps → ∀ p ∈ ps, p.length ≤ 26 := by
      intro ms
      induction ms with
      | nil => intro h ps e p hp; cases e; cases hp
      | cons m ms ih =>
        intro h ps e p hp
        have e' : (if goodL r m h = [] then none else (goL r ms (h.drop m)).map (goodL r m h :: ·)) = some ps := e
        by_cases h1 : goodL r m h = []
        · rw [if_pos h1] at e'; cases e'
        · rw [if_neg h1] at e'
          cases h2 : goL r ms (h.drop m) with
          | none => rw [h2] at e'; cases e'
          | some qs =>
            rw [h2] at e'
            cases e'
            rcases List.mem_cons.mp hp with h3 | h3
            · rw [h3]
              have g1 := List.length_filter_le (fun c => bD (h.take m = List.replicate m (heardAs r c))) smalls
              exact Nat.le_trans g1 (by decide)
            · exact ih _ _ h2 p h3
    unfold lets at e'
    by_cases hA : allCome r n = h.length
    · rw [if_pos hA] at e'
      exact e2 _ _ _ e' p hp
    · rw [if_neg hA] at e'; cases e'
theorem vT_get {ps : List (List Nat)} {i : Nat} {x : V} (h : (vT ps)[i]? = some x) : ∃ p, ps[i]? = some p ∧ x = .str (tx p) := by
  rw [List.getElem?_map] at h
  cases e : ps[i]? with
  | none => rw [e] at h; cases h
  | some p => rw [e] at h; cases h; exact ⟨p, rfl, rfl⟩
theorem sem_how_many : ∀ vs H Q E, sp_how_many K vs H Q E → t_how_many K { nx := fun _ H' => Q .non H', rt := Q } (start ["row", "heard", "total", "some", "ways", "letters"] vs) H := by
  rintro vs H Q E ⟨x, r, h, rfl, hd, hR, hW, q⟩
  show t_how_many K _ [some x, some (.str (tx h)), none, none, none, none] H
  unfold t_how_many
  have hl := hW.1
  walk_at "v"
  refine ⟨x, rowD r, rfl, hd, fit_row r, isRow_of hR, fun H1 s1 => ?_⟩
  walk_at "v"
  refine ⟨_, .str (tx h), rfl, .str _, fit_tx (by omega), isWord_of hW, fun H2 s2 => ?_⟩
  walk_at "v"
  have s12 := s1.trans s2
  refine ⟨x, r, h, rfl, s12.dat hd, rok_of hR, hR.1, by omega, fun p ws H3 s3 hp hws => ?_⟩
  obtain ⟨hal, hall⟩ := allPl_len (r := r) (h := h)
  have s13 := s12.trans s3
  generalize hP : allPl r h = P at hws hal hall
  walk_at "v"
  refine for_list (xs := ws) (fun i σ H4 => ∃ (y3 y4 y5 : Option V), σ = [some x, some (.str (tx h)), some (.int ((((P.take i).map fun ps => prodN (ps.map List.length)).sum : Nat) : Int)), y3, y4, y5] ∧ H4 = H3) ⟨none, none, none, rfl, rfl⟩ (fun i σ H4 _ z => by obtain ⟨_, _, _, _, rfl⟩ := z; exact sqL_at hp) ?_ ?_
  · rintro i v σ H4 hv ⟨y3, y4, y5, rfl, rfl⟩
    obtain ⟨ps, a, hps, rfl, ha⟩ := hws.get hv
    have hpsm := hall ps (List.mem_of_getElem? hps)
    walk_at "v"
    refine for_list (xs := vT ps) (fun j σ H5 => ∃ (y5 : Option V), σ = [some x, some (.str (tx h)), some (.int ((((P.take i).map fun ps => prodN (ps.map List.length)).sum : Nat) : Int)), some (.ref a), some (.int (prodN ((ps.take j).map List.length) : Nat)), y5] ∧ H5 = H4) ⟨_, rfl, rfl⟩ (fun j σ H5 _ z => by obtain ⟨_, _, rfl⟩ := z; exact sqL_at ha) ?_ ?_
    · rintro j v2 σ H5 hv2 ⟨y5, rfl, rfl⟩
      obtain ⟨g, hg, rfl⟩ := vT_get hv2
      have hgm := hpsm.2 g (List.mem_of_getElem? hg)
      have hgl := hgm.2.1
      walk_at "v"
      refine w_lenW (by omega) ?_
      walk_at "v"
      refine w_mulI (.inr ⟨by omega, by omega⟩) ?_
      walk_at "v"
      have e5 : ((prodN ((ps.take (j + 1)).map List.length) : Nat) : Int) = (prodN ((ps.take j).map List.length) : Nat) * (g.length : Nat) := by
        rw [List.take_add_one, hg, List.map_append, show (some g).toList.map List.length = [g.length] from rfl, prodN_snoc, Int.natCast_mul]
      rw [e5]
      exact ⟨_, rfl, rfl⟩
    · rintro σ H5 ⟨y5, rfl, rfl⟩
      rw [show (vT ps).length = ps.length from List.length_map _, List.take_length]
      walk_at "v"
      have e5 : ((((P.take (i + 1)).map fun ps => prodN (ps.map List.length)).sum : Nat) : Int) = (((P.take i).map fun ps => prodN (ps.map List.length)).sum : Nat) + (prodN (ps.map List.length) : Nat) := by
        rw [List.take_add_one, hps, List.map_append, List.sum_append, Int.natCast_add]
        simp
      rw [e5]
      exact ⟨_, _, _, rfl, rfl⟩
  · rintro σ H4 ⟨y3, y4, y5, rfl, rfl⟩
    rw [hws.len, List.take_length]
    walk_at "v"
    have := q H4 s13
    unfold ways at this
    rw [hP] at this
    exact this
theorem w_headW {w : List Nat} {H : Hp} {Q : VK} (h0 : w ≠ []) (hz : w.length ≤ 10000000) (q : Q (.str (sg (w.headD 0))) H) : rIxS (.str (tx w)) (.int 0) H Q := by
  cases w with
  | nil => exact absurd rfl h0
  | cons c w => exact w_ixS (szOk _ hz) (show atI (c :: w) ((0 : Nat) : Int) = some c by simp [atI, ixN]) q
theorem sem_first_said : ∀ vs H Q E, sp_first_said K vs H Q E → t_first_said K { nx := fun _ H' => Q .non H', rt := Q } (start ["row", "heard", "some", "letters"] vs) H := by
  rintro vs H Q E ⟨x, r, h, rfl, hd, hR, hW, q⟩
  show t_first_said K _ [some x, some (.str (tx h)), none, none] H
  unfold t_first_said
  have hl := hW.1
  walk_at "v"
  refine ⟨x, rowD r, rfl, hd, fit_row r, isRow_of hR, fun H1 s1 => ?_⟩
  walk_at "v"
  refine ⟨_, .str (tx h), rfl, .str _, fit_tx (by omega), isWord_of hW, fun H2 s2 => ?_⟩
  walk_at "v"
  have s12 := s1.trans s2
  refine ⟨x, r, h, rfl, s12.dat hd, rok_of hR, hR.1, by omega, fun p ws H3 s3 hp hws => ?_⟩
  obtain ⟨hal, hall⟩ := allPl_len (r := r) (h := h)
  have s13 := s12.trans s3
  unfold firstW at q
  generalize hP : allPl r h = P at hws hal hall q
  walk_at "v"
  refine for_list (xs := ws) (fun i σ H4 => ∃ (y2 y3 : Option V), σ = [some x, some (.str (tx h)), y2, y3] ∧ H4 = H3 ∧ i = 0) ⟨none, none, rfl, rfl, rfl⟩ (fun i σ H4 _ z => by obtain ⟨_, _, _, rfl, _⟩ := z; exact sqL_at hp) ?_ ?_
  · rintro i v σ H4 hv ⟨y2, y3, rfl, rfl, rfl⟩
    obtain ⟨ps, a, hps, rfl, ha⟩ := hws.get hv
    have hpsm := hall ps (List.mem_of_getElem? hps)
    have hhead : P.head? = some ps := by
      cases P with
      | nil => cases hps
      | cons a b => exact hps
    rw [hhead] at q
    walk_at "v"
    intro D nD
    refine lc_same (walk_list (K := K) (a := a) (xs := vT ps)) nD [some x, some (.str (tx h)), some (.ref a), none] (by rfl) (fun j => vS ((ps.take j).map (·.headD 0))) rfl (fun H5 s5 => sqL_at (s5 _ _ ha)) (fun j v H5 H5' hj z yy => ?_) (fun H5 s5 hD => ?_)
    · obtain ⟨rfl, hv2⟩ := yy
      obtain ⟨g, hg, rfl⟩ := vT_get hv2
      have hgm := hpsm.2 g (List.mem_of_getElem? hg)
      have hgl := hgm.2.1
      walk_at "v"
      refine ⟨rfl, ?_⟩
      walk_at "v"
      refine w_headW hgm.1 (by omega) ?_
      refine lc_put nD z (Same.refl _) (szLt _ (by rw [List.length_map, List.length_map, List.length_take]; have := hpsm.1; omega)) ?_
      rw [List.take_add_one, hg, List.map_append]
      unfold vS
      rw [List.map_append]
      rfl
    · rw [show (vT ps).length = ps.length from List.length_map _, List.take_length] at hD
      walk_at "v"
      have e : vS (ps.map (·.headD 0)) = ((ps.map (·.headD 0)).map sg).map V.str := by rw [List.map_map]; rfl
      refine w_joinQ ((ps.map (·.headD 0)).map sg) (sqL_at (by rw [hD, e])) (by rw [sum_ones, show (Str.ofString "").length = 0 by decide +kernel, Nat.mul_zero, List.length_map]; have := hpsm.1; omega) ?_
      rw [join_strs, flat_sg]
      exact q H5 (s13.trans s5)
  · rintro σ H4 ⟨y2, y3, rfl, rfl, h0⟩
    have hw0 : P = [] := by
      have h1 := hws.len
      exact List.length_eq_zero_iff.mp (by omega)
    rw [hw0] at q
    walk_at "v"
    exact q H4 s13
end
end HH

namespace HH
open PySem PySem.Spec L2
local macro_rules | `(tactic| walk_at "cy") => `(tactic| first
  | assumption
  | exact L2.upd_same
  | exact L2.sqL_new
  | exact L2.sqT_new
  | exact L2.sqL_at (by assumption)
  | exact L2.sqT_at (by assumption)
  | (refine' L2.Same.seq (by assumption) ?k0; (case k0 => walk_at "cy"))
  | (refine' L2.Same.sqT (by assumption) ?k0; (case k0 => walk_at "cy"))
  | (refine' L2.Same.dat (by assumption) ?k0; (case k0 => walk_at "cy"))
  | (refine' (by assumption : L2.Same _ _) _ _ ?k0; (case k0 => walk_at "cy"))
  | (refine' L2.Same.seq (L2.same_new (by assumption)) ?k0; (case k0 => walk_at "cy"))
  | (refine' L2.Same.sqT (L2.same_new (by assumption)) ?k0; (case k0 => walk_at "cy"))
  | (refine' L2.Same.dat (L2.same_new (by assumption)) ?k0; (case k0 => walk_at "cy"))
  | (refine' L2.same_new (by assumption) _ _ ?k0; (case k0 => walk_at "cy"))
  | (refine' L2.Mv.sqT (by assumption) ?k0; (case k0 => walk_at "cy")))
local macro_rules | `(tactic| walk_at "w") => `(tactic| repeat (first
  | refine HH.stp ?_
  | with_reducible refine L2.iteT ?_
  | with_reducible refine L2.iteF ?_
  | ((with_reducible refine' HH.w_gtup ?k1 ?k2 ?_); (case k1 => walk_at "cy"); (case k2 => exact rfl))
  | ((with_reducible refine' HH.w_ixT ?k1 ?k2 ?_); (case k1 => walk_at "cy"); (case k2 => exact rfl))
  | ((with_reducible refine' HH.w_ixL ?k1 ?k2 ?_); (case k1 => walk_at "cy"); (case k2 => exact rfl))
  | ((with_reducible refine' HH.w_lenL ?k1 ?_); (case k1 => walk_at "cy"))
  | ((with_reducible refine' HH.w_lenT ?k1 ?_); (case k1 => walk_at "cy"))
  | ((with_reducible refine' HH.w_exT ?k1 ?_); (case k1 => walk_at "cy"))
  | ((with_reducible refine' HH.w_exL ?k1 ?_); (case k1 => walk_at "cy"))
  | ((with_reducible refine' HH.w_tyL ?k1 ?_); (case k1 => walk_at "cy"))
  | ((with_reducible refine' HH.w_setL ?k1 ?k2 ?_); (case k1 => walk_at "cy"); (case k2 => exact rfl))
  | ((with_reducible refine' HH.w_modI ?k1 ?_); (case k1 => first | (with_reducible assumption) | omega))
  | ((with_reducible refine' HH.w_divI ?k1 ?_); (case k1 => (constructor <;> omega)))))
local macro_rules | `(tactic| walk_at "v") => `(tactic| ((repeat ((fail_if_success (with_reducible refine HH.isIf ?_)); first
  | refine HH.stp ?_
  | with_reducible refine L2.iteT ?_
  | with_reducible refine L2.iteF ?_
  | ((with_reducible refine' HH.w_gtup ?k1 ?k2 ?_); (case k1 => walk_at "cy"); (case k2 => exact rfl))
  | ((with_reducible refine' HH.w_ixT ?k1 ?k2 ?_); (case k1 => walk_at "cy"); (case k2 => exact rfl))
  | ((with_reducible refine' HH.w_ixL ?k1 ?k2 ?_); (case k1 => walk_at "cy"); (case k2 => exact rfl))
  | ((with_reducible refine' HH.w_lenL ?k1 ?_); (case k1 => walk_at "cy"))
  | ((with_reducible refine' HH.w_lenT ?k1 ?_); (case k1 => walk_at "cy"))
  | ((with_reducible refine' HH.w_exT ?k1 ?_); (case k1 => walk_at "cy"))
  | ((with_reducible refine' HH.w_exL ?k1 ?_); (case k1 => walk_at "cy"))
  | ((with_reducible refine' HH.w_tyL ?k1 ?_); (case k1 => walk_at "cy"))
  | ((with_reducible refine' HH.w_setL ?k1 ?k2 ?_); (case k1 => walk_at "cy"); (case k2 => exact rfl))
  | ((with_reducible refine' HH.w_modI ?k1 ?_); (case k1 => first | (with_reducible assumption) | omega))
  | ((with_reducible refine' HH.w_divI ?k1 ?_); (case k1 => (constructor <;> omega)))))); (try (with_reducible refine HH.isIf ?_)))
section
variable (K : PySem.W.Frag)
/-- all counters, in the order in which they are tried -/
def ctrsOf (tw : Bool) (e n : Nat) : Row := (List.range n).map fun c => .ctr tw e c
def ctrsTo (tw : Bool) (n : Nat) : Row := ((List.range n).map fun j => ctrsOf tw (2 + j) (2 + j)).flatten
def allC : Row := ctrsTo false 5 ++ ctrsTo true 5
theorem ctrsOf_succ (tw : Bool) (e n : Nat) : ctrsOf tw e (n + 1) = ctrsOf tw e n ++ [.ctr tw e n] := by
  unfold ctrsOf
  rw [List.range_succ, List.map_append]
  rfl
theorem ctrsTo_succ (tw : Bool) (n : Nat) : ctrsTo tw (n + 1) = ctrsTo tw n ++ ctrsOf tw (2 + n) (2 + n) := by
  unfold ctrsTo
  rw [List.range_succ, List.map_append, List.flatten_append]
  simp
def isPairD : PyData → Bool
  | .tuple [d, e] => isWordD d && isWordD e
  | _ => false
def pairD (p : List Nat × List Nat) : PyData := .tuple [.str (tx p.1), .str (tx p.2)]
def pairsD (ps : List (List Nat × List Nat)) : PyData := .tuple (ps.map pairD)
noncomputable def canBe (r : Row) (i : Nat) (ps : List (List Nat × List Nat)) (f : Folk) : Bool := ps.all fun p => bD (comes ((r.take i ++ [f]) ++ r.drop (i + 1)) p.1 = p.2)
noncomputable def whoCan (r : Row) (i : Nat) (ps : List (List Nat × List Nat)) : Row := allC.filter (canBe r i ps)
def sp_all_counters : Sp := fun vs H Q _ => vs = [] ∧ ∀ (p : Addr) (xs : List V) H', Same H H' → H p = none → H' p = some (.lst xs) → DpAll K H' xs (allC.map folkD) → Q (.ref p) H'
def sp_is_pair : Sp := fun vs H Q _ => ∃ (x : V) (d : PyData), vs = [x] ∧ Dp K H x d ∧ fitD d = true ∧ ∀ H', Same H H' → Q (.bl (isPairD d)) H'
def sp_who_can : Sp := fun vs H Q _ => ∃ (x pv : V) (r : Row) (i : Nat) (ps : List (List Nat × List Nat)), vs = [x, .int (i : Nat), pv] ∧ Dp K H x (rowD r) ∧ Row.Ok r ∧ i < r.length ∧ Dp K H pv (pairsD ps) ∧ 1 ≤ ps.length ∧ ps.length ≤ 10 ∧ (∀ p ∈ ps, WordOk p.1 ∧ WordOk p.2) ∧
  ∀ (p : Addr) (xs : List V) H', Same H H' → H p = none → H' p = some (.lst xs) → DpAll K H' xs ((whoCan r i ps).map folkD) → Q (.ref p) H'
theorem len_all_counters : ∀ vs H Q E, sp_all_counters K vs H Q E → vs.length = 0 := by rintro _ _ _ _ ⟨rfl, _⟩; rfl
theorem len_is_pair : ∀ vs H Q E, sp_is_pair K vs H Q E → vs.length = 1 := by rintro _ _ _ _ ⟨_, _, rfl, _⟩; rfl
theorem len_who_can : ∀ vs H Q E, sp_who_can K vs H Q E → vs.length = 3 := by rintro _ _ _ _ ⟨_, _, _, _, _, rfl, _⟩; rfl
end
def t_all_counters (K : PySem.W.Frag) : TS :=
  (tSeq (tAsg (tLst tNil) (gName 0))
  (tSeq (tFor (iTup K (tTup (tCons (tC (.str "drop")) (tCons (tC (.str "twice")) tNil)))) (gName 1)
  (tFor (iRng2 (tCons (tC (.int 2)) (tCons (tC (.int 7)) tNil))) (gName 2)
  (tAsg (tOp rCat (tVar 0) (tLc (iRng1 (tCons (tVar 2) tNil)) (gName 3) tYes (tTup (tCons (tVar 1) (tCons (tVar 2) (tCons (tVar 3) tNil)))) [3])) (gName 0))))
  (tRet (tVar 0))))

def t_is_pair (K : PySem.W.Frag) : TS :=
  (tRet (tAndV (tCB (rIsi K) (tCons (tVar 0) (tCons (tC (.ty "tuple")) tNil))) (tAndV (tOp rEq (tCB (rLenQ K) (tCons (tVar 0) tNil)) (tC (.int 2))) (tAndV (tCall (sp_is_word K) [] E0 (tCons (tOp (rIxT K) (tVar 0) (tC (.int 0))) tNil)) (tCall (sp_is_word K) [] E0 (tCons (tOp (rIxT K) (tVar 0) (tC (.int 1))) tNil))))))

def t_who_can (K : PySem.W.Frag) : TS :=
  (tSeq (tDrop (tCall (sp_need_row K) [] E0 (tCons (tVar 0) tNil)))
  (tSeq (tIfS (tNot (tB (tCall (sp_is_within K) [] E0 (tCons (tVar 1) (tCons (tC (.int 0)) (tCons (tOp rSubI (tCB (rLenQ K) (tCons (tVar 0) tNil)) (tC (.int 1))) tNil)))))) tNever tNext)
  (tSeq (tIfS (tOr (tNot (tB (tCB (rIsi K) (tCons (tVar 2) (tCons (tC (.ty "tuple")) tNil))))) (tOr (tNot (tTest (tChain rLeI rLeI (tC (.int 1)) (tCB (rLenQ K) (tCons (tVar 2) tNil)) (tC (.int 10))))) (tNot (tB (tCB (rAll K) (tCons (tLc (iTup K (tVar 2)) (gName 6) tYes (tCall (sp_is_pair K) [] E0 (tCons (tVar 6) tNil)) [6]) tNil)))))) tNever tNext)
  (tSeq (tAsg (tLst tNil) (gName 3))
  (tSeq (tFor (iList K (tCall (sp_all_counters K) [] E0 tNil)) (gName 4)
  (tSeq (tAsg (tOp (rCatA K) (tOp (rCatA K) (tSl (rSlA K) (tVar 0) tNoPart (tPart (tVar 1))) (tTup (tCons (tVar 4) tNil))) (tSl (rSlA K) (tVar 0) (tPart (tOp rAddI (tVar 1) (tC (.int 1)))) tNoPart)) (gName 5))
  (tIfS (tB (tCB (rAll K) (tCons (tLc (iTup K (tVar 2)) (gTup K 2 (gCons (gName 7) (gCons (gName 8) gNil))) tYes (tOp rEq (tCall (sp_comes_out K) [] E0 (tCons (tVar 5) (tCons (tVar 7) tNil))) (tVar 8)) [7, 8]) tNil))) (tDrop (tBM K "list" rAppend (tVar 3) (tCons (tVar 4) tNil))) tNext)))
  (tRet (tVar 3)))))))

local macro_rules | `(tactic| walk_at "is") => `(tactic| first
  | ((with_reducible refine' HH.w_is_int ?k1 ?_); (case k1 => walk_at "cy"))
  | ((with_reducible refine' HH.w_is_bool ?k1 ?_); (case k1 => walk_at "cy"))
  | ((with_reducible refine' HH.w_is_str ?k1 ?_); (case k1 => walk_at "cy"))
  | ((with_reducible refine' HH.w_is_tuple ?k1 ?_); (case k1 => walk_at "cy"))
  | ((with_reducible refine' HH.w_is_list ?k1 ?_); (case k1 => walk_at "cy")))
section
variable (K : PySem.W.Frag)
theorem ctrs_len : ∀ tw : Bool, ∀ j, j < 6 → (ctrsTo tw j).length ≤ 20 := by decide
theorem sem_all_counters : ∀ vs H Q E, sp_all_counters K vs H Q E → t_all_counters K { nx := fun _ H' => Q .non H', rt := Q } (start ["found", "kind", "every", "counted"] vs) H := by
  rintro vs H Q E ⟨rfl, q⟩
  show t_all_counters K _ [none, none, none, none] H
  unfold t_all_counters
  walk_at "v"
  refine ⟨szOk 0, fun f0 n0 => ?_⟩
  walk_at "v"
  refine ⟨szOk 2, fun t nt => ?_⟩
  walk_at "v"
  have s0 := (same_new (o := .lst []) n0).trans (same_new (o := .tup [.str "drop", .str "twice"]) nt)
  have hf0 := (same_new (o := .tup [.str "drop", .str "twice"]) nt) _ _ (upd_same (H := H) (a := f0) (o := .lst []))
  have ht0 : (upd (upd H f0 (.lst [])) t (.tup [.str "drop", .str "twice"])) t = some (.tup [.str "drop", .str "twice"]) := upd_same
  generalize upd (upd H f0 (.lst [])) t (.tup [.str "drop", .str "twice"]) = H0 at s0 hf0 ht0
  refine for_tup (xs := [.str "drop", .str "twice"]) (fun i σ H1 => ∃ (f : Addr) (xs : List V) (y1 y2 : Option V), σ = [some (.ref f), y1, y2, none] ∧ Same H0 H1 ∧ H f = none ∧ H1 f = some (.lst xs) ∧ DpAll K H1 xs (((if i = 0 then [] else if i = 1 then ctrsTo false 5 else allC) : Row).map folkD)) ⟨f0, [], none, none, rfl, Same.refl _, n0, hf0, .nil⟩ (fun i σ H1 _ z => by obtain ⟨_, _, _, _, _, s, _⟩ := z; exact s.sqT (sqT_at ht0)) ?_ ?_
  · rintro i v σ H1 hv ⟨f, xs, y1, y2, rfl, s1, nf, hf, hx⟩
    obtain ⟨tw, rfl, hi2, hacc, hnext⟩ : ∃ tw, v = .str (kindOf tw) ∧ i < 2 ∧ ((if i = 0 then [] else if i = 1 then ctrsTo false 5 else allC) : Row).length ≤ 20 ∧ ((if i + 1 = 0 then [] else if i + 1 = 1 then ctrsTo false 5 else allC) : Row) = ((if i = 0 then [] else if i = 1 then ctrsTo false 5 else allC) : Row) ++ ctrsTo tw 5 := by
      match i, hv with
      | 0, h => cases h; exact ⟨false, rfl, by decide, by decide, rfl⟩
      | 1, h => cases h; exact ⟨true, rfl, by decide, by decide, rfl⟩
      | i + 2, h => cases h
    generalize ((if i = 0 then [] else if i = 1 then ctrsTo false 5 else allC) : Row) = acc at hx hacc hnext
    rw [hnext]
    walk_at "v"
    refine ⟨2, 7, rfl, ⟨by decide, by decide, by decide, by decide⟩, ?_⟩
    refine for_range (lo := 2) (n := ((7 : Int) - 2).toNat) (fun j σ H2 => ∃ (f : Addr) (xs : List V) (y2 : Option V), σ = [some (.ref f), some (.str (kindOf tw)), y2, none] ∧ Same H0 H2 ∧ H f = none ∧ H2 f = some (.lst xs) ∧ DpAll K H2 xs ((acc ++ ctrsTo tw j).map folkD)) ?_ ?_ ?_
    · exact ⟨f, xs, y2, rfl, s1, nf, hf, by rw [show ctrsTo tw 0 = [] from rfl, List.append_nil]; exact hx⟩
    · rintro j σ H2 hj ⟨f, xs, y2, rfl, s2, nf, hf, hx⟩
      have hj5 : j < 5 := hj
      have hxl : xs.length ≤ 40 := by
        have h1 := hx.len
        rw [List.length_map, List.length_append] at h1
        have := ctrs_len tw j (by omega)
        omega
      walk_at "v"
      refine ⟨_, rfl, by omega, by omega, fun D nD => ?_⟩
      have neD : f ≠ D := ne_of_none hf nD
      refine lc_it walk_range (fun k H3 => ∃ ys : List V, Same H2 H3 ∧ H3 D = some (.lst ys) ∧ DpAll K H3 ys ((ctrsOf tw (2 + j) k).map folkD)) ⟨[], same_new nD, upd_same, .nil⟩ (fun _ _ _ _ => trivial) ?_ ?_
      · rintro k x H3 H3' hk ⟨ys, s3, hD, hys⟩ ⟨rfl, rfl⟩
        show gName 3 (.int (0 + (k : Nat))) [some (.ref f), some (.str (kindOf tw)), some (.int (2 + (j : Int))), none] _ _
        rw [show (0 : Int) + (k : Nat) = (k : Nat) by omega]
        walk_at "v"
        refine ⟨rfl, ?_⟩
        walk_at "v"
        refine ⟨szOk 3, fun p np => ?_⟩
        have hk6 : k < 2 + j := by omega
        have hyl : ys.length ≤ 10 := by
          have h1 := hys.len
          unfold ctrsOf at h1
          rw [List.length_map, List.length_map, List.length_range] at h1
          omega
        have hD4 := (same_new (o := .tup [.str (kindOf tw), .int (2 + (j : Int)), .int (k : Nat)]) np) _ _ hD
        have hys4 := (same_new (o := .tup [.str (kindOf tw), .int (2 + (j : Int)), .int (k : Nat)]) np).dpAll _ _ hys
        have hnew : Dp K (upd H3' p (.tup [.str (kindOf tw), .int (2 + (j : Int)), .int (k : Nat)])) (.ref p) (folkD (.ctr tw (2 + j) k)) := folk_of (f := .ctr tw (2 + j) k) sqT_new
        have s4 := s3.trans (same_new (o := .tup [.str (kindOf tw), .int (2 + (j : Int)), .int (k : Nat)]) np)
        generalize upd H3' p (.tup [.str (kindOf tw), .int (2 + (j : Int)), .int (k : Nat)]) = H4 at hD4 hys4 hnew s4
        have mvo : Mv D H4 (upd H4 D (.lst (ys ++ [.ref p]))) := mv_set hD4
        refine ⟨ys, hD4, szLt _ (by omega), ys ++ [.ref p], same_mut s4 nD, upd_same, ?_⟩
        rw [ctrsOf_succ, List.map_append]
        exact (mvo.tp.dpAll _ _ (noLs_folks _) hys4).app (.cons (mvo.tp.dp _ _ (noL_folk _) hnew) .nil)
      · rintro H3 ⟨ys, s3, hD, hys⟩
        rw [show (2 + (j : Int)).toNat = 2 + j by omega] at hys
        have hyl : ys.length ≤ 10 := by
          have h1 := hys.len
          unfold ctrsOf at h1
          rw [List.length_map, List.length_map, List.length_range] at h1
          omega
        have hf3 := s3 _ _ hf
        have hx3 := s3.dpAll _ _ hx
        walk_at "v"
        refine w_cat hf3 hD (szOk _ (by omega)) fun p np => ?_
        walk_at "v"
        refine ⟨p, xs ++ ys, _, rfl, (s2.trans s3).trans (same_new np), (s0.trans (s2.trans s3)).free np, upd_same, ?_⟩
        rw [ctrsTo_succ, ← List.append_assoc, List.map_append]
        exact ((same_new np).dpAll _ _ hx3).app ((same_new np).dpAll _ _ hys)
    · rintro σ H2 ⟨f, xs, y2, rfl, s2, nf, hf, hx⟩
      exact ⟨f, xs, _, _, rfl, s2, nf, hf, hx⟩
  · rintro σ H1 ⟨f, xs, y1, y2, rfl, s1, nf, hf, hx⟩
    walk_at "v"
    exact q f xs H1 (s0.trans s1) nf hf hx
theorem dAll_2 {H : Hp} {vs : List V} {d1 d2 : PyData} (h : DpAll K H vs [d1, d2]) : ∃ x y, vs = [x, y] ∧ Dp K H x d1 ∧ Dp K H y d2 := by
  cases h with
  | cons h1 t => cases t with
    | cons h2 t => cases t; exact ⟨_, _, rfl, h1, h2⟩
theorem sem_is_pair : ∀ vs H Q E, sp_is_pair K vs H Q E → t_is_pair K { nx := fun _ H' => Q .non H', rt := Q } (start ["thing"] vs) H := by
  rintro vs H Q E ⟨x, d, rfl, hd, hf, q⟩
  show t_is_pair K _ [some x] H
  unfold t_is_pair
  walk_at "w"; walk_at "is"; walk_at "w"
  cases d with
  | tuple ds =>
    refine iteT ?_
    obtain ⟨a, xs, rfl, hs, ha⟩ := dp_tup hd
    walk_at "w"
    refine w_ifB (fun e => ?_) (fun e => ?_)
    · have e' : ds.length = 2 := by
        rw [ha.len] at e
        have := bT e
        omega
      match ds, e' with
      | [d1, d2], _ =>
        obtain ⟨x1, x2, rfl, h1, h2⟩ := dAll_2 K ha
        have hf' : (fitD d1 && (fitD d2 && true)) = true := hf
        simp only [Bool.and_eq_true] at hf'
        obtain ⟨f1, f2, _⟩ := hf'
        rw [show isPairD (.tuple [d1, d2]) = (isWordD d1 && isWordD d2) from rfl] at q
        walk_at "w"
        refine ⟨x1, d1, rfl, h1, f1, fun H1 s1 => ?_⟩
        walk_at "w"
        refine w_ifB (fun e => ?_) (fun e => ?_)
        · rw [e] at q
          walk_at "w"
          exact ⟨x2, d2, rfl, s1.dat h2, f2, fun H2 s2 => q H2 (s1.trans s2)⟩
        · rw [e] at q
          exact q H1 s1
    · have e' : ¬ ds.length = 2 := fun h => (bF e) (by rw [ha.len, h]; rfl)
      have : isPairD (.tuple ds) = false := by
        unfold isPairD
        split
        · rename_i h; cases h; exact absurd rfl e'
        · rfl
      rw [this] at q
      exact q H (Same.refl H)
  | _ => exact iteF (q H (Same.refl H))
end
section
variable (K : PySem.W.Frag)
theorem allC_ok : ∀ f ∈ allC, f.ok = true := by decide +kernel
theorem noLs_pairs : ∀ ps : List (List Nat × List Nat), noLs (ps.map pairD) = true
  | [] => rfl
  | p :: ps => by
    show (noL (pairD p) && noLs (ps.map pairD)) = true
    rw [noLs_pairs ps]
    rfl
theorem splice_row {r mid : Row} {i : Nat} (h : ∀ f ∈ r, f.ok = true) (hm : ∀ f ∈ mid, f.ok = true) : ∀ f ∈ (r.take i ++ mid) ++ r.drop (i + 1), f.ok = true := fun f hf => by
  rcases List.mem_append.mp hf with hf | hf
  · rcases List.mem_append.mp hf with hf | hf
    · exact h f (List.mem_of_mem_take hf)
    · exact hm f hf
  · exact h f (List.mem_of_mem_drop hf)
theorem pair_get {H : Hp} {xs : List V} {ps : List (List Nat × List Nat)} {i : Nat} {x : V} (ha : DpAll K H xs (ps.map pairD)) (hx : xs[i]? = some x) : ∃ p, ps[i]? = some p ∧ Dp K H x (pairD p) := by
  obtain ⟨d, hd', dd⟩ := ha.get hx
  rw [List.getElem?_map] at hd'
  cases e : ps[i]? with
  | none => rw [e] at hd'; cases hd'
  | some p => rw [e] at hd'; cases hd'; exact ⟨p, rfl, dd⟩
theorem pair_inv {H : Hp} {x : V} {p : List Nat × List Nat} (h : Dp K H x (pairD p)) : ∃ a, x = .ref a ∧ SqT K H a [.str (tx p.1), .str (tx p.2)] := by
  obtain ⟨a, xs, rfl, hs, ha⟩ := dp_tup h
  obtain ⟨x1, x2, rfl, h1, h2⟩ := dAll_2 K ha
  cases h1
  cases h2
  exact ⟨a, rfl, hs⟩
theorem fit_pair {p : List Nat × List Nat} (h : WordOk p.1 ∧ WordOk p.2) : fitD (pairD p) = true := by
  have h1 := h.1.1
  have h2 := h.2.1
  show (decide ((tx p.1).length ≤ 10000) && (decide ((tx p.2).length ≤ 10000) && true)) = true
  rw [decide_eq_true (show (tx p.1).length ≤ 10000 by rw [tx_len]; omega), decide_eq_true (show (tx p.2).length ≤ 10000 by rw [tx_len]; omega)]
  rfl
theorem isPair_of {p : List Nat × List Nat} (h : WordOk p.1 ∧ WordOk p.2) : isPairD (pairD p) = true := by
  show (isWordD (.str (tx p.1)) && isWordD (.str (tx p.2))) = true
  rw [isWord_of h.1, isWord_of h.2]
  rfl
theorem sem_who_can : ∀ vs H Q E, sp_who_can K vs H Q E → t_who_can K { nx := fun _ H' => Q .non H', rt := Q } (start ["row", "place", "pairs", "found", "one", "other", "pair", "said", "heard"] vs) H := by
  rintro vs H Q E ⟨x, pv, r, i, ps, rfl, hd, hR, hi, hpv, hp1, hp10, hps, q⟩
  show t_who_can K _ [some x, some (.int (i : Nat)), some pv, none, none, none, none, none, none] H
  unfold t_who_can
  have hro := rok_of hR
  have hl := hR.1
  walk_at "v"
  refine ⟨x, rowD r, rfl, hd, fit_row r, isRow_of hR, fun H1 s1 => ?_⟩
  have hd1 := s1.dat hd
  have hpv1 := s1.dat hpv
  walk_at "v"
  refine w_ifS ?_
  walk_at "v"
  refine w_lenR hd1 ?_
  walk_at "v"
  refine ⟨_, 0, (r.length : Int) - 1, .int (i : Nat), rfl, .int _, ?_⟩
  rw [show isWithinD (PyData.int (i : Nat)) 0 ((r.length : Int) - 1) = true from by
    show (decide ((0 : Int) ≤ (i : Nat)) && decide (((i : Nat) : Int) ≤ (r.length : Int) - 1)) = true
    rw [decide_eq_true (by omega), decide_eq_true (by omega)]
    rfl]
  walk_at "v"
  refine iteF ?_
  obtain ⟨pa, xs, rfl, hpx, hpa⟩ := dp_tup hpv1
  have hxl : xs.length = ps.length := by rw [hpa.len, List.length_map]
  walk_at "v"
  refine w_ifNo (Same H1) (fun QT k => ?_) (fun H2 s2 => ?_)
  · walk_at "w"; walk_at "is"; walk_at "w"
    refine iteF ?_
    walk_at "w"
    refine w_dT (by omega) ?_
    walk_at "w"
    rw [bD_t (by omega : ((xs.length : Nat) : Int) ≤ 10)]
    walk_at "w"
    refine iteF ?_
    walk_at "w"
    intro D nD
    refine lc_same (walk_tup (K := K) (a := pa) (xs := xs)) nD [some x, some (.int (i : Nat)), some (.ref pa), none, none, none, none, none, none] rfl (fun k => (List.replicate k true).map V.bl) rfl (fun H3 s => s.sqT hpx) (fun k v H3 H3' hk z yy => ?_) (fun H3 s3 hD => ?_)
    · obtain ⟨rfl, hv⟩ := yy
      obtain ⟨p, hp, dd⟩ := pair_get K hpa hv
      have hpo := hps p (List.mem_of_getElem? hp)
      walk_at "w"
      refine ⟨rfl, ?_⟩
      walk_at "w"
      refine ⟨v, pairD p, rfl, z.1.dat dd, fit_pair hpo, fun H4 s4 => ?_⟩
      rw [isPair_of hpo]
      refine lc_put nD z s4 (szLt _ (by rw [List.length_map, List.length_replicate]; omega)) ?_
      rw [List.replicate_succ', List.map_append]
      rfl
    · walk_at "w"
      refine w_all (List.replicate xs.length true) (sqL_at hD) ?_
      walk_at "w"
      rw [show (List.replicate xs.length true).all id = true from by rw [List.all_eq_true]; intro b hb; exact (List.mem_replicate.mp hb).2]
      exact k _ s3
  have s12 := s1.trans s2
  have hd2 := s2.dat hd1
  have hpx2 := s2.sqT hpx
  have hpa2 := s2.dpAll _ _ hpa
  walk_at "v"
  refine ⟨szOk 0, fun fo nfo => ?_⟩
  walk_at "v"
  have s3 := s12.trans (same_new (o := .lst []) nfo)
  have nfoH := s12.free nfo
  refine ⟨rfl, fun cl cs H4 s4 ncl hcl hcs => ?_⟩
  have s04 := s3.trans s4
  have hfo4 : H4 fo = some (.lst []) := s4 _ _ upd_same
  have necf : cl ≠ fo := fun e => by rw [e, upd_same] at ncl; cases ncl
  have hd4 := s4.dat ((same_new (o := .lst []) nfo).dat hd2)
  have hpx4 := s4.sqT ((same_new (o := .lst []) nfo).sqT hpx2)
  have hpa4 := s4.dpAll _ _ ((same_new (o := .lst []) nfo).dpAll _ _ hpa2)
  have hcsl : cs.length = 40 := by rw [hcs.len, List.length_map]; decide
  walk_at "v"
  refine for_list (xs := cs) (fun j σ H5 => ∃ (y4 y5 : Option V) (fs : List V), σ = [some x, some (.int (i : Nat)), some (.ref pa), some (.ref fo), y4, y5, none, none, none] ∧ Same H H5 ∧ Tp K H4 H5 ∧ H5 cl = some (.lst cs) ∧ H5 fo = some (.lst fs) ∧ DpAll K H5 fs (((allC.take j).filter (canBe r i ps)).map folkD)) ?_ ?_ ?_ ?_
  · exact ⟨none, none, [], rfl, s04, Tp.refl, hcl, hfo4, .nil⟩
  · rintro j σ H5 hj ⟨y4, y5, fs, rfl, s5, t5, h5, _⟩
    exact sqL_at h5
  · rintro j v σ H5 hv ⟨y4, y5, fs, rfl, s5, t5, hcl5, hfo5, hfs5⟩
    obtain ⟨f, hf, dd⟩ := row_get K hcs hv
    have hfok := allC_ok f (List.mem_of_getElem? hf)
    have dd5 := t5.dp _ _ (noL_folk f) dd
    have hd5 := t5.dp _ _ (noL_row r) hd4
    walk_at "v"
    refine w_slR_to hd5 fun v1 H6 s6 hv1 => ?_
    walk_at "v"
    refine ⟨szOk 1, fun p1 n1 => ?_⟩
    have hlt : (r.take i).length = i := by rw [List.length_take]; omega
    refine w_catR (r2 := [f]) ((same_new n1).dat hv1) (.tup sqT_new (.cons ((same_new n1).dat (s6.dat dd5)) .nil)) (by rw [hlt]; show i + 1 ≤ 10000; omega) fun v2 H7 s7 hv2 => ?_
    walk_at "v"
    have s67 := (s6.trans (same_new (o := .tup [v]) n1)).trans s7
    refine w_slR_from (k := i + 1) (s67.dat hd5) fun v3 H8 s8 hv3 => ?_
    refine w_catR (s8.dat hv2) hv3 (by rw [List.length_append, hlt, List.length_drop]; show i + 1 + _ ≤ 10000; omega) fun v4 H9 s9 hv4 => ?_
    have s59 := (s67.trans s8).trans s9
    have hlen : ((r.take i ++ [f]) ++ r.drop (i + 1)).length ≤ 4 := by
      rw [List.length_append, List.length_append, hlt, List.length_drop]
      show i + 1 + _ ≤ 4
      omega
    have hok9 := splice_row (r := r) (mid := [f]) (i := i) hR.2 fun g hg => by rw [List.mem_singleton.mp hg]; exact hfok
    have hcan : canBe r i ps f = ps.all fun p => bD (comes ((r.take i ++ [f]) ++ r.drop (i + 1)) p.1 = p.2) := rfl
    generalize (r.take i ++ [f]) ++ r.drop (i + 1) = o at hv4 hlen hok9 hcan
    have hoo : rok o := fun g hg => fok_of (hok9 g hg)
    have hpx9 := s59.sqT (t5 _ _ hpx4)
    have hpa9 := s59.dpAll _ _ (t5.dpAll _ _ (noLs_pairs ps) hpa4)
    walk_at "v"
    refine w_ifS ?_
    walk_at "v"
    intro D nD
    refine lc_same (walk_tup (K := K) (a := pa) (xs := xs)) nD [some x, some (.int (i : Nat)), some (.ref pa), some (.ref fo), some v, some v4, none, none, none] rfl (fun k => ((ps.take k).map fun p => bD (comes o p.1 = p.2)).map V.bl) rfl (fun H3 s => s.sqT hpx9) (fun k v H3 H3' hk z yy => ?_) (fun H3 s3 hD => ?_)
    · obtain ⟨rfl, hv'⟩ := yy
      obtain ⟨p, hp, dp⟩ := pair_get K hpa9 hv'
      have hpo := hps p (List.mem_of_getElem? hp)
      have hpl := hpo.1.1
      obtain ⟨pt, rfl, hpt⟩ := pair_inv K (z.1.dat dp)
      walk_at "v"
      refine ⟨rfl, ?_⟩
      walk_at "v"
      refine ⟨v4, o, p.1, rfl, z.1.dat hv4, hoo, by omega, by omega, fun H4' s4' => ?_⟩
      walk_at "v"
      rw [bD_congr (⟨tx_inj, congrArg tx⟩ : tx (comes o p.1) = tx p.2 ↔ comes o p.1 = p.2)]
      refine lc_put nD z s4' (szLt _ (by rw [List.length_map, List.length_map, List.length_take]; omega)) ?_
      rw [List.take_add_one, hp, List.map_append, List.map_append]
      rfl
    · rw [hxl, List.take_length] at hD
      walk_at "v"
      refine w_all (ps.map fun p => bD (comes o p.1 = p.2)) (sqL_at hD) ?_
      rw [show (ps.map fun p => bD (comes o p.1 = p.2)).all id = canBe r i ps f from by rw [List.all_map, hcan]; rfl]
      have sx := s5.trans (s59.trans s3)
      have tx' := t5.trans (s59.trans s3).tp
      have hcl3 := (s59.trans s3) _ _ hcl5
      have hfo3 := (s59.trans s3) _ _ hfo5
      have hfs3 := (s59.trans s3).dpAll _ _ hfs5
      have dd3 := (s59.trans s3).dat dd5
      walk_at "v"
      cases hc : canBe r i ps f with
      | true =>
        refine iteT ?_
        walk_at "v"
        have hfl : fs.length ≤ 40 := by
          have h1 := hfs3.len
          rw [List.length_map] at h1
          have h2 := List.length_filter_le (canBe r i ps) (allC.take j)
          have h3 : (allC.take j).length ≤ allC.length := by rw [List.length_take]; exact Nat.min_le_right _ _
          have h4 : allC.length = 40 := by decide
          omega
        refine w_append hfo3 (szLt _ (by omega)) ?_
        walk_at "v"
        have mvo : Mv fo H3 (upd H3 fo (.lst (fs ++ [v]))) := mv_set hfo3
        refine ⟨_, _, fs ++ [v], rfl, same_mut sx nfoH, tx'.trans mvo.tp, by rw [upd_ne necf]; exact hcl3, upd_same, ?_⟩
        rw [List.take_add_one, hf, List.filter_append, show (some f).toList.filter (canBe r i ps) = [f] from by show [f].filter _ = _; rw [List.filter_cons, if_pos hc]; rfl, List.map_append]
        exact (mvo.tp.dpAll _ _ (noLs_folks _) hfs3).app (.cons (mvo.tp.dp _ _ (noL_folk f) dd3) .nil)
      | false =>
        refine iteF ?_
        walk_at "v"
        refine ⟨_, _, fs, rfl, sx, tx', hcl3, hfo3, ?_⟩
        rw [List.take_add_one, hf, List.filter_append, show (some f).toList.filter (canBe r i ps) = [] from by show [f].filter _ = _; rw [List.filter_cons, if_neg (by rw [hc]; decide)]; rfl, List.append_nil]
        exact hfs3
  · rintro σ H5 ⟨y4, y5, fs, rfl, s5, t5, hcl5, hfo5, hfs5⟩
    rw [List.take_of_length_le (show allC.length ≤ cs.length by rw [hcsl]; decide)] at hfs5
    walk_at "v"
    exact q fo fs H5 s5 nfoH hfo5 hfs5
end
end HH

namespace HH
open PySem PySem.Spec PyProof.Rows L2
/-! ### a list's walk ends, while an exception is handled -/
section
variable {prog : Program} {w : World} {A : Around} {E : Value → Shared → Prop} {s : Shared}
theorem listEnd_hot {it l x1 : Addr} {i : Nat} {items : Array Value} {Q : Option Value → Shared → Prop} (hot : HotX.HotAt A x1 s.heap) (hit : s.heap.IsListIter it l i) (hl : s.heap.IsList l items) (hx : items[i]? = none)
    (hQ : ∀ h', (∀ b o, b ≠ it → s.heap.get? b = some o → h'.get? b = some o) → Q none { s with heap := h' }) : wpAny (model prog w) A (pyNext (.ref it)) Q E s := by
  obtain ⟨oi, gi, ci, di⟩ := id hit
  obtain ⟨ol, gl, _, nl, dl⟩ := hl
  obtain ⟨hh, ox, vx, gx, dx, cx⟩ := hot
  have nx : it ≠ x1 := fun e => by
    rw [e, gx] at gi
    cases gi
    rw [di] at dx
    cases dx
    cases cx
  unfold pyNext
  refine wpAny_bind (wpAny_attempt (wpAny_callSpecial?_slot (name := Str.ofString "__next__") hit.typeIs slot_listiter_next (wpAny_call_entry slot_listiter_next hit.typeIs entry_listiter_next ?_ (args_listiter_next _))))
  change wpAny _ _ (field (.ref it) 0 >>= _) _ _ s
  refine wpAny_bind (wpAny_field gi di (x := .ref l) rfl ?_)
  change wpAny _ _ (if (Value.ref l == Value.none) = true then _ else _) _ _ s
  rw [if_neg (show ¬ ((Value.ref l == Value.none) = true) from fun e => by cases e)]
  change wpAny _ _ (field (.ref it) 1 >>= _) _ _ s
  refine wpAny_bind (wpAny_field gi di (x := .int i 0) rfl ?_)
  change wpAny _ _ (seqItems? (.ref l) >>= _) _ _ s
  refine wpAny_bind (wpAny_seqItems gl dl ?_)
  simp only [Int.toNat_natCast, hx]
  refine wpAny_bind (wpAny_rule (wpAny_bind (wpAny_setField gi di (by simp) ?_)))
  change wpAny _ _ (newExc (.type "StopIteration") [] >>= _) _ _ _
  refine wpAny_bind ?_
  simp only [newExc, newTuple]
  refine wpAny_bind (wpAny_newObj_type ?_ (by size_fits))
  refine wpAny_bind (m := firstArgMember _ _) (wpAny_of_eq (a := Value.none) (by first | rfl | (simp only [firstArgMember]; rfl)) ?_)
  refine wpAny_newObj_type ?_ (by size_fits)
  have k1 : ∀ b o, b ≠ it → s.heap.get? b = some o → (s.heap.update it (Obj.mapFields (·.setIfInBounds 0 Value.none))).get? b = some o := fun b o n e => (Heap.get?_update_other _ _ (Ne.symm n)).trans e
  refine HotX.raiseNew_hot ⟨hh, ox, vx, Heap.get?_push_of_some _ (Heap.get?_push_of_some _ (k1 _ _ (Ne.symm nx) gx)), dx, cx⟩ (Nat.ne_of_lt (Heap.lt_size (Heap.get?_push_of_some _ (k1 _ _ (Ne.symm nx) gx)))) (Heap.get?_push_size _ rfl) rfl (by first | (simp; done) | (simp; omega) | (simp only [Array.size_append]; simp; omega)) ?_
  refine wpAny_bind (wpAny_isInstance (T := "StopIteration") (b := true) ⟨_, Heap.get?_update_self _ (Heap.get?_push_size _ rfl) rfl, rfl⟩ isSubtype_stop ?_)
  refine wpAny_pure (hQ _ fun b o n e => ?_)
  have e1 := Heap.get?_push_of_some { cls := .type "tuple", data := .seq #[] } (k1 b o n e)
  rw [Heap.get?_update_other _ _ (Nat.ne_of_gt (Heap.lt_size e1))]
  exact Heap.get?_push_of_some _ e1
end
/-! ### a tuple unpacked, while an exception is handled -/
section
variable {prog : Program} {w : World} {A : Around} {E : Value → Shared → Prop} {s : Shared}
theorem tupEnd_hot {it t x1 : Addr} {i : Nat} {items : Array Value} {Q : Option Value → Shared → Prop} (hot : HotX.HotAt A x1 s.heap) (hit : IsTupIter s.heap it t i) (ht : IsTup s.heap t items) (hx : items[i]? = none)
    (hQ : ∀ h', (∀ b o, b ≠ it → s.heap.get? b = some o → h'.get? b = some o) → Q none { s with heap := h' }) : wpAny (model prog w) A (pyNext (.ref it)) Q E s := by
  obtain ⟨oi, gi, ci, di⟩ := id hit
  obtain ⟨ol, gl, _, nl, dl⟩ := ht
  obtain ⟨hh, ox, vx, gx, dx, cx⟩ := hot
  have nx : it ≠ x1 := fun e => by
    rw [e, gx] at gi
    cases gi
    rw [di] at dx
    cases dx
    cases cx
  unfold pyNext
  refine wpAny_bind (wpAny_attempt (wpAny_callSpecial?_slot (name := Str.ofString "__next__") hit.typeIs slot_tupleiter_next (wpAny_call_entry slot_tupleiter_next hit.typeIs entry_tupleiter_next ?_ (args_tupleiter_next _))))
  change wpAny _ _ (field (.ref it) 0 >>= _) _ _ s
  refine wpAny_bind (wpAny_field gi di (x := .ref t) rfl ?_)
  change wpAny _ _ (if (Value.ref t == Value.none) = true then _ else _) _ _ s
  rw [if_neg (show ¬ ((Value.ref t == Value.none) = true) from fun e => by cases e)]
  change wpAny _ _ (field (.ref it) 1 >>= _) _ _ s
  refine wpAny_bind (wpAny_field gi di (x := .int i 0) rfl ?_)
  change wpAny _ _ (seqItems? (.ref t) >>= _) _ _ s
  refine wpAny_bind (wpAny_seqItems gl dl ?_)
  simp only [Int.toNat_natCast, hx]
  refine wpAny_bind (wpAny_rule (wpAny_bind (wpAny_setField gi di (by simp) ?_)))
  change wpAny _ _ (newExc (.type "StopIteration") [] >>= _) _ _ _
  refine wpAny_bind ?_
  simp only [newExc, newTuple]
  refine wpAny_bind (wpAny_newObj_type ?_ (by size_fits))
  refine wpAny_bind (m := firstArgMember _ _) (wpAny_of_eq (a := Value.none) (by first | rfl | (simp only [firstArgMember]; rfl)) ?_)
  refine wpAny_newObj_type ?_ (by size_fits)
  have k1 : ∀ b o, b ≠ it → s.heap.get? b = some o → (s.heap.update it (Obj.mapFields (·.setIfInBounds 0 Value.none))).get? b = some o := fun b o n e => (Heap.get?_update_other _ _ (Ne.symm n)).trans e
  refine HotX.raiseNew_hot ⟨hh, ox, vx, Heap.get?_push_of_some _ (Heap.get?_push_of_some _ (k1 _ _ (Ne.symm nx) gx)), dx, cx⟩ (Nat.ne_of_lt (Heap.lt_size (Heap.get?_push_of_some _ (k1 _ _ (Ne.symm nx) gx)))) (Heap.get?_push_size _ rfl) rfl (by first | (simp; done) | (simp; omega) | (simp only [Array.size_append]; simp; omega)) ?_
  refine wpAny_bind (wpAny_isInstance (T := "StopIteration") (b := true) ⟨_, Heap.get?_update_self _ (Heap.get?_push_size _ rfl) rfl, rfl⟩ isSubtype_stop ?_)
  refine wpAny_pure (hQ _ fun b o n e => ?_)
  have e1 := Heap.get?_push_of_some { cls := .type "tuple", data := .seq #[] } (k1 b o n e)
  rw [Heap.get?_update_other _ _ (Nat.ne_of_gt (Heap.lt_size e1))]
  exact Heap.get?_push_of_some _ e1
/-- the items of a tuple, all of them, and no more -/
theorem unpack_hot {t x1 : Addr} {items : Array Value} {Q : List Value → Shared → Prop} (hot : HotX.HotAt A x1 s.heap) (ht : IsTup s.heap t items)
    (hQ : ∀ h', (∀ b o, s.heap.get? b = some o → h'.get? b = some o) → Q items.toList { s with heap := h' }) : wpAny (model prog w) A (unpackItems (.ref t) items.size none) Q E s := by
  obtain ⟨hh, ox, vx, gx, dx, cx⟩ := hot
  have lx : x1 ≠ s.heap.objs.size := Nat.ne_of_lt (Heap.lt_size gx)
  have lt : t ≠ s.heap.objs.size := by
    obtain ⟨o, e, _⟩ := ht
    exact Nat.ne_of_lt (Heap.lt_size e)
  unfold unpackItems notIterableAtAll
  refine wpAny_bind (wpAny_bind (wpAny_specialOf ht.typeIs slot_tuple_iter.lookup (wpAny_pure ?_)))
  rw [if_neg Bool.false_ne_true]
  refine wpAny_bind (wpAny_holding (iter_tuple ht (wpAny_bind (wpAny_holding (draw_tuple lt items.size 0 _ _ ⟨_, Heap.get?_push_size _ rfl, rfl, rfl⟩ (ht.push _) (Nat.le_of_eq (Nat.zero_add _)) fun h1 it1 sb1 => ?_)))))
  have e1 : (items.toList.drop 0).take items.size = items.toList := by
    rw [List.drop_zero, ← Array.length_toList, List.take_length]
  rw [e1, if_neg (by simp)]
  have k1 : ∀ b o, b ≠ s.heap.objs.size → s.heap.get? b = some o → h1.get? b = some o := fun b o n e => (sb1.2 b n).trans (Heap.get?_push_of_some _ e)
  have t1 : IsTup h1 t items := (ht.push _).extBut sb1.extBut lt
  refine wpAny_bind (wpAny_holding (tupEnd_hot ⟨hh, ox, vx, k1 _ _ lx gx, dx, cx⟩ it1 t1 (by simp) fun h2 k2 => ?_))
  rw [if_neg (show ¬ ((none : Option Value).isSome = true) from Bool.false_ne_true)]
  exact wpAny_pure (hQ h2 fun b o e => k2 b o (Nat.ne_of_lt (Heap.lt_size e)) (k1 b o (Nat.ne_of_lt (Heap.lt_size e)) e))
end
section
variable {X : Cx}
/-- (a, b, ..) = a tuple of that length, while an exception is handled -/
theorem pg_tupH {q : Addr × Obj} {es : List Expr} {k : Nat} {pos : Pos} {t : TGs} {n : Nat} (hot : L2H.Hot1 X.A q) (hq : q ∈ X.pn) (h : PGs X es t)
    (hn : (assignEach es X.env).length = n := by rfl) (hst : (assignEach es X.env).findIdx? (·.1) = none := by rfl) : PG X (.Tuple es k pos) (gTup X.K n t) := by
  refine ⟨fun pins s σ H v u Q I r hw => ?_⟩
  obtain ⟨a, xs, rfl, hx, hl, hw⟩ := hw
  cases r
  obtain ⟨its, rv, ht, hz⟩ := I.tuple hx
  obtain ⟨hh, vf, ef, cf⟩ := hot
  have hotAt : HotX.HotAt X.A q.1 s.heap := ⟨hh, q.2, vf, (I.pin q (List.mem_append_left _ hq)).1, ef, cf⟩
  have hsz : (assignEach es X.env).length = its.toArray.size := by rw [hn, ← hl, rv.length, List.size_toArray]
  rw [PyProof.Rows.assign_Tuple]
  refine wpAny_bind (wpAny_standAt ?_)
  unfold unpack
  rw [hsz, hst]
  refine wpAny_bind (wpAny_holding (unpack_hot hotAt ht fun h' k => ?_))
  exact h.run pins _ σ H xs _ Q (I.kept (t' := s.toks) fun b o e => k b o e) (by simpa using rv) hw
end
/-! ### a list comprehension over a list, while an exception is handled -/
section
variable {X : Cx}
theorem lc_hot {q : Addr × Obj} {tg iter elt : Expr} {ifs : List Expr} {scope : Scope} {own : List (Str × Nat)} {pos : Pos} {tl : TE} {g : TG} {tt : TT} {te : TE} (hot : L2H.Hot1 X.A q) (hq : q ∈ X.pn) (hst : X.stack = X.env :: X.outer) (hfm : X.env.frame = some X.env.locals)
    (hN : X.N.Nodup) (hl : PE X iter tl) (ok : BlkOk X.N X.env.scope scope own)
    (hg : ∀ (s : Shared) (H : Hp) (C : Addr) (cl : List (Str × Addr)) (fp : List Addr), PG ((X.blk s H scope (compEnvC scope cl C X.env) fp).tr [q] fun _ _ => False) tg g)
    (ht : ∀ (s : Shared) (H : Hp) (C : Addr) (cl : List (Str × Addr)) (fp : List Addr), PTs ((X.blk s H scope (compEnvC scope cl C X.env) fp).tr [q] fun _ _ => False) ifs tt)
    (he : ∀ (s : Shared) (H : Hp) (C : Addr) (cl : List (Str × Addr)) (fp : List Addr), PE ((X.blk s H scope (compEnvC scope cl C X.env) fp).tr [q] fun _ _ => False) elt te) (hs : ∀ x, foldedSetIterable iter X.env x = pure x := by intro _; rfl) :
    PE X (.ListComp elt [⟨tg, iter, ifs, 0⟩] scope pos) (tLc (iList X.K tl) g tt te (own.map (·.2))) := by
  refine ⟨fun pins s σ H Q I h => ?_⟩
  rw [eval_ListComp]
  have free : ∀ y ∈ scope.names, y.2 = .free → ∃ c, X.env.cells.lookup y.1 = some c := fun y hy e => (ok.free y hy e).elim (fun k => I.ok.has _ (.inl k)) fun k => I.ok.has _ (.inr k)
  refine wpAny_comprehension_free (use := none) rfl hs (closure_ok free) ok.kind (fun y hy e => by rw [ok.uniq y hy, e]) (thn (hl.run pins s σ H _ I h) fun v s1 hv => ?_)
  obtain ⟨x, H1, I1, r1, a, ea, ⟨ys, hys⟩, hW⟩ := hv
  subst ea
  cases r1
  obtain ⟨vs, rv, pl, hz⟩ := I1.list hys
  refine wpAny_pyIter_list pl.isList ?_
  generalize hit : s1.heap.objs.size = it
  generalize hs2 : ({ s1 with heap := s1.heap.push { cls := .type "list_iterator", data := .fields #[.ref a, .int 0 0] } } : Shared) = s2
  have keep2 : ∀ b o, s1.heap.get? b = some o → s2.heap.get? b = some o := fun b o e => by rw [← hs2]; exact Heap.get?_push_of_some _ e
  have I2 : Inv X pins σ H1 s2 := by rw [← hs2]; exact I1.kept (t' := s1.toks) fun b o e => Heap.get?_push_of_some _ e
  have it2 : s2.heap.IsListIter it a 0 := by rw [← hs2, ← hit]; exact ⟨_, Heap.get?_push_size _ rfl, rfl, rfl⟩
  have fit : FpOk X pins H1 it := by rw [← hit]; exact I1.fpOk (Nat.le_refl _) (I1.hok.fresh (Nat.le_refl _))
  have lit : it < s2.heap.objs.size := by obtain ⟨o, e, _⟩ := it2; exact Heap.lt_size e
  refine wpAny_newObj_type (newEnv_comp ?_) (by show 0 ≤ sizeLine; decide)
  generalize hD : s2.heap.objs.size = D
  have nD : H1 D = none := I2.hok.fresh (Nat.le_of_eq hD)
  obtain ⟨W, ⟨m0, w0⟩, turn⟩ := hW D nD
  generalize hs3 : ({ s2 with heap := s2.heap.push { cls := .type "list", data := .seq ([] : List Value).toArray } } : Shared) = s3
  have keep3 : ∀ b o, s2.heap.get? b = some o → s3.heap.get? b = some o := fun b o e => by rw [← hs3]; exact Heap.get?_push_of_some _ e
  have I3 : Inv X pins σ (upd H1 D (.lst [])) s3 := by
    rw [← hs3]
    refine I2.laid (t' := s2.toks) (fun b o e => Heap.get?_push_of_some _ e) (Nat.le_of_eq hD) ⟨Nat.zero_le _, [], 0, .nil, ?_⟩
    rw [← hD]
    exact Heap.get?_push_size _ rfl
  have z3 : s3.heap.objs.size = s2.heap.objs.size + 1 := by rw [← hs3]; exact Heap.size_push _ _
  have nit : it ≠ D := by rw [← hD]; exact Nat.ne_of_lt lit
  have it3 : s3.heap.IsListIter it a 0 := it2.at fun o e => keep3 _ o e
  have f3 : FpOk X pins (upd H1 D (.lst [])) it := ⟨by rw [upd_ne nit]; exact fit.1, fit.2⟩
  have I4 := block_start (fp := [it]) I3 ok hN fun b hb => by
    rw [List.mem_singleton.mp hb]
    exact ⟨f3, z3 ▸ Nat.lt_succ_of_lt lit⟩
  have pg := hg s3 (upd H1 D (.lst [])) s3.heap.objs.size (cellsFrom (s3.heap.objs.size + 1) scope.names (cloFrom X.env.cells scope.names [])) [it]
  have pt := ht s3 (upd H1 D (.lst [])) s3.heap.objs.size (cellsFrom (s3.heap.objs.size + 1) scope.names (cloFrom X.env.cells scope.names [])) [it]
  have pe := he s3 (upd H1 D (.lst [])) s3.heap.objs.size (cellsFrom (s3.heap.objs.size + 1) scope.names (cloFrom X.env.cells scope.names [])) [it]
  show codeAny _ _ (.compStart (.ListComp elt [⟨tg, iter, ifs, 0⟩] scope pos) 0 (.ref it) (.ref D) (compEnvC scope (cellsFrom (s3.heap.objs.size + 1) scope.names (cloFrom X.env.cells scope.names [])) s3.heap.objs.size X.env)) (compPost (model X.prog X.w) X.A X.xe none (EP X pins σ Q) (.ref D) s3.heap.objs.size) { s3 with heap := pushCells (s3.heap.push { cls := .type "dict", data := .dict #[] }) scope.names }
  generalize hce : compEnvC scope (cellsFrom (s3.heap.objs.size + 1) scope.names (cloFrom X.env.cells scope.names [])) s3.heap.objs.size X.env = ce at I4 pg pt pe ⊢
  have cL : ce.locals = s3.heap.objs.size := by rw [← hce]; rfl
  -- the handled exception stands pinned in the block too
  obtain ⟨pget, pfree, pnl, pnf, pnc⟩ := I3.pin q (List.mem_append_left _ hq)
  have qit : q.1 ≠ it := f3.2.2.2.2.2 q (List.mem_append_left _ hq)
  generalize hH3 : upd H1 D (.lst []) = H3 at I3 I4 pg pt pe w0 f3 pfree
  generalize hs4 : ({ s3 with heap := pushCells (s3.heap.push { cls := .type "dict", data := .dict #[] }) scope.names } : Shared) = s4 at I4 ⊢
  have keep4 : ∀ b o, s3.heap.get? b = some o → s4.heap.get? b = some o := fun b o e => by rw [← hs4]; exact pushCells_keeps _ _ _ _ (Heap.get?_push_of_some _ e)
  have it4 : s4.heap.IsListIter it a 0 := it3.at fun o e => keep4 _ o e
  have J4 : Inv (X.blk s3 H3 scope ce [it]) [q] (wipe σ (own.map (·.2))) H3 s4 := I4.pins_of fun p hp => by
    rw [List.mem_singleton.mp hp]
    refine ⟨keep4 _ _ pget, pfree, ?_, fun hm => ?_, pnc⟩
    · show q.1 ≠ ce.locals
      rw [cL]
      exact Nat.ne_of_lt (Heap.lt_size pget)
    · have hm : q.1 ∈ frs X.stack := hm
      rw [hst] at hm
      obtain ⟨e, h1, h2⟩ := List.mem_filterMap.mp hm
      rcases List.mem_cons.mp h1 with h1 | h1
      · rw [h1, hfm] at h2
        exact pnl (Option.some.inj h2).symm
      · exact pnf (List.mem_filterMap.mpr ⟨e, h1, h2⟩)
  have J4 : Inv ((X.blk s3 H3 scope ce [it]).tr [q] fun _ _ => False) [] (wipe σ (own.map (·.2))) H3 s4 := J4.toTry _
  have stat : ∀ {σ' : L2.St} {H' : Hp} {s' : Shared}, Inv ((X.blk s3 H3 scope ce [it]).tr [q] fun _ _ => False) [] σ' H' s' → H' it = none → FpOk ((X.blk s3 H3 scope ce [it]).tr [q] fun _ _ => False) [] H' it := fun {σ' H' s'} J n =>
    ⟨n, (J.ok.exf it List.mem_cons_self).1, J.ok.exfs it List.mem_cons_self, .inl List.mem_cons_self, fun x c e => (J.ok.exf it List.mem_cons_self).2 x c e, fun p hp => by rw [List.mem_singleton.mp (show p ∈ [q] from by simpa using hp)]; exact qit⟩
  have loop : codeAny (model X.prog X.w) X.A (.compLoop (.ListComp elt [⟨tg, iter, ifs, 0⟩] scope pos) 0 (.ref it) (.ref D) ce) (compPost (model X.prog X.w) X.A X.xe none (EP X pins σ Q) (.ref D) s3.heap.objs.size) s4 := by
    refine compLoop_any (fun n s' => ∃ i H', Inv ((X.blk s3 H3 scope ce [it]).tr [q] fun _ _ => False) [] (wipe σ (own.map (·.2))) H' s' ∧ s'.heap.IsListIter it a i ∧ H' it = none ∧ W i n H') ?_ m0 ⟨0, H3, J4, it4, f3.1, w0⟩
    rintro n s5 ⟨i, H5, I5, it5, n5, w5⟩
    have f5 := stat I5 n5
    rcases turn i n H5 w5 with ⟨⟨xs, hxs, hi⟩, qq⟩ | ⟨⟨xs, x, hxs, hx⟩, Nx, hNx, step⟩
    · obtain ⟨its, rx, px, _⟩ := I5.list hxs
      have hlen := rx.length
      obtain ⟨hh, vf, ef, cf⟩ := hot
      have hotAt : HotX.HotAt X.A q.1 s5.heap := ⟨hh, q.2, vf, (I5.pin q (List.mem_append_left _ List.mem_cons_self)).1, ef, cf⟩
      refine listEnd_hot hotAt it5 px.isList (by simp; omega) fun h6 k6 => ?_
      have I6 : Inv ((X.blk s3 H3 scope ce [it]).tr [q] fun _ _ => False) [] (wipe σ (own.map (·.2))) H5 { s5 with heap := h6 } := I5.turned (t' := s5.toks) (fun b o hb e => k6 b o hb e) f5.1 f5.2.1 f5.2.2.2.1 f5.2.2.2.2.1 f5.2.2.2.2.2
      have I7 : Inv X pins σ H5 { s5 with heap := h6 } := I3.call' (ch := [it]) I6.os I6.base I6.hok I6.bare fun b hb => by
        rw [List.mem_singleton.mp hb]
        exact ⟨f3.2.2.2.1, f3.2.1, f3.2.2.2.2.1, f3.2.2.2.2.2⟩
      obtain ⟨m, hn, _⟩ := I6.loc
      have nC : H5 s3.heap.objs.size = none := by
        have zz : H5 ce.locals = none := I6.free
        rw [cL] at zz
        exact zz
      have hn : h6.Ns ce.locals m := hn
      rw [cL] at hn
      obtain ⟨g0, g1, g2, g3, g4, g5⟩ := I3.fpOk (Nat.le_refl s3.heap.objs.size) nC
      refine ⟨m, hn, fun h'' sb => ?_⟩
      exact ⟨.ref D, H5, I7.turned (t' := s5.toks) (fun b o hb e => (sb.2 b hb).trans e) g0 g1 g3 g4 g5, rfl, qq⟩
    · obtain ⟨its, rx, px, _⟩ := I5.list hxs
      obtain ⟨u, hu, ru⟩ := rx.get hx
      refine wpAny_pyNext_list_item it5 px.isList (x := u) (by simpa using hu) fun h6 it6 sb => ?_
      have I6 : Inv ((X.blk s3 H3 scope ce [it]).tr [q] fun _ _ => False) [] (wipe σ (own.map (·.2))) H5 { s5 with heap := h6 } := I5.turned (t' := s5.toks) (fun b o hb e => (sb.2 b hb).trans e) f5.1 f5.2.1 f5.2.2.2.1 f5.2.2.2.2.1 f5.2.2.2.2.2
      obtain ⟨oi, ei, ci, di⟩ := id it6
      refine go_of (s := { s5 with heap := h6 }) ei ci di (by decide) ?_
      have I7 := I6.pinned (fp := [it]) (fun b hb => by rw [List.mem_singleton.mp hb]; exact stat I6 n5) fun b hb => by rw [List.mem_singleton.mp hb]; exact ⟨oi, ei, fun v e => by rw [di] at e; cases e⟩
      refine thnF (pg.run _ _ _ H5 x u _ I7 ru (step x H5 ⟨rfl, fun ys hy => by rw [I5.list_inj hy hxs]; exact hx⟩)) fun _ s8 ⟨σ8, H8, I8, hw8, q8⟩ => ?_
      refine thnF (pt.run _ s8 σ8 H8 _ I8 q8) fun b s9 ⟨H9, I9, q9⟩ => ?_
      have fin : ∀ {s' : Shared} {H' : Hp}, Inv ((X.blk s3 H3 scope ce [it]).tr [q] fun _ _ => False) ([] ++ pinsAt [it] h6) σ8 H' s' → Nx H' → ∃ m, m < n ∧ ∃ i H', Inv ((X.blk s3 H3 scope ce [it]).tr [q] fun _ _ => False) [] (wipe σ (own.map (·.2))) H' s' ∧ s'.heap.IsListIter it a i ∧ H' it = none ∧ W i m H' := fun {s' H'} I' nx => by
        obtain ⟨m', hm, w'⟩ := hNx H' nx
        obtain ⟨e1, e2, _⟩ := I'.pin (it, oi) (List.mem_append_right _ (List.mem_append_right _ (mem_pinsAt List.mem_cons_self ei)))
        have hlw : (wipe σ (own.map (·.2))).length = σ8.length := by rw [← hw8, wipe_length]
        refine ⟨m', hm, i + 1, H', I'.unpinned.weak hlw (fun j v e => ?_), it6.at fun o e => ?_, e2, w'⟩
        · rw [← hw8] at e
          exact (wipe_some e).1
        · rw [ei] at e
          cases e
          exact e1
      cases b with
      | false =>
        rw [if_neg Bool.false_ne_true] at q9 ⊢
        exact fin I9 q9
      | true =>
        rw [if_pos rfl] at q9 ⊢
        refine thnF (pe.run _ s9 σ8 H9 _ I9 q9) fun z s10 ⟨yv, H10, I10, r10, acc, hD10, hz10, nx⟩ => ?_
        exact app_ok (X := (X.blk s3 H3 scope ce [it]).tr [q] fun _ _ => False) I10 hD10 hz10 r10 fun s11 I11 => fin I11 nx
  exact codeAny_compStart_list loop (wpAny_pyIter_listiter it4 loop)
end
/-! ### exceptions of own classes -/
section
variable {X : Cx} {C : Addr} {bmB : List Value} {B newId initId : String}
/-- X(), no text -/
theorem pmk_bare {x : Str} {p pos : Pos} (F : ExcBaseFacts B newId initId bmB) (q : PySem.W.excIn X.K C bmB newId = true) (gC : X.mg x = some (.ref C)) (kC : PySem.W.keepIn X.K (.ref C) = true) (r : Raises X (.ref C)) (hg : Gl X x)
    (hdb : (x == ("__debug__" : Str)) = false := by decide) : L2N.PMk X (.Call (.Name x p) [] [] pos) (fun _ H Q => Q (.ref C) none H) := by
  intro pins s σ H Q I h
  refine wpAny_Call_Name_kw (ld_glob I hg gC ?_ hdb)
  refine PySem.W.callWith_K0 I.kIn kC ?_
  obtain ⟨bm, N, nm, qn, bs, hdct, sn, sub, ab, col, dd, k0, k1, k2, k3, k5, mN, hC, hN, hni, T⟩ := exc_obj I.kIn q
  exact wpAny_call_exc_subT F T hC hN hni (fun h' e hm => L2N.mk_of I hm r h (I.hok.gone hm.new)) (by show 0 ≤ sizeLine; decide)
end
theorem takesN0 {X : Cx} : L2N.Takes X (fun _ _ _ _ => False) := fun _ _ x => by
  obtain ⟨_, _, _, _, _, _, _, _, _, _, _, _, _, _, _, _, z⟩ := x
  exact z.elim
section
variable {P : Program} {w : World} {K : PySem.W.Frag} {mg : Str → Option Value} {base : Heap}
/-- a def that may raise -/
theorem okN {x qual : Str} {st : Stmt} {f : Addr} {fd : FuncData} {N ps : List Str} {k : Nat} {sp : Sp} (F : Fun K x qual st f fd) (S : FnScope N ps (defScope st)) (len : ∀ vs H Q E, sp vs H Q E → vs.length = ps.length)
    (hbody : ∀ (cdv : Value) (A : Around) (outer : List Env) (s : Shared) (H : Hp) (vs : List V) (Q : VK) (E : XK), Room k (A.deeper (envOfC qual (defScope st) s.heap.objs.size f cdv)) → sp vs H Q E →
      ∃ t, PSs (cxOf (L2N.CX P w) P w K mg base N qual (defScope st) f cdv A outer s H E) (defBody st) t ∧ t { nx := fun _ H' => Q .non H', rt := Q } (start N vs) H) : FnOk P w K mg base (L2N.CX P w) (k + 1) f fd ps sp := by
  obtain ⟨oc, od, kV, doc, pm, an, cdv, ct, osl, rfl, lk, hcd⟩ := F.ex
  exact fn_of lk hcd S len fun A outer s H vs Q E hr hsp => hbody cdv A outer s H vs Q E hr hsp
/-- a def at f that may raise, with its promise -/
structure HeldN (P : Program) (w : World) (K : PySem.W.Frag) (mg : Str → Option Value) (base : Heap) (k : Nat) (f : Addr) (sp : Sp) : Prop where
  ex : ∃ (fd : FuncData) (ps : List Str), FnOk P w K mg base (L2N.CX P w) k f fd ps sp ∧ PySem.W.keepIn K (.ref f) = true ∧ Binds K fd ps []
theorem HeldN.of {k : Nat} {x : Str} {ps : List Str} {sp : Sp} {st : Stmt} {f : Addr} {fd : FuncData} (F : Fun K x x st f fd)
    (hb : ∀ (kV doc pm : Value) (an : Option Addr) (cdv ct : Value) (us : List Value), us.length = ps.length → bindArgs (PySem.W.fnOf x x (defArgs st) (defBody st) (defScope st) .none kV doc pm an cdv ct) ⟨us, []⟩ = pure (ps.zip us))
    (ok : FnOk P w K mg base (L2N.CX P w) k f fd ps sp) : HeldN P w K mg base k f sp := ⟨fd, ps, ok, F.kp, F.binds hb⟩
end
section
variable {X : Cx} {W : WX} {k i : Nat} {S : Addr → Option Sp} {x : Str} {p pos : Pos} {e : Expr} {es : List Expr} {t : TA}
/-- a call of a local that holds one of some defs, each of which may raise -/
def tCallN (i : Nat) (S : Addr → Option Sp) (W : WX) (t : TA) : TE := fun σ H Q => ∃ f sp, σ[i]? = some (some (.ref f)) ∧ S f = some sp ∧ t σ H fun vs H1 => sp vs H1 Q (fun c d H' => W c d σ H')
theorem pe_callN (A : ∀ f sp, S f = some sp → HeldN X.prog X.w X.K X.mg X.base k f sp) (hr : Room k X.A) (tk : L2N.Takes X W) (ha : PA X (e :: es) t) (hN : X.N[i]? = some x := by rfl) (hv : Vis X.env.scope x := by first | exact Or.inl rfl | exact Or.inr (Or.inl rfl) | exact Or.inr (Or.inr rfl))
    (hdb : (x == ("__debug__" : Str)) = false := by decide) (hcd : (x == ("__classdict__" : Str)) = false := by decide)
    (he : starEach (e :: es) X.env = (false, eval e X.env) :: starEach es X.env := by rfl) (hpl : (backTo pos (starEach es X.env)).any (·.1) = false := by rfl) : PE X (.Call (.Name x p) (e :: es) [] pos) (tCallN i S W t) := by
  refine ⟨fun pins s σ H Q I h => ?_⟩
  obtain ⟨f, sp, hs, hS, h2⟩ := h
  obtain ⟨fd, ps, F, hk, hb⟩ := (A f sp hS).ex
  refine wpAny_Call_Name_kw (thn ((pe_var (pos := p) hN hv hdb hcd).run pins s σ H (fun v H1 => v = .ref f ∧ H1 = H) I ⟨.ref f, hs, rfl, rfl⟩) fun u s1 ⟨v, H1, I1, r1, q1⟩ => ?_)
  obtain ⟨rfl, rfl⟩ := q1
  cases r1
  exact PySem.W.callWith_K (h₀ := X.base) I.ok.mod.kin hk (thn (ha.run pos pins s1 σ _ _ I1 h2) fun us s2 ⟨vs, H2, I2, r, qq⟩ => ⟨I2.kIn, run_fnS F hr hb (L2N.passAt tk σ) I2 r qq⟩) he hpl
end
/-- raise X(): what is wished of it -/
def tRaise (c : Addr) (E : XK) : TS := fun _ _ H => E (.ref c) none H
/-- isinstance(e, c): e the exception in hand, its class one of some -/
def rIsN (K : PySem.W.Frag) (S : Addr → Prop) (cls : Value) (d : Option Addr) (a : Addr) : List V → Hp → VK → Prop := fun xs H Q => ∃ D, cls = .ref D ∧ d = none ∧ S D ∧ rIsE K D a xs H Q
theorem call_isN {X : Cx} {S : Addr → Prop} {a : Addr} {oe : Obj} {cls : Value} {d : Option Addr} {pn : List (Addr × Obj)} (C : ∀ D, S D → ExcC X.K D) (hz : L2N.Zn cls d oe) (hf : ∃ vs, oe.data = .fields vs) : CallR (X.suite a ((a, oe) :: pn)) (.builtin "isinstance") (rIsN X.K S cls d a) := by
  intro pins s σ H xs us Q I r h
  obtain ⟨D, rfl, rfl, hS, h2⟩ := h
  exact call_isE (C D hS) hz.zc hf pins s σ H xs us Q I r h2
theorem hot1_suite {X : Cx} {a : Addr} {oe : Obj} {cls : Value} {d : Option Addr} {pn : List (Addr × Obj)} (hz : L2N.Zn cls d oe) (hf : ∃ vs, oe.data = .fields vs) : L2H.Hot1 (X.suite a ((a, oe) :: pn)).A (a, oe) := by
  obtain ⟨vs, e⟩ := hf
  exact ⟨rfl, vs, e, hz.2.2 vs e⟩
/-! ### the nine classes of refusals -/
structure XCls where
  talk : Addr
  c : Fin 9 → Addr
  ok : Fin 9 → Bool
structure XOk (K : PySem.W.Frag) (C : XCls) : Prop where
  exc : ∀ i, C.ok i = true → PySem.W.excIn K (C.c i) [.type "ValueError", .type "Exception", .type "BaseException", .type "object"] "ValueError.__new__" = true
  kp : ∀ i, C.ok i = true → PySem.W.keepIn K (.ref (C.c i)) = true
  rb : ∀ i, C.ok i = true → PySem.W.subIn K (.ref (C.c i)) (.type "BaseException") = some true
  rt : ∀ i, C.ok i = true → PySem.W.typeIn K (.ref (C.c i)) = some (.type "type")
  ec : ∀ i, C.ok i = true → ExcC K (C.c i)
  em : ∀ i, C.ok i = true → PySem.W.exmOne K (.ref (C.c i)) (.ref C.talk) = some true
  is : ∀ i j, C.ok i = true → PySem.W.kitOne K (.ref (C.c i)) (.ref (C.c j)) = some (decide (i = j))
  isV : ∀ i, C.ok i = true → PySem.W.kitOne K (.ref (C.c i)) (.type "ValueError") = some true
def XCls.in (C : XCls) (D : Addr) : Prop := ∃ i, C.ok i = true ∧ D = C.c i
theorem XOk.ecIn {K : PySem.W.Frag} {C : XCls} (T : XOk K C) : ∀ D, C.in D → ExcC K D := fun _ ⟨i, h, e⟩ => e ▸ T.ec i h
theorem XOk.raises {X : Cx} {C : XCls} (T : XOk X.K C) {i : Fin 9} (h : C.ok i = true) : Raises X (.ref (C.c i)) := raises_own (T.rb i h) (T.rt i h)
theorem XOk.made {X : Cx} {C : XCls} (T : XOk X.K C) {i : Fin 9} (h : C.ok i = true) {x : Str} {p pos : Pos} (gC : X.mg x = some (.ref (C.c i))) (hg : Gl X x) (hdb : (x == ("__debug__" : Str)) = false := by decide) :
    L2N.PMk X (.Call (.Name x p) [] [] pos) (fun _ H Q => Q (.ref (C.c i)) none H) := pmk_bare PySem.F.excBase_ValueError (T.exc i h) gC (T.kp i h) (T.raises h) hg hdb
theorem w_isN {K : PySem.W.Frag} {C : XCls} (T : XOk K C) {i j : Fin 9} {a : Addr} {H : Hp} {Q : VK} (h : C.ok i = true) (q : Q (.bl (decide (i = j))) H) : rIsN K C.in (.ref (C.c i)) none a [.ref a, .ref (C.c j)] H Q :=
  ⟨C.c i, rfl, rfl, ⟨i, h, rfl⟩, .ref (C.c j), .ref (C.c j), _, rfl, fun _ r => r, T.is i j h, q⟩
theorem w_isNV {K : PySem.W.Frag} {C : XCls} (T : XOk K C) {i : Fin 9} {a : Addr} {H : Hp} {Q : VK} (h : C.ok i = true) (q : Q (.bl true) H) : rIsN K C.in (.ref (C.c i)) none a [.ref a, .ty "ValueError"] H Q :=
  ⟨C.c i, rfl, rfl, ⟨i, h, rfl⟩, .ty "ValueError", .type "ValueError", _, rfl, fun _ r => r, T.isV i h, q⟩
/-- one class that is raised -/
structure XOne (K : PySem.W.Frag) (C : XCls) (i : Fin 9) : Prop where
  exc : PySem.W.excIn K (C.c i) [.type "ValueError", .type "Exception", .type "BaseException", .type "object"] "ValueError.__new__" = true
  kp : PySem.W.keepIn K (.ref (C.c i)) = true
  rb : PySem.W.subIn K (.ref (C.c i)) (.type "BaseException") = some true
  rt : PySem.W.typeIn K (.ref (C.c i)) = some (.type "type")
  ec : ExcC K (C.c i)
  em : PySem.W.exmOne K (.ref (C.c i)) (.ref C.talk) = some true
  is : ∀ j, PySem.W.kitOne K (.ref (C.c i)) (.ref (C.c j)) = some (decide (i = j))
  isV : PySem.W.kitOne K (.ref (C.c i)) (.type "ValueError") = some true
theorem XOk.of {K : PySem.W.Frag} {C : XCls} (h : ∀ i, C.ok i = true → XOne K C i) : XOk K C :=
  ⟨fun i z => (h i z).exc, fun i z => (h i z).kp, fun i z => (h i z).rb, fun i z => (h i z).rt, fun i z => (h i z).ec, fun i z => (h i z).em, fun i j z => (h i z).is j, fun i z => (h i z).isV⟩
/-- the classes, by their places -/
def xcls (t x0 x1 x2 x3 x4 x5 x6 x7 x8 : Addr) (ok : Fin 9 → Bool) : XCls := ⟨t, fun i => match i with | 0 => x0 | 1 => x1 | 2 => x2 | 3 => x3 | 4 => x4 | 5 => x5 | 6 => x6 | 7 => x7 | 8 => x8, ok⟩
theorem fin9 {P : Fin 9 → Prop} (h0 : P 0) (h1 : P 1) (h2 : P 2) (h3 : P 3) (h4 : P 4) (h5 : P 5) (h6 : P 6) (h7 : P 7) (h8 : P 8) : ∀ i, P i
  | 0 => h0 | 1 => h1 | 2 => h2 | 3 => h3 | 4 => h4 | 5 => h5 | 6 => h6 | 7 => h7 | 8 => h8
theorem kit_self {K : PySem.W.Frag} {D : Addr} : PySem.W.kitOne K (.ref D) (.ref D) = some true := if_pos (beq_self_eq_true _)
theorem kit_ref {K : PySem.W.Frag} {D C : Addr} {b : Bool} (hn : D ≠ C) (hd : PySem.W.hasDictIn K C = true) (ht : PySem.W.typeIn K (.ref C) = some (.type "type")) (hs : PySem.W.subIn K (.ref D) (.ref C) = some b) : PySem.W.kitOne K (.ref D) (.ref C) = some b := by
  obtain ⟨cd, hc, _⟩ := PySem.W.any_some hd
  unfold PySem.W.kitOne
  rw [if_neg (fun h => hn (Value.ref.inj (beq_iff_eq.mp h)))]
  show (if ((PySem.W.clsIn K C).isSome && PySem.W.typeIn K (.ref C) == some (.type "type")) = true then PySem.W.subIn K (.ref D) (.ref C) else none) = some b
  rw [if_pos (by rw [hc, ht]; rfl)]
  exact hs
theorem kit_val {K : PySem.W.Frag} {D : Addr} {b : Bool} (hs : PySem.W.subIn K (.ref D) (.type "ValueError") = some b) : PySem.W.kitOne K (.ref D) (.type "ValueError") = some b := by
  unfold PySem.W.kitOne
  rw [if_neg (fun h => by cases beq_iff_eq.mp h)]
  show (if PySem.W.kitMeta "ValueError" = true then PySem.W.subIn K (.ref D) (.type "ValueError") else none) = some b
  rw [if_pos (by decide +kernel)]
  exact hs
end HH

namespace HH
open PySem PySem.Spec PyProof.Rows L2
/-! ### a class of one's own, with methods -/
structure TalkC (K : PySem.W.Frag) (C : Addr) : Prop where
  cl : Cls K C
  nP : NoAttr K C "past"
  ha : PySem.W.findIn K (.ref C) "__class__" = some (some (.builtin "object.__class__"))
  hn : PySem.W.specialIn K (.builtin "object.__class__") "__get__" = some (some (.builtin "getset_descriptor.__get__"))
  ht : PySem.W.takesIn K (.builtin "object.__class__") = some true
  hm : PySem.W.mroIn K C (.type "object") = some true
theorem TalkC.ty {K : PySem.W.Frag} {C a dx : Addr} {H : Hp} {fs : List (Str × V)} (T : TalkC K C) (h : H a = some (.ins C dx fs)) : TyX K H (.ref a) (.ref C) := .base (.ins h T.cl T.ha T.hn T.ht T.hm)
structure MetOk (P : Program) (w : World) (K : PySem.W.Frag) (mg : Str → Option Value) (base : Heap) (CX : CXT) (C : Addr) (k : Nat) (m : Str) (ps : List Str) (sp : Sp) : Prop where
  ex : ∃ (f : Addr) (fd : FuncData), FnOk P w K mg base CX k f fd ps sp ∧ Meth K C m f ∧ Binds K fd ps []
structure MakOk (P : Program) (w : World) (K : PySem.W.Frag) (mg : Str → Option Value) (base : Heap) (CX : CXT) (C : Addr) (k : Nat) (ps : List Str) (sp : Sp) : Prop where
  ex : ∃ (f : Addr) (fd : FuncData), FnOk P w K mg base CX k f fd ps sp ∧ Mk K C f ∧ Binds K fd ps []
section
variable {X : Cx} {C : Addr} {k : Nat} {m x : Str} {ps : List Str} {sp : Sp} {o e : Expr} {es : List Expr} {ta : TE} {t : TA} {p apos pos : Pos} {pl : Sem Bool}
theorem pe_mT (D : MetOk X.prog X.w X.K X.mg X.base CX0 C k m ps sp) (c : Cls X.K C) (hr : Room k X.A) (he : PE X o ta) (ha : PA X (e :: es) t)
    (hst : starEach (e :: es) X.env = (false, eval e X.env) :: starEach es X.env := by rfl) (hpl : (backTo pos (starEach es X.env)).any (·.1) = false := by rfl)
    (ht : eval (.Call (.Attribute o m apos) (e :: es) [] pos) X.env = (do
      let ov ← eval o X.env
      standAt apos.atName
      let (f, first) ← holding [ov] (getMethod ov m pl)
      callWith pos f first (backTo pos (starEach (e :: es) X.env)) (backToKw pos (keywordEach [] X.env))) := by rfl) :
    PE X (.Call (.Attribute o m apos) (e :: es) [] pos) (tMeth C m sp [] E0 ta t) := by
  obtain ⟨f, fd, F, M, b⟩ := D.ex
  exact pe_meth (pl := pl) he c M F hr b .nil pass0 ha hst hpl ht
theorem pe_m0T (D : MetOk X.prog X.w X.K X.mg X.base CX0 C k m ps sp) (c : Cls X.K C) (hr : Room k X.A) (he : PE X o ta)
    (ht : eval (.Call (.Attribute o m apos) [] [] pos) X.env = (do
      let ov ← eval o X.env
      standAt apos.atName
      let (f, first) ← holding [ov] (getMethod ov m pl)
      callWith pos f first (backTo pos (starEach [] X.env)) (backToKw pos (keywordEach [] X.env))) := by rfl) :
    PE X (.Call (.Attribute o m apos) [] [] pos) (tMeth C m sp [] E0 ta tNil) := by
  obtain ⟨f, fd, F, M, b⟩ := D.ex
  exact pe_meth0 (pl := pl) he c M F hr b .nil pass0 ht
theorem pe_mkT (D : MakOk X.prog X.w X.K X.mg X.base CX0 C k ps sp) (hr : Room (k + 1) X.A) (hg : Gl X x) (hm : X.mg x = some (.ref C)) (ha : PA X (e :: es) t)
    (hdb : (x == ("__debug__" : Str)) = false := by decide) (he : starEach (e :: es) X.env = (false, eval e X.env) :: starEach es X.env := by rfl) (hpl : (backTo pos (starEach es X.env)).any (·.1) = false := by rfl) :
    PE X (.Call (.Name x p) (e :: es) [] pos) (tMake C sp [] E0 t) := by
  obtain ⟨f, fd, F, M, b⟩ := D.ex
  exact pe_make M F hr hg hm b .nil pass0 ha hdb he hpl
/-- x == y, x of the class: its own answer -/
def rEqM (K : PySem.W.Frag) (C : Addr) (sp : Sp) : R2 := fun x y H Q => ∃ a dx fs t, x = .ref a ∧ H a = some (.ins C dx fs) ∧ TyX K H y t ∧ PySem.W.notFirst K C t = true ∧ sp [x, y] H (fun v H' => (∃ b, v = .bl b) ∧ Q v H') E0
theorem op_eqM (D : MetOk X.prog X.w X.K X.mg X.base CX0 C k "__eq__" ps sp) (hr : Room k X.A) : OpR X (compareOp .Eq) (rEqM X.K C sp) := by
  intro pins s σ H x y v u Q I rx ry h
  obtain ⟨f, fd, F, M, hb⟩ := D.ex
  obtain ⟨a, dx, fs, t, rfl, ha, ty, nf, hsp⟩ := h
  cases rx
  obtain ⟨mA, J, _⟩ := ins_get I.hok ha
  obtain ⟨od, J, _⟩ := J.look
  obtain ⟨m, hF⟩ := I.fr
  obtain ⟨P', Z, pp, _⟩ := kit_of I ry ty
  show wpAny (model X.prog X.w) X.A (richCompare .Eq (.ref a) u) (EP X pins σ Q) X.xe s
  refine PySem.W.cmp_K (op := .Eq) (tb := t) hr.units0 hF I.ok.mod.kin J (Z.ty _ _ I.kIn pp) nf M.at_ M.fn ?_
  have r2 : Vals [V.ref a, y] [Value.ref a, u] := .cons rfl (.cons ry .nil)
  refine wpAny_mono (run_fn (dvs := []) (ds := []) F hr hb .nil pass0 I r2 hsp) (fun r s' hq => ?_) fun _ _ z => z
  obtain ⟨z, H', I', rz, ⟨b, ez⟩, q⟩ := hq
  subst ez
  cases rz
  exact ⟨.bl b, H', I', rfl, q⟩
end
end HH

namespace HH
open PySem PySem.Spec PyProof.Rows L2
/-! ### lambdas with parameters, nothing captured -/
structure LamT where
  params : Arguments
  body : Expr
  scope : Scope
  q : Str
/-- the lambda's function object, its code object at c -/
def LamO (f : Addr) (t : LamT) (c : Addr) : HO := .ext fun h => ∃ (pm ctv : Value), h.get? f = some (PySem.W.kla_obj "<lambda>" t.q t.params t.body t.scope [] pm c ctv)
theorem lamO_ne {f c : Addr} {t : LamT} (ps : Array Value) : LamO f t c ≠ .tbl ps := fun z => by
  unfold LamO at z
  cases z
section
variable {P : Program} {w : World} {K : PySem.W.Frag} {mg : Str → Option Value} {base : Heap}
theorem lam_run {CX : CXT} {k : Nat} {f c : Addr} {t : LamT} {pm ctv : Value} {N ps : List Str} (S : FnScope N ps t.scope) {A : Around} {outer : List Env} {s : Shared} {H : Hp} {us : List Value} {vs : List V} {Q : VK} {E : XK} {tb : TE} (hr : Room (k + 1) A) (e0 : Env0 P w K mg base A outer s H)
    (hf : s.heap.get? f = some (PySem.W.kla_obj "<lambda>" t.q t.params t.body t.scope [] pm c ctv)) (hc : ∃ (oc : Obj) (xs : Array Value) (tk : Tok), s.heap.get? c = some oc ∧ oc.data = .fields xs ∧ xs[1]? = some (.str t.q tk))
    (hb : bindArgs (PySem.W.kla_fn "<lambda>" t.q t.params t.body t.scope [] pm (.ref c) ctv) ⟨us, []⟩ = pure (ps.zip us)) (r : Vals vs us) (hl : vs.length = ps.length)
    (hbody : Room k (A.deeper (envOfC t.q t.scope s.heap.objs.size f (.ref c))) → PE (cxOf CX P w K mg base N t.q t.scope f (.ref c) A outer s H E) t.body tb) (hq : tb (start N vs) H Q) :
    codeAny (model P w) A (.call (.ref f) ⟨us, []⟩) (CR CX outer P w H s Q E) s := by
  have lim : s.heap.NoLimit := e0.mod.nolimit.keeps fun b o e => (e0.bs b o e).1
  have hkind : ∀ y ∈ ps.zip us, t.scope.names.lookup y.1 = some .local ∨ (t.scope.names.lookup y.1 = some .cell ∧ ((cellsFrom (s.heap.objs.size + 1) t.scope.names []).lookup y.1).isSome = true) := fun y hy =>
    (S.par y.1 (List.of_mem_zip (a := y.1) (b := y.2) hy).1).imp id fun z => ⟨z, PySem.W.cellsFrom_some _ _ _ (.inl z)⟩
  obtain ⟨oc, xs, tk, h1, h2, h3⟩ := hc
  refine PySem.W.kla_callFunE hr.depth hf rfl S.co S.gen rfl ⟨c, oc, xs, tk, rfl, h1, h2, h3⟩ ?_
  rw [hb]
  refine wpAny_pure (wpAny_newFunctionEnv_cells S.kind hkind fun env he s1 x => ?_)
  subst he
  refine ⟨lim.keeps x.toInCall.keep, ?_⟩
  have I : Inv (cxOf CX P w K mg base N t.q t.scope f (.ref c) A outer s H E) [] (start N vs) H s1 := inv_start S hr.hd e0 hl r x
  refine PySem.W.kla_codeExpr (wpAny_mono ((hbody (hr.deeper _)).run [] s1 (start N vs) H Q I hq) (fun v s' h => ?_) fun e s' h => h)
  obtain ⟨z, H', J, rv, qq⟩ := h
  exact ⟨z, H', J.os, J.bare, J.base, J.hok, rv, qq⟩
/-- a lambda's text keeps a promise -/
structure LamOk (P : Program) (w : World) (K : PySem.W.Frag) (mg : Str → Option Value) (base : Heap) (k : Nat) (t : LamT) (sp : Sp) : Prop where
  ex : ∃ (N ps : List Str), FnScope N ps t.scope ∧ (∀ vs H Q E, sp vs H Q E → vs.length = ps.length) ∧
    (∀ (pm cv ctv : Value) (us : List Value), us.length = ps.length → bindArgs (PySem.W.kla_fn "<lambda>" t.q t.params t.body t.scope [] pm cv ctv) ⟨us, []⟩ = pure (ps.zip us)) ∧
    ∀ (f c : Addr) (A : Around) (outer : List Env) (s : Shared) (H : Hp) (vs : List V) (Q : VK) (E : XK), Room k (A.deeper (envOfC t.q t.scope s.heap.objs.size f (.ref c))) → sp vs H Q E →
      ∃ tb, PE (cxOf (L2N.CX P w) P w K mg base N t.q t.scope f (.ref c) A outer s H E) t.body tb ∧ tb (start N vs) H Q
end
section
variable {X : Cx} {W : WX} {k i : Nat} {S : Addr → Option Sp} {SL : LamT → Sp → Prop} {x : Str} {p pos : Pos} {e : Expr} {es : List Expr} {t : TA}
/-- a call of a local that holds one of some defs, or one of some lambdas -/
def tCallL2 (i : Nat) (S : Addr → Option Sp) (SL : LamT → Sp → Prop) (W : WX) (t : TA) : TE := fun σ H Q => ∃ f, σ[i]? = some (some (.ref f)) ∧
  ((∃ sp, S f = some sp ∧ t σ H fun vs H1 => sp vs H1 Q (fun c d H' => W c d σ H')) ∨
   (∃ lt c sp, SL lt sp ∧ H f = some (LamO f lt c) ∧ t σ H fun vs H1 => H1 f = some (LamO f lt c) ∧ H1 c = some (LamX.CodeO c lt.q) ∧ sp vs H1 Q (fun c d H' => W c d σ H')))
theorem pe_callL2 (A : ∀ f sp, S f = some sp → HeldN X.prog X.w X.K X.mg X.base k f sp) (AL : ∀ lt sp, SL lt sp → LamOk X.prog X.w X.K X.mg X.base k lt sp) (hr : Room (k + 1) X.A) (tk : L2N.Takes X W) (ha : PA X (e :: es) t) (hN : X.N[i]? = some x := by rfl) (hv : Vis X.env.scope x := by first | exact Or.inl rfl | exact Or.inr (Or.inl rfl) | exact Or.inr (Or.inr rfl))
    (hdb : (x == ("__debug__" : Str)) = false := by decide) (hcd : (x == ("__classdict__" : Str)) = false := by decide)
    (he : starEach (e :: es) X.env = (false, eval e X.env) :: starEach es X.env := by rfl) (hpl : (backTo pos (starEach es X.env)).any (·.1) = false := by rfl) : PE X (.Call (.Name x p) (e :: es) [] pos) (tCallL2 i S SL W t) := by
  refine ⟨fun pins s σ H Q I h => ?_⟩
  obtain ⟨f, hs, h2⟩ := h
  refine wpAny_Call_Name_kw (thn ((pe_var (pos := p) hN hv hdb hcd).run pins s σ H (fun v H1 => v = .ref f ∧ H1 = H) I ⟨.ref f, hs, rfl, rfl⟩) fun u s1 ⟨v, H1, I1, r1, q1⟩ => ?_)
  obtain ⟨rfl, rfl⟩ := q1
  cases r1
  rcases h2 with ⟨sp, hS, h2⟩ | ⟨lt, c, sp, hL, hf, h2⟩
  · obtain ⟨fd, ps, F, hk, hb⟩ := (A f sp hS).ex
    exact PySem.W.callWith_K (h₀ := X.base) I.ok.mod.kin hk (thn (ha.run pos pins s1 σ _ _ I1 h2) fun us s2 ⟨vs, H2, I2, r, qq⟩ => ⟨I2.kIn, run_fnS F (hr.mono (Nat.le_succ k)) hb (L2N.passAt tk σ) I2 r qq⟩) he hpl
  · have at_ : ∀ {s : Shared} {H : Hp}, Inv X pins σ H s → H f = some (LamO f lt c) → ∃ (pm ctv : Value), s.heap.get? f = some (PySem.W.kla_obj "<lambda>" lt.q lt.params lt.body lt.scope [] pm c ctv) := fun {s H} I h => (I.hok f _ h).1
    obtain ⟨pm, ctv, g1⟩ := at_ I1 hf
    refine PySem.W.callWith_F ⟨_, _, _, _, g1⟩ (thn (ha.run pos pins s1 σ _ _ I1 h2) fun us s2 ⟨vs, H2, I2, r, hf2, hc2, qq⟩ => ?_) he hpl
    obtain ⟨pm2, ctv2, g2⟩ := at_ I2 hf2
    refine ⟨⟨_, _, _, _, g2⟩, ?_⟩
    obtain ⟨N, ps, FS, len, hb, body⟩ := (AL lt sp hL).ex
    have hl := len _ _ _ _ qq
    refine wpAny_call (codeAny_mono (R := CR (L2N.CX X.prog X.w) X.stack X.prog X.w H2 s2 Q (fun c d H' => W c d σ H')) ?_ fun r s' hq => ?_)
    · obtain ⟨oc, xs, tk', hoc⟩ := (I2.hok c _ hc2).1
      by_cases hro : Room k (X.A.deeper (envOfC lt.q lt.scope s2.heap.objs.size f (.ref c)))
      · obtain ⟨tb, hp, hq⟩ := body f c X.A X.stack s2 H2 vs Q _ hro qq
        exact lam_run FS hr I2.env0 g2 ⟨oc, xs, tk', hoc⟩ (hb _ _ _ us (by rw [← r.length]; exact hl)) r hl (fun _ => hp) hq
      · exact absurd (hr.deeper _) hro
    · cases r with
      | error e => exact L2N.passAt tk σ pins H2 s2 e s' I2 hq
      | ok fl =>
        cases fl with
        | ret u => exact I2.after hq
        | next => exact False.elim hq
        | brk => exact False.elim hq
        | cont => exact False.elim hq
/-- a lambda made -/
def tLamV (T : List (Addr × Str)) (lt : LamT) : TE := fun σ H Q => LamX.Tabs T H ∧ ∀ f c H', LamX.ExtN H H' → LamX.Tabs T H' → H f = none → H' f = some (LamO f lt c) → H' c = some (LamX.CodeO c lt.q) → Q (.ref f) H'
theorem pe_lamV {T : List (Addr × Str)} {lt : LamT} {c P : Addr} (TB : LamX.TabB X.base X.mg c P) (hcode : X.env.code = .ref c) (hm : (P, lt.q) ∈ T) (hu : ∀ p ∈ T, p.1 = P → p.2 = lt.q) (hq : lt.q = X.env.qual ++ "<lambda>" := by rfl)
    (hdef : defaultsOf lt.params X.env = ([], []) := by rfl) (hfree : ∀ y ∈ lt.scope.names, y.2 ≠ .free) (hclo : cloFrom X.env.cells lt.scope.names [] = [] := by rfl) : PE X (.Lambda lt.params lt.body lt.scope pos) (tLamV T lt) := by
  refine ⟨fun pins s σ H Q I h => ?_⟩
  obtain ⟨hT, h⟩ := h
  obtain ⟨ps, hP, ht, ha⟩ := hT _ hm
  refine PySem.W.kla_eval hdef ?_
  rw [← hq]
  have bP : s.heap.BuiltinsAt X.mg P := TB.bm.keeps I.bk
  have gP : s.heap.get? P = some { cls := .none, data := .fields ps } := I.hok P _ hP
  have clo : closureFor lt.scope X.env = pure [] := by
    rw [closure_ok fun y hy e => absurd e (hfree y hy), hclo]
  -- the function object, laid and tracked
  have fin : ∀ (c' : Addr) (pm ctv : Value) (H1 : Hp) (h' : Heap) (tk : Nat), Inv X pins σ H1 { s with heap := h', toks := tk } → LamX.ExtN H H1 → LamX.Tabs T H1 → H1 c' = some (LamX.CodeO c' lt.q) → s.heap.objs.size ≤ h'.objs.size →
      EP X pins σ Q (.ref h'.objs.size) { s with heap := h'.push (PySem.W.kla_obj "<lambda>" lt.q lt.params lt.body lt.scope [] pm c' ctv), toks := tk } := by
    intro c' pm ctv H1 h' tk I1 e1 t1 hc hsz
    have nf : H1 h'.objs.size = none := I1.hok.fresh (Nat.le_refl _)
    have ex2 : ∀ b o, H1 b = some o → (upd H1 h'.objs.size (LamO h'.objs.size lt c')) b = some o := fun b o q => by rw [upd_ne (ne_of_none q nf)]; exact q
    refine ⟨.ref h'.objs.size, _, I1.laid (t' := tk) (o := LamO h'.objs.size lt c') (fun b o q => Heap.get?_push_of_some _ q) (Nat.le_refl _) ?_, rfl, ?_⟩
    · exact ⟨⟨pm, ctv, Heap.get?_push_size _ rfl⟩, ⟨_, Heap.get?_push_size _ rfl⟩, fun h1 h2 ⟨pm, ctv, a⟩ st => ⟨pm, ctv, st _ a⟩⟩
    · exact h h'.objs.size c' _ (fun b o q n => ex2 b o (e1 b o q n)) (t1.ext ex2) (I.hok.fresh hsz) upd_same (ex2 _ _ hc)
  cases hc : codeAmong pos ps.toList with
  | none =>
    refine PySem.W.kla_makeFunction (mg := X.mg) (c := c) (P := P) (ps := ps) clo I.ok.glob (I.mod.glob.keeps I.bk) hcode (TB.code.keeps I.bk) gP ht hc TB.gP bP fun c' ctv h' tk hx hge hlt hrec htb => ?_
    obtain ⟨c2, oc, xs, tq, e2, hoc, hd, hv⟩ := hrec
    cases e2
    have nC : H c' = none := I.hok.fresh hge
    have I1 := LamX.inv_table (t' := tk) (q := lt.q) (more := #[rawInt pos.line, rawInt pos.col, .ref c']) I hP (fun b o hb e => hx b o hb e) htb hge ⟨oc, xs, tq, hoc, hd, hv⟩
    have hE : LamX.ExtN H (upd (upd H P (.tbl (ps ++ #[rawInt pos.line, rawInt pos.col, .ref c']))) c' (LamX.CodeO c' lt.q)) := fun b o e n => by
      rw [upd_ne (ne_of_none e nC), upd_ne (fun z => n ps (Option.some.inj (e.symm.trans (by rw [z]; exact hP))))]
      exact e
    have eL : (ps ++ #[rawInt pos.line, rawInt pos.col, .ref c']).toList = ps.toList ++ [rawInt pos.line, rawInt pos.col, .ref c'] := by simp
    refine fin c' _ ctv _ h' tk I1 hE (fun p hp => ?_) upd_same (Nat.le_trans hge (Nat.le_of_lt hlt))
    by_cases hb : p.1 = P
    · rw [hu p hp hb, hb]
      refine ⟨_, by rw [upd_ne (ne_of_none hP nC), upd_same], by rw [eL]; exact PySem.TriplesOk_snoc _ _ _ _ ht, fun p' cv hcv => ?_⟩
      rw [eL] at hcv
      rcases LamX.among_app _ ht hcv with z | z
      · obtain ⟨c0, e1, e2⟩ := ha p' cv z
        exact ⟨c0, e1, hE _ _ e2 LamX.codeO_ne⟩
      · exact ⟨c', z, upd_same⟩
    · obtain ⟨ps', a1, a2, a3⟩ := hT p hp
      refine ⟨ps', by rw [upd_ne (ne_of_none a1 nC), upd_ne hb]; exact a1, a2, fun p' cv hcv => ?_⟩
      obtain ⟨c0, e1, e2⟩ := a3 p' cv hcv
      exact ⟨c0, e1, hE _ _ e2 LamX.codeO_ne⟩
  | some cv =>
    obtain ⟨c', e, hco⟩ := ha pos cv hc
    subst e
    refine PySem.W.kla_makeFunctionHit (mg := X.mg) (c := c) (P := P) (ps := ps) clo I.ok.glob (I.mod.glob.keeps I.bk) hcode (TB.code.keeps I.bk) gP ht hc bP fun ctv h' tk hx hsz => ?_
    exact fin c' _ ctv H h' tk (I.kept fun b o e => hx b o e) (LamX.ExtN.refl H) hT hco hsz
end
end HH

namespace HH
open PySem PySem.Spec PyProof.Rows L2
/-! ### where a lambda stands in a def -/
def xArg (e : Expr) (k : Nat) : Expr := match e with | .Call _ as _ _ => as.getD k e | _ => e
def xLeft (e : Expr) : Expr := match e with | .Compare l _ _ _ => l | _ => e
def xRight (e : Expr) (k : Nat) : Expr := match e with | .Compare _ _ cs _ => cs.getD k e | _ => e
def xBool (e : Expr) (k : Nat) : Expr := match e with | .BoolOp _ vs _ => vs.getD k e | _ => e
def xUn (e : Expr) : Expr := match e with | .UnaryOp _ o _ => o | _ => e
def noneX : Expr := .Tuple [] 0 ⟨0, 0, 0, 0⟩
def sTest (s : Stmt) : Expr := match s with | .If t _ _ _ => t | .Return (some e) _ => e | .Expr e _ => e | .Assign _ e _ => e | _ => noneX
def sIn (s : Stmt) (k : Nat) : Stmt := match s with | .For _ _ b _ _ => b.getD k s | .If _ b _ _ => b.getD k s | .While _ b _ _ => b.getD k s | _ => s
def sOr (s : Stmt) (k : Nat) : Stmt := match s with | .If _ _ b _ => b.getD k s | _ => s
def noArgs : Arguments := ⟨[], [], none, [], [], none, []⟩
def xPar (e : Expr) : Arguments := match e with | .Lambda a _ _ _ => a | _ => noArgs
def xBody (e : Expr) : Expr := match e with | .Lambda _ b _ _ => b | _ => e
def xScp (d : Scope) (e : Expr) : Scope := match e with | .Lambda _ _ s _ => s | _ => d
def lamOf (d : Scope) (e : Expr) (q : Str) : LamT := ⟨xPar e, xBody e, xScp d e, q⟩
section
variable {P : Program} {w : World} {K : PySem.W.Frag} {mg : Str → Option Value} {base : Heap}
/-- a def's rule, its code object in hand -/
theorem Fun.okC {x qual : Str} {st : Stmt} {f c : Addr} {fd : FuncData} {N ps : List Str} {k : Nat} {sp : Sp} (F : Fun K x qual st f fd) (hc : fd.code = .ref c) (S : FnScope N ps (defScope st)) (len : ∀ vs H Q E, sp vs H Q E → vs.length = ps.length)
    (hbody : ∀ (A : Around) (outer : List Env) (s : Shared) (H : Hp) (vs : List V) (Q : VK) (E : XK), Room k (A.deeper (envOfC qual (defScope st) s.heap.objs.size f (.ref c))) → sp vs H Q E →
      ∃ t, PSs (cxOf CX0 P w K mg base N qual (defScope st) f (.ref c) A outer s H E).nox (defBody st) t ∧ t { nx := fun _ H' => Q .non H', rt := Q } (start N vs) H) : FnOk P w K mg base CX0 (k + 1) f fd ps sp := by
  obtain ⟨oc, od, kV, doc, pm, an, cdv, ct, osl, rfl, lk, hcd⟩ := F.ex
  obtain rfl : cdv = .ref c := hc
  refine fn_of lk hcd S len fun A outer s H vs Q E hr hsp => ?_
  obtain ⟨t, h, q⟩ := hbody A outer s H vs Q E hr hsp
  exact ⟨t, h.nox, q⟩
/-- a method that may raise -/
structure MetN (P : Program) (w : World) (K : PySem.W.Frag) (mg : Str → Option Value) (base : Heap) (C : Addr) (k : Nat) (m : Str) (ps : List Str) (sp : Sp) : Prop where
  ex : ∃ (f : Addr) (fd : FuncData), FnOk P w K mg base (L2N.CX P w) k f fd ps sp ∧ Meth K C m f ∧ Binds K fd ps []
structure MakN (P : Program) (w : World) (K : PySem.W.Frag) (mg : Str → Option Value) (base : Heap) (C : Addr) (k : Nat) (ps : List Str) (sp : Sp) : Prop where
  ex : ∃ (f : Addr) (fd : FuncData), FnOk P w K mg base (L2N.CX P w) k f fd ps sp ∧ Mk K C f ∧ Binds K fd ps []
end
section
variable {X : Cx} {C : Addr} {k : Nat} {m x : Str} {ps : List Str} {sp : Sp} {E : XK} {o e : Expr} {es : List Expr} {ta : TE} {t : TA} {p apos pos : Pos} {pl : Sem Bool}
theorem pe_mN (D : MetN X.prog X.w X.K X.mg X.base C k m ps sp) (c : Cls X.K C) (hr : Room k X.A) (tk : L2N.Takes X (fun d o _ H => E d o H)) (he : PE X o ta) (ha : PA X (e :: es) t)
    (hst : starEach (e :: es) X.env = (false, eval e X.env) :: starEach es X.env := by rfl) (hpl : (backTo pos (starEach es X.env)).any (·.1) = false := by rfl)
    (ht : eval (.Call (.Attribute o m apos) (e :: es) [] pos) X.env = (do
      let ov ← eval o X.env
      standAt apos.atName
      let (f, first) ← holding [ov] (getMethod ov m pl)
      callWith pos f first (backTo pos (starEach (e :: es) X.env)) (backToKw pos (keywordEach [] X.env))) := by rfl) :
    PE X (.Call (.Attribute o m apos) (e :: es) [] pos) (tMeth C m sp [] E ta t) := by
  obtain ⟨f, fd, F, M, b⟩ := D.ex
  exact pe_meth (pl := pl) he c M F hr b .nil (L2N.passes_call tk fun _ _ _ _ h => h) ha hst hpl ht
theorem pe_mN0 (D : MetN X.prog X.w X.K X.mg X.base C k m ps sp) (c : Cls X.K C) (hr : Room k X.A) (tk : L2N.Takes X (fun d o _ H => E d o H)) (he : PE X o ta)
    (ht : eval (.Call (.Attribute o m apos) [] [] pos) X.env = (do
      let ov ← eval o X.env
      standAt apos.atName
      let (f, first) ← holding [ov] (getMethod ov m pl)
      callWith pos f first (backTo pos (starEach [] X.env)) (backToKw pos (keywordEach [] X.env))) := by rfl) :
    PE X (.Call (.Attribute o m apos) [] [] pos) (tMeth C m sp [] E ta tNil) := by
  obtain ⟨f, fd, F, M, b⟩ := D.ex
  exact pe_meth0 (pl := pl) he c M F hr b .nil (L2N.passes_call tk fun _ _ _ _ h => h) ht
theorem pe_mkN (D : MakN X.prog X.w X.K X.mg X.base C k ps sp) (hr : Room (k + 1) X.A) (tk : L2N.Takes X (fun d o _ H => E d o H)) (hg : Gl X x) (hm : X.mg x = some (.ref C)) (ha : PA X (e :: es) t)
    (hdb : (x == ("__debug__" : Str)) = false := by decide) (he : starEach (e :: es) X.env = (false, eval e X.env) :: starEach es X.env := by rfl) (hpl : (backTo pos (starEach es X.env)).any (·.1) = false := by rfl) :
    PE X (.Call (.Name x p) (e :: es) [] pos) (tMake C sp [] E t) := by
  obtain ⟨f, fd, F, M, b⟩ := D.ex
  exact pe_make M F hr hg hm b .nil (L2N.passes_call tk fun _ _ _ _ h => h) ha hdb he hpl
/-- a def that may raise, called by its name in one that may raise -/
theorem pe_dN {f : Addr} (D : HeldN X.prog X.w X.K X.mg X.base k f sp) (hm : X.mg x = some (.ref f)) (hr : Room k X.A) (tk : L2N.Takes X (fun d o _ H => E d o H)) (hg : Gl X x) (ha : PA X (e :: es) t)
    (hdb : (x == ("__debug__" : Str)) = false := by decide) (he : starEach (e :: es) X.env = (false, eval e X.env) :: starEach es X.env := by rfl) (hpl : (backTo pos (starEach es X.env)).any (·.1) = false := by rfl) :
    PE X (.Call (.Name x p) (e :: es) [] pos) (tCall sp [] E t) := by
  obtain ⟨fd, ps, F, kp, b⟩ := D.ex
  exact pe_call F hr hg hm kp b .nil (L2N.passes_call tk fun _ _ _ _ h => h) ha hdb he hpl
/-- len(x), x of the class: its own answer -/
def rLenM (K : PySem.W.Frag) (C : Addr) (sp : Sp) : List V → Hp → VK → Prop := fun xs H Q => ∃ a dx fs, xs = [.ref a] ∧ H a = some (.ins C dx fs) ∧ sp [.ref a] H (fun v H' => (∃ n : Int, v = .int n ∧ 0 ≤ n ∧ n < 2 ^ 63) ∧ Q v H') E0
theorem run_fnI {CX : CXT} {f : Addr} {fd : FuncData} {pins : List (Addr × Obj)} {σ : L2.St} {H : Hp} {s : Shared} {Q : VK} {us : List Value} {vs : List V} (F : FnOk X.prog X.w X.K X.mg X.base CX k f fd ps sp) (hr : Room (k + 1) X.A) (hb : Binds X.K fd ps []) (hx : Passes CX X E)
    (I : Inv X pins σ H s) (r : Vals vs us) (h : sp vs H Q E) : wpAny (model X.prog X.w) X.A.in1 (call (.ref f) us) (EP X pins σ Q) X.xe s := by
  have hl : us.length = ps.length := by rw [← r.length]; exact F.len _ _ _ _ h
  have b := hb s us I.kIn (by rw [List.append_nil]; exact hl)
  rw [List.append_nil] at b
  refine wpAny_call (codeAny_mono (F.run X.A.in1 X.stack s H ⟨us, []⟩ us vs Q E hr.in1 I.env0.in1 b r h) fun r s' hq => ?_)
  cases r with
  | error e => exact hx pins σ H s e s' I hq
  | ok fl =>
    cases fl with
    | ret u => exact I.after hq
    | next => exact False.elim hq
    | brk => exact False.elim hq
    | cont => exact False.elim hq
theorem call_lenM (D : MetOk X.prog X.w X.K X.mg X.base CX0 C k "__len__" ps sp) (hr : Room (k + 1) X.A) : CallR X (.builtin "len") (rLenM X.K C sp) := by
  intro pins s σ H xs us Q I r h
  obtain ⟨f, fd, F, M, hb⟩ := D.ex
  obtain ⟨a, dx, fs, rfl, ha, hsp⟩ := h
  cases r with
  | cons r1 r2 =>
  cases r1
  cases r2
  obtain ⟨mA, J, _⟩ := ins_get I.hok ha
  obtain ⟨od, J, _⟩ := J.look
  obtain ⟨m, hF⟩ := I.fr
  refine PySem.W.len_K hF I.ok.mod.kin J M.at_ M.fn ?_
  have r2 : Vals [V.ref a] [Value.ref a] := .cons rfl .nil
  refine wpAny_mono (run_fnI F hr hb pass0 I r2 hsp) (fun r s' hq => ?_) fun _ _ z => z
  obtain ⟨z, H', I', rz, ⟨n, ez, h0, h1⟩, q⟩ := hq
  subst ez
  obtain ⟨t, rfl⟩ := rz
  exact ⟨⟨h0, h1⟩, .int n, H', I'.kept (t' := s'.toks + 1) fun b o e => e, ⟨_, rfl⟩, q⟩
end
theorem HeldN.mono {P : Program} {w : World} {K : PySem.W.Frag} {mg : Str → Option Value} {base : Heap} {k k' : Nat} {f : Addr} {sp : Sp} (h : HeldN P w K mg base k f sp) (hk : k ≤ k') : HeldN P w K mg base k' f sp := by
  obtain ⟨fd, ps, F, kp, b⟩ := h.ex
  exact ⟨fd, ps, ⟨F.len, fun A outer s H args us vs Q E hr => F.run A outer s H args us vs Q E (hr.mono hk)⟩, kp, b⟩
theorem LamOk.mono {P : Program} {w : World} {K : PySem.W.Frag} {mg : Str → Option Value} {base : Heap} {k k' : Nat} {t : LamT} {sp : Sp} (h : LamOk P w K mg base k t sp) (hk : k ≤ k') : LamOk P w K mg base k' t sp := by
  obtain ⟨N, ps, h1, h2, h3, h4⟩ := h.ex
  exact ⟨N, ps, h1, h2, h3, fun f c A outer s H vs Q E hr hs => h4 f c A outer s H vs Q E (hr.mono hk) hs⟩
/-- the end of a law with tables of code objects -/
theorem walk_lam {l : PySem.W.OpenLaw} {n k : Nat} {q : Program} {loose : List Str} {XP : (Str → Option Value) → Heap → Prop} {d : DefRec} {K : Params → PySem.W.Frag} {as : List Addr} {e : ∀ P, as = (K P).map (·.1)} {ts : List Addr} {x : Str}
    (hn : l.most = some n) (hn2 : n ≤ sizeLine) (hdf : d.params.defaults = []) (hr : Room k callerA)
    (F : ∀ (w : World) (mg : Str → Option Value) (fa : Addr) (h : Heap), (∀ P ∈ ts, h.get? P = some (PySem.W.tabObj #[])) → (K w.params).In h → h.Ns mainGlobals mg → mg d.name = some (.ref fa) → LamX.LawAtS l w (K w.params) L2.CX0 k n x mg fa h) :
    PySem.W.WalkO q loose XP (PySem.W.kmHook K as e ts).says l.row.toRowW d [] (fun f vs => PySem.call f vs) :=
  LamX.walk_ofTs (K := K) (CX := fun _ => L2.CX0) hn hn2 hdf hr (fun w h Y => PySem.W.km_in_of Y) (fun w mg fa h Y KX G hm => F w mg fa h (PySem.W.km_tabs_of Y) KX G hm) (fun _ _ _ _ _ h => h)
end HH

namespace HH
open PySem PySem.Spec L2
local macro_rules | `(tactic| walk_at "cy") => `(tactic| first
  | assumption
  | exact L2.upd_same
  | exact L2.sqL_new
  | exact L2.sqT_new
  | exact L2.sqL_at (by assumption)
  | exact L2.sqT_at (by assumption)
  | (refine' L2.Same.seq (by assumption) ?k0; (case k0 => walk_at "cy"))
  | (refine' L2.Same.sqT (by assumption) ?k0; (case k0 => walk_at "cy"))
  | (refine' L2.Same.dat (by assumption) ?k0; (case k0 => walk_at "cy"))
  | (refine' (by assumption : L2.Same _ _) _ _ ?k0; (case k0 => walk_at "cy"))
  | (refine' L2.Same.seq (L2.same_new (by assumption)) ?k0; (case k0 => walk_at "cy"))
  | (refine' L2.Same.sqT (L2.same_new (by assumption)) ?k0; (case k0 => walk_at "cy"))
  | (refine' L2.Same.dat (L2.same_new (by assumption)) ?k0; (case k0 => walk_at "cy"))
  | (refine' L2.same_new (by assumption) _ _ ?k0; (case k0 => walk_at "cy"))
  | (refine' L2.Mv.sqT (by assumption) ?k0; (case k0 => walk_at "cy")))
local macro_rules | `(tactic| walk_at "w") => `(tactic| repeat (first
  | refine HH.stp ?_
  | with_reducible refine L2.iteT ?_
  | with_reducible refine L2.iteF ?_
  | ((with_reducible refine' HH.w_gtup ?k1 ?k2 ?_); (case k1 => walk_at "cy"); (case k2 => exact rfl))
  | ((with_reducible refine' HH.w_ixT ?k1 ?k2 ?_); (case k1 => walk_at "cy"); (case k2 => exact rfl))
  | ((with_reducible refine' HH.w_ixL ?k1 ?k2 ?_); (case k1 => walk_at "cy"); (case k2 => exact rfl))
  | ((with_reducible refine' HH.w_lenL ?k1 ?_); (case k1 => walk_at "cy"))
  | ((with_reducible refine' HH.w_lenT ?k1 ?_); (case k1 => walk_at "cy"))
  | ((with_reducible refine' HH.w_exT ?k1 ?_); (case k1 => walk_at "cy"))
  | ((with_reducible refine' HH.w_exL ?k1 ?_); (case k1 => walk_at "cy"))
  | ((with_reducible refine' HH.w_tyL ?k1 ?_); (case k1 => walk_at "cy"))
  | ((with_reducible refine' HH.w_setL ?k1 ?k2 ?_); (case k1 => walk_at "cy"); (case k2 => exact rfl))
  | ((with_reducible refine' HH.w_modI ?k1 ?_); (case k1 => first | (with_reducible assumption) | omega))
  | ((with_reducible refine' HH.w_divI ?k1 ?_); (case k1 => (constructor <;> omega)))))
local macro_rules | `(tactic| walk_at "v") => `(tactic| ((repeat ((fail_if_success (with_reducible refine HH.isIf ?_)); first
  | refine HH.stp ?_
  | with_reducible refine L2.iteT ?_
  | with_reducible refine L2.iteF ?_
  | ((with_reducible refine' HH.w_gtup ?k1 ?k2 ?_); (case k1 => walk_at "cy"); (case k2 => exact rfl))
  | ((with_reducible refine' HH.w_ixT ?k1 ?k2 ?_); (case k1 => walk_at "cy"); (case k2 => exact rfl))
  | ((with_reducible refine' HH.w_ixL ?k1 ?k2 ?_); (case k1 => walk_at "cy"); (case k2 => exact rfl))
  | ((with_reducible refine' HH.w_lenL ?k1 ?_); (case k1 => walk_at "cy"))
  | ((with_reducible refine' HH.w_lenT ?k1 ?_); (case k1 => walk_at "cy"))
  | ((with_reducible refine' HH.w_exT ?k1 ?_); (case k1 => walk_at "cy"))
  | ((with_reducible refine' HH.w_exL ?k1 ?_); (case k1 => walk_at "cy"))
  | ((with_reducible refine' HH.w_tyL ?k1 ?_); (case k1 => walk_at "cy"))
  | ((with_reducible refine' HH.w_setL ?k1 ?k2 ?_); (case k1 => walk_at "cy"); (case k2 => exact rfl))
  | ((with_reducible refine' HH.w_modI ?k1 ?_); (case k1 => first | (with_reducible assumption) | omega))
  | ((with_reducible refine' HH.w_divI ?k1 ?_); (case k1 => (constructor <;> omega)))))); (try (with_reducible refine HH.isIf ?_)))
/-! ### a talk -/
abbrev State := Row × List Nat × List Nat
def stD (s : State) : PyData := .tuple [rowD s.1, .str (tx s.2.1), .str (tx s.2.2)]
/-- the row behind a word -/
def nowR : Row → List Nat → Row
  | [], _ => []
  | f :: r, w => f.now (runOne f f.begun w).2 :: nowR r (runOne f f.begun w).1
theorem nowR_snoc (f : Folk) : ∀ (r : Row) (w : List Nat), nowR (r ++ [f]) w = nowR r w ++ [f.now (runOne f f.begun (comes r w)).2]
  | [], _ => rfl
  | g :: r, w => by
    show g.now (runOne g g.begun w).2 :: nowR (r ++ [f]) (runOne g g.begun w).1 = _
    rw [nowR_snoc f r]
    rfl
theorem nowR_len : ∀ (r : Row) (w : List Nat), (nowR r w).length = r.length
  | [], _ => rfl
  | _ :: r, _ => congrArg (· + 1) (nowR_len r _)
theorem now_ok {f : Folk} (h : f.ok = true) (w : List Nat) : (f.now (runOne f f.begun w).2).ok = true := by
  cases f with
  | hears a b => exact h
  | ctr tw e c =>
    have h' : (decide (2 ≤ e) && decide (e ≤ 6) && decide (c < e)) = true := h
    simp only [Bool.and_eq_true, decide_eq_true_eq] at h'
    have e2 := (run_ctr tw e h'.1.1 c w c h'.2).2.1
    show (decide (2 ≤ e) && decide (e ≤ 6) && decide ((runOne (.ctr tw e c) c w).2 < e)) = true
    rw [e2, decide_eq_true h'.1.1, decide_eq_true h'.1.2, decide_eq_true (Nat.mod_lt _ (by omega))]
    rfl
theorem nowR_ok : ∀ {r : Row} (w : List Nat), (∀ f ∈ r, f.ok = true) → ∀ f ∈ nowR r w, f.ok = true
  | [], _, _, _, h => by cases h
  | g :: r, w, hr, f, h => by
    rcases List.mem_cons.mp h with e | e
    · rw [e]; exact now_ok (hr g List.mem_cons_self) w
    · exact nowR_ok _ (fun k hk => hr k (List.mem_cons_of_mem _ hk)) f e
theorem noL_st (s : State) : noL (stD s) = true := by
  show (noL (rowD s.1) && (true && (true && true))) = true
  rw [noL_row]
  rfl
theorem noLs_sts : ∀ sts : List State, noLs (sts.map stD) = true
  | [] => rfl
  | s :: sts => by
    show (noL (stD s) && noLs (sts.map stD)) = true
    rw [noLs_sts sts, noL_st s]
    rfl
def lastT (w : List Nat) : List Nat := w.drop (w.length - 10)
theorem sm_none3 {H H' : Hp} {p : Addr} (s : Same H H') (h : H' p = none) : H p = none := by
  cases e : H p with
  | none => rfl
  | some o => rw [s p o e] at h; cases h
/-- all but one object stays -/
def But (x : Addr) (H H' : Hp) : Prop := ∀ a o, a ≠ x → H a = some o → H' a = some o
theorem But.tp {K : PySem.W.Frag} {x C dx : Addr} {fs : List (Str × V)} {H H' : Hp} (s : But x H H') (h : H x = some (.ins C dx fs)) : Tp K H H' := fun a xs q => by
  have ne : ∀ {o : HO}, H a = some o → (∀ C dx fs, o ≠ .ins C dx fs) → a ≠ x := fun e n z => by
    rw [z, h] at e
    cases e
    exact n _ _ _ rfl
  rcases q with (q | ⟨o, q⟩) | q
  · exact .inl (.inl (s _ _ (ne q fun _ _ _ z => by cases z) q))
  · exact .inl (.inr ⟨o, s _ _ (ne q fun _ _ _ z => by cases z) q⟩)
  · exact .inr q
section
variable (K : PySem.W.Frag) (CT : Addr)
/-- a talk at x, its list at l -/
def TkAt (x l : Addr) (H : Hp) (sts : List State) : Prop := ∃ dx xs, H x = some (.ins CT dx [("past", .ref l)]) ∧ H l = some (.lst xs) ∧ DpAll K H xs (sts.map stD)
def sp_talk_init : Sp := fun vs H Q _ => ∃ (x dx : Addr) (v : V) (r : Row), vs = [.ref x, v] ∧ H x = some (.ins CT dx []) ∧ Dp K H v (rowD r) ∧ Row.Ok r ∧ ∀ l H', But x H H' → H l = none → TkAt K CT x l H' [(r, [], [])] → Q .non H'
def sp_talk_say : Sp := fun vs H Q _ => ∃ (x l : Addr) (sts : List State) (r : Row) (sd cm w : List Nat), vs = [.ref x, .str (tx w)] ∧ TkAt K CT x l H (sts ++ [(r, sd, cm)]) ∧ Row.Ok r ∧ WordOk w ∧ sd.length + w.length ≤ 10000 ∧ cm.length ≤ 1000000 ∧ sts.length ≤ 100000 ∧
  ∀ H', Mv l H H' → TkAt K CT x l H' (sts ++ [(r, sd, cm)] ++ [(nowR r w, sd ++ w, cm ++ comes r w)]) → Q (.str (tx (comes r w))) H'
def sp_talk_last : Sp := fun vs H Q _ => ∃ (x l : Addr) (sts : List State) (r : Row) (sd cm : List Nat), vs = [.ref x] ∧ TkAt K CT x l H (sts ++ [(r, sd, cm)]) ∧ cm.length ≤ 1000000 ∧ Q (.str (tx (lastT cm))) H
def sp_talk_row : Sp := fun vs H Q _ => ∃ (x l : Addr) (sts : List State) (r : Row) (sd cm : List Nat), vs = [.ref x] ∧ TkAt K CT x l H (sts ++ [(r, sd, cm)]) ∧ ∀ v, Dp K H v (rowD r) → Q v H
def sp_talk_eq : Sp := fun vs H Q _ => ∃ (x l : Addr) (y : V) (sts : List State) (st : State), vs = [.ref x, y] ∧ TkAt K CT x l H (sts ++ [st]) ∧ SeqAt.shaped (stD st) = true ∧
  ((∃ (y' l' : Addr) (sts' : List State) (st' : State), y = .ref y' ∧ TkAt K CT y' l' H (sts' ++ [st']) ∧ SeqAt.shaped (stD st') = true ∧ Q (.bl (PyData.eqv (stD st) (stD st'))) H) ∨
   (∃ ds, Dp K H y (.tuple ds) ∧ PySem.W.kitOne K (.type "tuple") (.ref CT) = some false ∧ Q (.bl false) H))
theorem len_talk_init : ∀ vs H Q E, sp_talk_init K CT vs H Q E → vs.length = 2 := by rintro _ _ _ _ ⟨_, _, _, _, rfl, _⟩; rfl
theorem len_talk_say : ∀ vs H Q E, sp_talk_say K CT vs H Q E → vs.length = 2 := by rintro _ _ _ _ ⟨_, _, _, _, _, _, _, rfl, _⟩; rfl
theorem len_talk_last : ∀ vs H Q E, sp_talk_last K CT vs H Q E → vs.length = 1 := by rintro _ _ _ _ ⟨_, _, _, _, _, _, rfl, _⟩; rfl
theorem len_talk_row : ∀ vs H Q E, sp_talk_row K CT vs H Q E → vs.length = 1 := by rintro _ _ _ _ ⟨_, _, _, _, _, _, rfl, _⟩; rfl
theorem len_talk_eq : ∀ vs H Q E, sp_talk_eq K CT vs H Q E → vs.length = 2 := by rintro _ _ _ _ ⟨_, _, _, _, _, rfl, _⟩; rfl
end
instance i_sFld {K : PySem.W.Frag} {ta tv : TE} {f : Str} {D : Ends} {σ : L2.St} {H : Hp} : Stp (sFld K ta tv f D σ H) (tv σ H fun y H1 => ta σ H1 fun x H2 => ∃ a C dx fs, x = .ref a ∧ H2 a = some (.ins C dx fs) ∧ Cls K C ∧ NoAttr K C f ∧ fs.length < 1000 ∧ D.nx σ (upd H2 a (.ins C dx (putF f y fs)))) := ⟨fun h => h⟩
theorem ne_of_none' {H : Hp} {x l : Addr} {o : HO} (h : H x = some o) (n : H l = none) : l ≠ x := fun e => by
  rw [e, h] at n
  cases n
def t_talk_init (K : PySem.W.Frag) (CT : Addr) : TS :=
  (tSeq (tDrop (tCall (sp_need_row K) [] E0 (tCons (tVar 1) tNil)))
  (sFld K (tVar 0) (tLst (tCons (tTup (tCons (tVar 1) (tCons (tC (.str "")) (tCons (tC (.str "")) tNil)))) tNil)) "past"))

def t_talk_say (K : PySem.W.Frag) (CT : Addr) : TS :=
  (tSeq (tAsg (tOp (rIxL K) (tFld K (tVar 0) "past") (tUn (rU fun i => .int (-i)) (tC (.int 1)))) (gTup K 3 (gCons (gName 2) (gCons (gName 3) (gCons (gName 4) gNil)))))
  (tSeq (tIfS (tNot (tB (tCall (sp_is_word K) [] E0 (tCons (tVar 1) tNil)))) tNever tNext)
  (tSeq (tIfS (tTest (tOp rGtI (tOp rAddI (tCB rLenT (tCons (tVar 3) tNil)) (tCB rLenT (tCons (tVar 1) tNil))) (tC (.int 10000)))) tNever tNext)
  (tSeq (tPar 5 6 (tCons (tVar 1) (tCons (tLst tNil) tNil)))
  (tSeq (tFor (iTup K (tVar 2)) (gName 7)
  (tSeq (tIfS (tTest (tOp rEq (tOp (rIxT K) (tVar 7) (tC (.int 0))) (tC (.str "hears")))) (tDrop (tBM K "list" rAppend (tVar 6) (tCons (tVar 7) tNil))) (tDrop (tBM K "list" rAppend (tVar 6) (tCons (tTup (tCons (tOp (rIxT K) (tVar 7) (tC (.int 0))) (tCons (tOp (rIxT K) (tVar 7) (tC (.int 1))) (tCons (tOp rModI (tOp rAddI (tOp (rIxT K) (tVar 7) (tC (.int 2))) (tCB rLenT (tCons (tVar 5) tNil))) (tOp (rIxT K) (tVar 7) (tC (.int 1)))) tNil)))) tNil))))
  (tAsg (tCall (sp_said_by K) [] E0 (tCons (tVar 7) (tCons (tVar 5) tNil))) (gName 5))))
  (tSeq (tDrop (tBM K "list" rAppend (tFld K (tVar 0) "past") (tCons (tTup (tCons (tCB (rTupQ K) (tCons (tVar 6) tNil)) (tCons (tOp rAddS (tVar 3) (tVar 1)) (tCons (tOp rAddS (tVar 4) (tVar 5)) tNil)))) tNil)))
  (tRet (tVar 5))))))))

def t_talk_last (K : PySem.W.Frag) (CT : Addr) : TS :=
  (tRet (tSl rSlS (tOp (rIxT K) (tOp (rIxL K) (tFld K (tVar 0) "past") (tUn (rU fun i => .int (-i)) (tC (.int 1)))) (tC (.int 2))) (tPart (tUn (rU fun i => .int (-i)) (tC (.int 10)))) tNoPart))

def t_talk_row (K : PySem.W.Frag) (CT : Addr) : TS :=
  (tRet (tOp (rIxT K) (tOp (rIxL K) (tFld K (tVar 0) "past") (tUn (rU fun i => .int (-i)) (tC (.int 1)))) (tC (.int 0))))

def t_talk_eq (K : PySem.W.Frag) (CT : Addr) : TS :=
  (tRet (tAndV (tCB (rIsi K) (tCons (tVar 1) (tCons (tC (.ref CT)) tNil))) (tOp (rEqD K) (tOp (rIxL K) (tFld K (tVar 0) "past") (tUn (rU fun i => .int (-i)) (tC (.int 1)))) (tOp (rIxL K) (tFld K (tVar 1) "past") (tUn (rU fun i => .int (-i)) (tC (.int 1)))))))

theorem cut_last (w : List Nat) : cutS (tx w) (some (-10)) none = tx (lastT w) := by
  have e : HT.sIx (tx w).length 0 (some (-10)) = w.length - 10 := by
    show (if (-10 : Int) < 0 then ((-10 : Int) + (w.length : Int)).toNat else min (-10 : Int).toNat w.length) = _
    rw [if_pos (by decide)]
    omega
  unfold cutS lastT
  rw [e, HT.sIx_none]
  show (⟨((w.drop (w.length - 10)).take (w.length - (w.length - 10))).toArray⟩ : Str) = tx (w.drop (w.length - 10))
  rw [List.take_of_length_le (by rw [List.length_drop]; exact Nat.le_refl _)]
  rfl
section
variable {K : PySem.W.Frag} {CT : Addr}
/-- self.past -/
theorem w_past {te : TE} {σ : L2.St} {H : Hp} {Q : VK} {x l dx : Addr} (T : TalkC K CT) (h : H x = some (.ins CT dx [("past", .ref l)])) (q : Q (.ref l) H) (ht : ∀ R : VK, R (.ref x) H → te σ H R) : tFld K te "past" σ H Q :=
  ht _ ⟨x, CT, dx, _, _, rfl, h, T.cl, T.nP, rfl, q⟩
/-- what stands last -/
theorem st_last {H : Hp} {xs : List V} {sts : List State} {st : State} (h : DpAll K H xs ((sts ++ [st]).map stD)) : ∃ v a vr, atI xs (-1) = some v ∧ v = .ref a ∧ SqT K H a [vr, .str (tx st.2.1), .str (tx st.2.2)] ∧ Dp K H vr (rowD st.1) ∧ xs.length = sts.length + 1 := by
  have hl : xs.length = sts.length + 1 := by rw [h.len, List.length_map, List.length_append]; rfl
  have hd : ((sts ++ [st]).map stD)[sts.length]? = some (stD st) := by rw [List.map_append, List.getElem?_append_right (by rw [List.length_map]; exact Nat.le_refl _), List.length_map, Nat.sub_self]; rfl
  obtain ⟨v, hv, dv⟩ := h.get' hd
  obtain ⟨a, ys, rfl, hs, ha⟩ := dp_tup dv
  obtain ⟨y1, y2, y3, rfl, h1, h2, h3⟩ := dAll_3 K ha
  cases h2
  cases h3
  refine ⟨_, a, y1, ?_, rfl, hs, h1, hl⟩
  unfold atI ixN
  rw [if_neg (by decide), hl]
  rw [if_pos (by omega)]
  show xs[((-1 : Int) + ((sts.length + 1 : Nat) : Int)).toNat]? = _
  rw [show ((-1 : Int) + ((sts.length + 1 : Nat) : Int)).toNat = sts.length by omega]
  exact hv
variable (K) (CT)
theorem sem_talk_init (T : TalkC K CT) : ∀ vs H Q E, sp_talk_init K CT vs H Q E → t_talk_init K CT { nx := fun _ H' => Q .non H', rt := Q } (start ["self", "row"] vs) H := by
  rintro vs H Q E ⟨x, dx, v, r, rfl, hx, hd, hR, q⟩
  show t_talk_init K CT _ [some (.ref x), some v] H
  unfold t_talk_init
  walk_at "v"
  refine ⟨v, rowD r, rfl, hd, fit_row r, isRow_of hR, fun H1 s1 => ?_⟩
  have hd1 := s1.dat hd
  have et : (("" : Str)) = tx [] := by decide +kernel
  walk_at "v"
  refine ⟨szOk 3, fun t nt => ?_⟩
  walk_at "v"
  refine ⟨szOk 1, fun l nl => ?_⟩
  have s3 := (s1.trans (same_new (o := .tup [v, .str "", .str ""]) nt)).trans (same_new (o := .lst [.ref t]) nl)
  have hl3 : upd (upd H1 t (.tup [v, .str "", .str ""])) l (.lst [.ref t]) l = some (.lst [.ref t]) := upd_same
  have ht3 : Dp K (upd (upd H1 t (.tup [v, .str "", .str ""])) l (.lst [.ref t])) (.ref t) (stD (r, [], [])) := (same_new nl).dat (.tup sqT_new (.cons ((same_new nt).dat hd1) (.cons (et ▸ .str _) (.cons (et ▸ .str _) .nil))))
  have nl0 : H l = none := sm_none3 (s1.trans (same_new (o := .tup [v, .str "", .str ""]) nt)) nl
  generalize upd (upd H1 t (.tup [v, .str "", .str ""])) l (.lst [.ref t]) = H3 at s3 hl3 ht3 ⊢
  have hx3 := s3 _ _ hx
  refine ⟨_, rfl, x, CT, dx, [], rfl, hx3, T.cl, T.nP, by show 0 < 1000; decide, ?_⟩
  have b3 : But x H3 (upd H3 x (.ins CT dx (putF "past" (.ref l) []))) := fun a o n e => by rw [upd_ne n]; exact e
  have nlx : l ≠ x := ne_of_none' hx nl0
  refine q l _ (fun a o n e => b3 a o n (s3 a o e)) nl0 ⟨dx, [.ref t], upd_same, b3 _ _ nlx hl3, .cons ((b3.tp hx3).dp _ _ ?_ ht3) .nil⟩
  show (noL (rowD r) && (true && (true && true))) = true
  rw [noL_row]
  rfl
theorem sem_talk_last (T : TalkC K CT) : ∀ vs H Q E, sp_talk_last K CT vs H Q E → t_talk_last K CT { nx := fun _ H' => Q .non H', rt := Q } (start ["self"] vs) H := by
  rintro vs H Q E ⟨x, l, sts, r, sd, cm, rfl, ⟨dx, xs, hx, hl, hxs⟩, hc, q⟩
  show t_talk_last K CT _ [some (.ref x)] H
  unfold t_talk_last
  obtain ⟨v, a, vr, hat, rfl, hs, hr, hlen⟩ := st_last hxs
  walk_at "w"
  refine w_past T hx ?_ (fun R h => ⟨_, rfl, h⟩)
  walk_at "w"
  refine ⟨1, rfl, ?_⟩
  refine w_ixL (sqL_at hl) hat ?_
  walk_at "w"
  refine ⟨10, rfl, ?_⟩
  walk_at "w"
  refine ⟨tx cm, rfl, szOk _ (by rw [tx_len]; omega), ?_⟩
  rw [cut_last]
  exact q
theorem sem_talk_row (T : TalkC K CT) : ∀ vs H Q E, sp_talk_row K CT vs H Q E → t_talk_row K CT { nx := fun _ H' => Q .non H', rt := Q } (start ["self"] vs) H := by
  rintro vs H Q E ⟨x, l, sts, r, sd, cm, rfl, ⟨dx, xs, hx, hl, hxs⟩, q⟩
  show t_talk_row K CT _ [some (.ref x)] H
  unfold t_talk_row
  obtain ⟨v, a, vr, hat, rfl, hs, hr, hlen⟩ := st_last hxs
  walk_at "w"
  refine w_past T hx ?_ (fun R h => ⟨_, rfl, h⟩)
  walk_at "w"
  refine ⟨1, rfl, ?_⟩
  refine w_ixL (sqL_at hl) hat ?_
  walk_at "w"
  exact q _ hr
theorem sem_talk_eq (T : TalkC K CT) : ∀ vs H Q E, sp_talk_eq K CT vs H Q E → t_talk_eq K CT { nx := fun _ H' => Q .non H', rt := Q } (start ["self", "other"] vs) H := by
  rintro vs H Q E ⟨x, l, y, sts, st, rfl, ⟨dx, xs, hx, hl, hxs⟩, hsh, hq⟩
  show t_talk_eq K CT _ [some (.ref x), some y] H
  unfold t_talk_eq
  walk_at "w"
  rcases hq with ⟨y', l', sts', st', rfl, ⟨dy, ys, hy, hl', hys⟩, hsh', q⟩ | ⟨ds, hd, hk, q⟩
  · refine ⟨.ref y', .ref CT, .ref CT, .ref CT, true, rfl, .own CT, T.ty hy, kit_self, ?_⟩
    obtain ⟨v, a, vr, hat, rfl, hs, hr, _⟩ := st_last hxs
    obtain ⟨v', a', vr', hat', rfl, hs', hr', _⟩ := st_last hys
    walk_at "w"
    refine w_past T hx ?_ (fun R h => ⟨_, rfl, h⟩)
    walk_at "w"
    refine ⟨1, rfl, ?_⟩
    refine w_ixL (sqL_at hl) hat ?_
    walk_at "w"
    refine w_past T hy ?_ (fun R h => ⟨_, rfl, h⟩)
    walk_at "w"
    refine ⟨1, rfl, ?_⟩
    refine w_ixL (sqL_at hl') hat' ?_
    exact ⟨stD st, stD st', .tup hs (.cons hr (.cons (.str _) (.cons (.str _) .nil))), .tup hs' (.cons hr' (.cons (.str _) (.cons (.str _) .nil))), hsh, hsh', q⟩
  · refine ⟨y, .ref CT, .type "tuple", .ref CT, false, rfl, .own CT, ty_of hd, hk, ?_⟩
    walk_at "w"
    exact q
end
section
variable (K : PySem.W.Frag) (CT : Addr)
theorem isWord_len {w : List Nat} (h : WordOk w) : w.length ≤ 200 := h.1
theorem sem_talk_say (T : TalkC K CT) : ∀ vs H Q E, sp_talk_say K CT vs H Q E → t_talk_say K CT { nx := fun _ H' => Q .non H', rt := Q } (start ["self", "word", "row", "said", "came", "heard", "later", "one"] vs) H := by
  rintro vs H Q E ⟨x, l, sts, r, sd, cm, w, rfl, ⟨dx, xs, hx, hl, hxs⟩, hR, hw, hsd, hcm, hst, q⟩
  show t_talk_say K CT _ [some (.ref x), some (.str (tx w)), none, none, none, none, none, none] H
  unfold t_talk_say
  have hro := rok_of hR
  have hrl := hR.1
  have hwl := hw.1
  obtain ⟨v, a, vr, hat, rfl, hs, hr, hlen⟩ := st_last hxs
  walk_at "v"
  refine w_past T hx ?_ (fun R h => ⟨_, rfl, h⟩)
  walk_at "v"
  refine ⟨1, rfl, ?_⟩
  refine w_ixL (sqL_at hl) hat ?_
  refine w_gtup hs rfl ?_
  walk_at "v"
  refine w_ifNo (Same H) (fun QT k => ?_) (fun H1 s1 => ?_)
  · walk_at "v"
    refine ⟨.str (tx w), .str (tx w), rfl, .str _, by show decide ((tx w).length ≤ 10000) = true; rw [tx_len, decide_eq_true (by omega)], fun H1 s1 => ?_⟩
    rw [isWord_of hw]
    walk_at "v"
    exact k _ s1
  have hx1 := s1 _ _ hx
  have hl1 := s1 _ _ hl
  have hr1 := s1.dat hr
  have hxs1 := s1.dpAll _ _ hxs
  walk_at "v"
  refine w_ifNo (Same H1) (fun QT k => ?_) (fun H2 s2 => ?_)
  · walk_at "v"
    refine w_lenW (by show sd.length ≤ _; omega) ?_
    walk_at "v"
    refine w_lenW (by omega) ?_
    walk_at "v"
    rw [bD_f (show ¬ (10000 : Int) < (sd.length : Int) + (w.length : Int) by omega)]
    exact k _ (Same.refl _)
  have s12 := s1.trans s2
  have hx2 := s2 _ _ hx1
  have hl2 := s2 _ _ hl1
  have hr2 := s2.dat hr1
  have hxs2 := s2.dpAll _ _ hxs1
  walk_at "v"
  refine ⟨szOk 0, fun lt nlt => ?_⟩
  walk_at "v"
  have s3 := s12.trans (same_new (o := .lst []) nlt)
  have nlt0 : H lt = none := sm_none3 s12 nlt
  have s23 := same_new (o := .lst []) nlt
  have hlt : upd H2 lt (.lst []) lt = some (.lst []) := upd_same
  have hx3 := s23 _ _ hx2
  have hl3 := s23 _ _ hl2
  have hr3 := s23.dat hr2
  have hxs3 := s23.dpAll _ _ hxs2
  obtain ⟨ar, rs, rfl, hsr, hrs⟩ := dp_tup hr3
  generalize upd H2 lt (.lst []) = H3 at s3 hlt hx3 hl3 hr3 hxs3 hsr hrs ⊢
  clear s23 hx2 hl2 hr2 hxs2 hx1 hl1 hr1 hxs1 s12 s1 s2
  walk_at "v"
  refine for_tup (xs := rs) (fun i σ H' => ∃ (y7 : Option V) (ls : List V), σ = [some (.ref x), some (.str (tx w)), some (.ref ar), some (.str (tx sd)), some (.str (tx cm)), some (.str (tx (comes (r.take i) w))), some (.ref lt), y7] ∧ Same H H' ∧ Tp K H3 H' ∧ H' lt = some (.lst ls) ∧ DpAll K H' ls ((nowR (r.take i) w).map folkD)) ?_ ?_ ?_ ?_
  · exact ⟨_, [], rfl, s3, Tp.refl, hlt, .nil⟩
  · rintro i σ H' hi ⟨y7, ls, rfl, s, tp, _⟩
    exact tp _ _ hsr
  · rintro i v σ H4 hv ⟨y7, ls, rfl, s4, tp4, hlt4, hls4⟩
    obtain ⟨f, hf, dd⟩ := row_get K hrs hv
    have hfok := hR.2 f (List.mem_of_getElem? hf)
    have hfo := fok_of hfok
    have dd4 := tp4.dp _ _ (noL_folk f) dd
    obtain ⟨fa, rfl, hfa⟩ := folk_inv dd4
    have hi4 : i < r.length := by
      have := (List.getElem?_eq_some_iff.mp hf).1
      exact this
    have htk : r.take (i + 1) = r.take i ++ [f] := by rw [List.take_add_one, hf]; rfl
    have hcl : (comes (r.take i) w).length ≤ 3200 := by
      have h1 := comes_len2 (r.take i) w
      have h2 : 2 ^ (r.take i).length ≤ 2 ^ 4 := Nat.pow_le_pow_right (by decide) (by rw [List.length_take]; omega)
      exact Nat.le_trans h1 (Nat.le_trans (Nat.mul_le_mul h2 hwl) (by decide))
    have hll : ls.length ≤ 4 := by
      have := hls4.len
      rw [List.length_map, nowR_len, List.length_take] at this
      omega
    -- what is kept of one, then the next word
    have next : ∀ (D : Ends) (H5 : Hp) (nv : V), Same H H5 → Tp K H3 H5 → Tp K H4 H5 → H5 lt = some (.lst ls) → Dp K H5 nv (folkD (f.now (runOne f f.begun (comes (r.take i) w)).2)) →
        (∀ H' ls', Same H H' → Tp K H3 H' → H' lt = some (.lst ls') → DpAll K H' ls' ((nowR (r.take (i + 1)) w).map folkD) → D.nx [some (.ref x), some (.str (tx w)), some (.ref ar), some (.str (tx sd)), some (.str (tx cm)), some (.str (tx (comes (r.take (i + 1)) w))), some (.ref lt), some (.ref fa)] H') →
        tAsg (tCall (sp_said_by K) [] E0 (tCons (tVar 7) (tCons (tVar 5) tNil))) (gName 5) D [some (.ref x), some (.str (tx w)), some (.ref ar), some (.str (tx sd)), some (.str (tx cm)), some (.str (tx (comes (r.take i) w))), some (.ref lt), some (.ref fa)] (upd H5 lt (.lst (ls ++ [nv]))) := by
      intro D H5 nv s5 tp5 tp45 hlt5 hnv hN
      have mvo : Mv lt H5 (upd H5 lt (.lst (ls ++ [nv]))) := mv_set hlt5
      walk_at "v"
      refine ⟨.ref fa, f, comes (r.take i) w, rfl, mvo.tp.dp _ _ (noL_folk f) (tp45.dp _ _ (noL_folk f) (folk_of hfa)), hfo, by omega, fun H6 s6 => ?_⟩
      walk_at "v"
      rw [← comes_snoc, ← htk]
      refine hN H6 (ls ++ [nv]) ((same_mut s5 nlt0).trans s6) (tp5.trans (mvo.tp.trans s6.tp)) (s6 _ _ upd_same) ?_
      rw [htk, nowR_snoc, List.map_append]
      exact s6.dpAll _ _ ((mvo.tp.dpAll _ _ (noLs_folks _) (tp45.dpAll _ _ (noLs_folks _) hls4)).app (.cons (mvo.tp.dp _ _ (noL_folk _) hnv) .nil))
    walk_at "v"
    refine w_ifS ?_
    walk_at "v"
    cases f with
    | hears ca cb =>
      refine w_ixT hfa rfl ?_
      walk_at "v"
      rw [bD_t rfl]
      refine iteT ?_
      walk_at "v"
      refine w_append hlt4 (szLt _ (by omega)) ?_
      refine next _ H4 (.ref fa) s4 tp4 Tp.refl hlt4 dd4 (fun H' ls' s' t' h1 h2 => ?_)
      exact ⟨_, ls', rfl, s', t', h1, h2⟩
    | ctr tw e c =>
      have hk : ¬ (kindOf tw = ("hears" : Str)) := by cases tw <;> decide +kernel
      have hfo' : 2 ≤ e ∧ e ≤ 6 ∧ c < e := hfo
      refine w_ixT hfa rfl ?_
      walk_at "v"
      rw [bD_f hk]
      refine iteF ?_
      walk_at "v"
      refine w_lenW (by omega) ?_
      walk_at "v"
      refine ⟨szOk 3, fun tn ntn => ?_⟩
      have ec : (runOne (.ctr tw e c) (Folk.begun (.ctr tw e c)) (comes (r.take i) w)).2 = (c + (comes (r.take i) w).length) % e := (run_ctr tw e hfo'.1 c (comes (r.take i) w) c hfo'.2.2).2.1
      have hnew : Dp K (upd H4 tn (.tup [.str (kindOf tw), .int (e : Nat), .int ((((c : Nat) : Int) + ((comes (r.take i) w).length : Nat)) % (e : Nat))])) (.ref tn) (folkD (Folk.now (.ctr tw e c) (runOne (.ctr tw e c) (Folk.begun (.ctr tw e c)) (comes (r.take i) w)).2)) := by
        rw [ec]
        exact folk_of (f := .ctr tw e ((c + (comes (r.take i) w).length) % e)) sqT_new
      have sn := same_new (o := .tup [.str (kindOf tw), .int (e : Nat), .int ((((c : Nat) : Int) + ((comes (r.take i) w).length : Nat)) % (e : Nat))]) ntn
      have hlt5 := sn _ _ hlt4
      walk_at "v"
      refine w_append hlt5 (szLt _ (by omega)) ?_
      refine next _ _ (.ref tn) (s4.trans sn) (tp4.trans sn.tp) sn.tp hlt5 hnew (fun H' ls' s' t' h1 h2 => ?_)
      exact ⟨_, ls', rfl, s', t', h1, h2⟩
  · rintro σ H4 ⟨y7, ls, rfl, s4, tp4, hlt4, hls4⟩
    have hrl2 : rs.length = r.length := by rw [hrs.len, List.length_map]
    rw [hrl2, List.take_length] at hls4 ⊢
    have hcl : (comes r w).length ≤ 3200 := by
      have h1 := comes_len2 r w
      have h2 : 2 ^ r.length ≤ 2 ^ 4 := Nat.pow_le_pow_right (by decide) (by omega)
      exact Nat.le_trans h1 (Nat.le_trans (Nat.mul_le_mul h2 hwl) (by decide))
    have hx4 := s4 _ _ hx
    have hl4 := s4 _ _ hl
    have hxs4 := s4.dpAll _ _ hxs
    walk_at "v"
    refine w_past T hx4 ?_ (fun R h => ⟨_, rfl, h⟩)
    walk_at "v"
    refine w_tupL (sqL_at hlt4) fun tr ntr => ?_
    walk_at "v"
    refine w_addS (szOk _ (by rw [tx_len, tx_len]; omega)) ?_
    rw [tx_app]
    walk_at "v"
    refine w_addS (szOk _ (by rw [tx_len, tx_len]; omega)) ?_
    rw [tx_app]
    walk_at "v"
    refine ⟨szOk 3, fun tt ntt => ?_⟩
    have s5 := (same_new (o := .tup ls) ntr).trans (same_new (o := .tup [.ref tr, .str (tx (sd ++ w)), .str (tx (cm ++ comes r w))]) ntt)
    have hnew : Dp K (upd (upd H4 tr (.tup ls)) tt (.tup [.ref tr, .str (tx (sd ++ w)), .str (tx (cm ++ comes r w))])) (.ref tt) (stD (nowR r w, sd ++ w, cm ++ comes r w)) :=
      .tup sqT_new (.cons ((same_new ntt).dat (.tup sqT_new ((same_new ntr).dpAll _ _ hls4))) (.cons (.str _) (.cons (.str _) .nil)))
    have hx5 := s5 _ _ hx4
    have hl5 := s5 _ _ hl4
    have hxs5 := s5.dpAll _ _ hxs4
    have s6 := s4.trans s5
    generalize upd (upd H4 tr (.tup ls)) tt (.tup [.ref tr, .str (tx (sd ++ w)), .str (tx (cm ++ comes r w))]) = H5 at hnew hx5 hl5 hxs5 s6 ⊢
    walk_at "v"
    refine w_append hl5 (szLt _ (by omega)) ?_
    walk_at "v"
    have mvo : Mv l H5 (upd H5 l (.lst (xs ++ [.ref tt]))) := mv_set hl5
    have nxl : x ≠ l := fun z => by
      rw [z, hl5] at hx5
      cases hx5
    refine q _ ((Mv.of_same s6 hl).trans mvo) ⟨dx, xs ++ [.ref tt], by rw [upd_ne nxl]; exact hx5, upd_same, ?_⟩
    rw [List.map_append]
    exact (mvo.tp.dpAll _ _ (noLs_sts _) hxs5).app (.cons (mvo.tp.dp _ _ (noL_st _) hnew) .nil)
end
end HH

namespace HH
open PySem PySem.Spec L2
local macro_rules | `(tactic| walk_at "cy") => `(tactic| first
  | assumption
  | exact L2.upd_same
  | exact L2.sqL_new
  | exact L2.sqT_new
  | exact L2.sqL_at (by assumption)
  | exact L2.sqT_at (by assumption)
  | (refine' L2.Same.seq (by assumption) ?k0; (case k0 => walk_at "cy"))
  | (refine' L2.Same.sqT (by assumption) ?k0; (case k0 => walk_at "cy"))
  | (refine' L2.Same.dat (by assumption) ?k0; (case k0 => walk_at "cy"))
  | (refine' (by assumption : L2.Same _ _) _ _ ?k0; (case k0 => walk_at "cy"))
  | (refine' L2.Same.seq (L2.same_new (by assumption)) ?k0; (case k0 => walk_at "cy"))
  | (refine' L2.Same.sqT (L2.same_new (by assumption)) ?k0; (case k0 => walk_at "cy"))
  | (refine' L2.Same.dat (L2.same_new (by assumption)) ?k0; (case k0 => walk_at "cy"))
  | (refine' L2.same_new (by assumption) _ _ ?k0; (case k0 => walk_at "cy"))
  | (refine' L2.Mv.sqT (by assumption) ?k0; (case k0 => walk_at "cy")))
local macro_rules | `(tactic| walk_at "w") => `(tactic| repeat (first
  | refine HH.stp ?_
  | with_reducible refine L2.iteT ?_
  | with_reducible refine L2.iteF ?_
  | ((with_reducible refine' HH.w_gtup ?k1 ?k2 ?_); (case k1 => walk_at "cy"); (case k2 => exact rfl))
  | ((with_reducible refine' HH.w_ixT ?k1 ?k2 ?_); (case k1 => walk_at "cy"); (case k2 => exact rfl))
  | ((with_reducible refine' HH.w_ixL ?k1 ?k2 ?_); (case k1 => walk_at "cy"); (case k2 => exact rfl))
  | ((with_reducible refine' HH.w_lenL ?k1 ?_); (case k1 => walk_at "cy"))
  | ((with_reducible refine' HH.w_lenT ?k1 ?_); (case k1 => walk_at "cy"))
  | ((with_reducible refine' HH.w_exT ?k1 ?_); (case k1 => walk_at "cy"))
  | ((with_reducible refine' HH.w_exL ?k1 ?_); (case k1 => walk_at "cy"))
  | ((with_reducible refine' HH.w_tyL ?k1 ?_); (case k1 => walk_at "cy"))
  | ((with_reducible refine' HH.w_setL ?k1 ?k2 ?_); (case k1 => walk_at "cy"); (case k2 => exact rfl))
  | ((with_reducible refine' HH.w_modI ?k1 ?_); (case k1 => first | (with_reducible assumption) | omega))
  | ((with_reducible refine' HH.w_divI ?k1 ?_); (case k1 => (constructor <;> omega)))))
local macro_rules | `(tactic| walk_at "v") => `(tactic| ((repeat ((fail_if_success (with_reducible refine HH.isIf ?_)); first
  | refine HH.stp ?_
  | with_reducible refine L2.iteT ?_
  | with_reducible refine L2.iteF ?_
  | ((with_reducible refine' HH.w_gtup ?k1 ?k2 ?_); (case k1 => walk_at "cy"); (case k2 => exact rfl))
  | ((with_reducible refine' HH.w_ixT ?k1 ?k2 ?_); (case k1 => walk_at "cy"); (case k2 => exact rfl))
  | ((with_reducible refine' HH.w_ixL ?k1 ?k2 ?_); (case k1 => walk_at "cy"); (case k2 => exact rfl))
  | ((with_reducible refine' HH.w_lenL ?k1 ?_); (case k1 => walk_at "cy"))
  | ((with_reducible refine' HH.w_lenT ?k1 ?_); (case k1 => walk_at "cy"))
  | ((with_reducible refine' HH.w_exT ?k1 ?_); (case k1 => walk_at "cy"))
  | ((with_reducible refine' HH.w_exL ?k1 ?_); (case k1 => walk_at "cy"))
  | ((with_reducible refine' HH.w_tyL ?k1 ?_); (case k1 => walk_at "cy"))
  | ((with_reducible refine' HH.w_setL ?k1 ?k2 ?_); (case k1 => walk_at "cy"); (case k2 => exact rfl))
  | ((with_reducible refine' HH.w_modI ?k1 ?_); (case k1 => first | (with_reducible assumption) | omega))
  | ((with_reducible refine' HH.w_divI ?k1 ?_); (case k1 => (constructor <;> omega)))))); (try (with_reducible refine HH.isIf ?_)))
def xname : Fin 9 → Str := fun i => ["NoRow", "NoWord", "NoLetter", "NoMany", "NoOne", "NoPlace", "NoPairs", "TooLong", "NothingLeft"].getD i.val ""
def kinV : Option (Fin 9) → List V
  | none => []
  | some i => [.str (xname i), .bl true]
def tTryN (K : PySem.W.Frag) (C : XCls) (i : Nat) (tb : WX → TS) (ts : Addr → Value → Option Addr → TS) : TS := fun D σ H => tb (wAs K (.ref C.talk) i ts (fun _ _ _ _ => False) D) D σ H
def sp_l_refused (_ : PySem.W.Frag) (C : XCls) (S : Addr → Option Sp) (SL : LamT → Sp → Prop) : Sp := fun vs H Q _ => ∃ (f : Addr) (o1 o2 o3 : V) (sp : Sp) (r : Option (Fin 9)) (Φ : Hp → Prop), vs = [.ref f, o1, o2, o3] ∧
  (S f = some sp ∨ ∃ (lt : LamT) (c : Addr), SL lt sp ∧ H f = some (LamO f lt c) ∧ H c = some (LamX.CodeO c lt.q)) ∧ (∀ i, r = some i → C.ok i = true) ∧
  (∀ (H1 : Hp) (p0 : Addr) (Q' : VK) (E' : XK), Same H H1 → H p0 = none → H1 p0 = some (.lst []) → (∀ i, r = some i → ∀ H2, Φ H2 → E' (.ref (C.c i)) none H2) → (r = none → ∀ v H2, Φ H2 → H2 p0 = some (.lst []) → Q' v H2) → sp [o1, o2, o3] H1 Q' E') ∧
  (∀ H1 H2, Φ H1 → Same H1 H2 → Φ H2) ∧
  ∀ (p : Addr) H', Φ H' → H' p = some (.lst (kinV r)) → Q (.ref p) H'
theorem len_l_refused (K : PySem.W.Frag) (C : XCls) (S : Addr → Option Sp) (SL : LamT → Sp → Prop) : ∀ vs H Q E, sp_l_refused K C S SL vs H Q E → vs.length = 4 := by rintro _ _ _ _ ⟨_, _, _, _, _, _, _, rfl, _⟩; rfl
instance i_raise {c : Addr} {E : XK} {D : Ends} {σ : L2.St} {H : Hp} : Stp (tRaise c E D σ H) (E (.ref c) none H) := ⟨fun h => h⟩
theorem w_callL2 {i : Nat} {S : Addr → Option Sp} {SL : LamT → Sp → Prop} {W : WX} {t : TA} {σ : L2.St} {H : Hp} {Q : VK} {f : Addr} {sp : Sp} {vs : List V} (h : σ[i]? = some (some (.ref f)))
    (hS : S f = some sp ∨ ∃ (lt : LamT) (c : Addr), SL lt sp ∧ H f = some (LamO f lt c) ∧ H c = some (LamX.CodeO c lt.q)) (ht : ∀ R : List V → Hp → Prop, R vs H → t σ H R) (q : sp vs H Q (fun c d H' => W c d σ H')) : tCallL2 i S SL W t σ H Q := by
  refine ⟨f, h, ?_⟩
  rcases hS with hS | ⟨lt, c, h1, h2, h3⟩
  · exact .inl ⟨sp, hS, ht _ q⟩
  · exact .inr ⟨lt, c, sp, h1, h2, ht _ ⟨h2, h3, q⟩⟩
section
variable (K : PySem.W.Frag) (CT : Addr)
def sp_talk_said : Sp := fun vs H Q _ => ∃ (x l : Addr) (sts : List State) (r : Row) (sd cm : List Nat), vs = [.ref x] ∧ TkAt K CT x l H (sts ++ [(r, sd, cm)]) ∧ sd.length ≤ 1000000 ∧ Q (.int (sd.length : Nat)) H
def sp_talk_came : Sp := fun vs H Q _ => ∃ (x l : Addr) (sts : List State) (r : Row) (sd cm : List Nat), vs = [.ref x] ∧ TkAt K CT x l H (sts ++ [(r, sd, cm)]) ∧ cm.length ≤ 1000000 ∧ Q (.int (cm.length : Nat)) H
def sp_talk_len : Sp := fun vs H Q _ => ∃ (x l : Addr) (sts : List State) (n : Nat), vs = [.ref x] ∧ TkAt K CT x l H sts ∧ sts.length = n + 1 ∧ ∀ H', Same H H' → Q (.int (n : Nat)) H'
/-- say, where it refuses -/
def sp_talk_sayX (C : XCls) : Sp := fun vs H _ E => ∃ (x l : Addr) (sts : List State) (r : Row) (sd cm : List Nat) (y : V) (d : PyData), vs = [.ref x, y] ∧ TkAt K CT x l H (sts ++ [(r, sd, cm)]) ∧ Dp K H y d ∧ fitD d = true ∧
  ((isWordD d = false ∧ ∀ H', Same H H' → E (.ref (C.c 1)) none H') ∨ (∃ w, y = .str (tx w) ∧ d = .str (tx w) ∧ WordOk w ∧ 10000 < sd.length + w.length ∧ sd.length ≤ 1000000 ∧ ∀ H', Same H H' → E (.ref (C.c 7)) none H'))
theorem len_talk_said : ∀ vs H Q E, sp_talk_said K CT vs H Q E → vs.length = 1 := by rintro _ _ _ _ ⟨_, _, _, _, _, _, rfl, _⟩; rfl
theorem len_talk_came : ∀ vs H Q E, sp_talk_came K CT vs H Q E → vs.length = 1 := by rintro _ _ _ _ ⟨_, _, _, _, _, _, rfl, _⟩; rfl
theorem len_talk_len : ∀ vs H Q E, sp_talk_len K CT vs H Q E → vs.length = 1 := by rintro _ _ _ _ ⟨_, _, _, _, rfl, _⟩; rfl
theorem len_talk_sayX (C : XCls) : ∀ vs H Q E, sp_talk_sayX K CT C vs H Q E → vs.length = 2 := by rintro _ _ _ _ ⟨_, _, _, _, _, _, _, _, rfl, _⟩; rfl
end
def t_l_refused (K : PySem.W.Frag) (C : XCls) (S : Addr → Option Sp) (SL : LamT → Sp → Prop) : TS :=
  (tSeq (tAsg (tLst tNil) (gName 4))
  (tSeq (tTryN K C 5 (fun W => (tDrop (tCallL2 0 S SL W (tCons (tVar 1) (tCons (tVar 2) (tCons (tVar 3) tNil))))))
  (fun a cls d => (tSeq (tAsg (tLst (tCons (tTup (tCons (tC (.str "NoRow")) (tCons (tCB (rIsN K C.in cls d a) (tCons (tVar 5) (tCons (tC (.ref (C.c 0))) tNil))) tNil))) (tCons (tTup (tCons (tC (.str "NoWord")) (tCons (tCB (rIsN K C.in cls d a) (tCons (tVar 5) (tCons (tC (.ref (C.c 1))) tNil))) tNil))) tNil))) (gName 6))
  (tSeq (tAsg (tOp rCat (tVar 6) (tLst (tCons (tTup (tCons (tC (.str "NoLetter")) (tCons (tCB (rIsN K C.in cls d a) (tCons (tVar 5) (tCons (tC (.ref (C.c 2))) tNil))) tNil))) tNil))) (gName 6))
  (tSeq (tAsg (tOp rCat (tVar 6) (tLst (tCons (tTup (tCons (tC (.str "NoMany")) (tCons (tCB (rIsN K C.in cls d a) (tCons (tVar 5) (tCons (tC (.ref (C.c 3))) tNil))) tNil))) (tCons (tTup (tCons (tC (.str "NoOne")) (tCons (tCB (rIsN K C.in cls d a) (tCons (tVar 5) (tCons (tC (.ref (C.c 4))) tNil))) tNil))) tNil)))) (gName 6))
  (tSeq (tAsg (tOp rCat (tVar 6) (tLst (tCons (tTup (tCons (tC (.str "NoPlace")) (tCons (tCB (rIsN K C.in cls d a) (tCons (tVar 5) (tCons (tC (.ref (C.c 5))) tNil))) tNil))) (tCons (tTup (tCons (tC (.str "NoPairs")) (tCons (tCB (rIsN K C.in cls d a) (tCons (tVar 5) (tCons (tC (.ref (C.c 6))) tNil))) tNil))) tNil)))) (gName 6))
  (tSeq (tAsg (tOp rCat (tVar 6) (tLst (tCons (tTup (tCons (tC (.str "TooLong")) (tCons (tCB (rIsN K C.in cls d a) (tCons (tVar 5) (tCons (tC (.ref (C.c 7))) tNil))) tNil))) (tCons (tTup (tCons (tC (.str "NothingLeft")) (tCons (tCB (rIsN K C.in cls d a) (tCons (tVar 5) (tCons (tC (.ref (C.c 8))) tNil))) tNil))) tNil)))) (gName 6))
  (tAsg (tOp rCat (tLc (iList K (tVar 6)) (gTup K 2 (gCons (gName 7) (gCons (gName 8) gNil))) (tB (tVar 8)) (tVar 7) [7, 8]) (tLst (tCons (tCB (rIsN K C.in cls d a) (tCons (tVar 5) (tCons (tC (.ty "ValueError")) tNil))) tNil))) (gName 4)))))))))
  (tRet (tVar 4))))

def t_talk_said (K : PySem.W.Frag) (CT : Addr) : TS :=
  (tRet (tCB rLenT (tCons (tOp (rIxT K) (tOp (rIxL K) (tFld K (tVar 0) "past") (tUn (rU fun i => .int (-i)) (tC (.int 1)))) (tC (.int 1))) tNil)))

def t_talk_came (K : PySem.W.Frag) (CT : Addr) : TS :=
  (tRet (tCB rLenT (tCons (tOp (rIxT K) (tOp (rIxL K) (tFld K (tVar 0) "past") (tUn (rU fun i => .int (-i)) (tC (.int 1)))) (tC (.int 2))) tNil)))

def t_talk_len (K : PySem.W.Frag) (CT : Addr) : TS :=
  (tRet (tCB (rLenQ K) (tCons (tSl (rSlL K) (tFld K (tVar 0) "past") (tPart (tC (.int 1))) tNoPart) tNil)))

def t_talk_sayX (K : PySem.W.Frag) (C : XCls) (CT : Addr) (E : XK) : TS :=
  (tSeq (tAsg (tOp (rIxL K) (tFld K (tVar 0) "past") (tUn (rU fun i => .int (-i)) (tC (.int 1)))) (gTup K 3 (gCons (gName 2) (gCons (gName 3) (gCons (gName 4) gNil)))))
  (tSeq (tIfS (tNot (tB (tCall (sp_is_word K) [] E0 (tCons (tVar 1) tNil)))) (tRaise (C.c 1) E) tNext)
  (tSeq (tIfS (tTest (tOp rGtI (tOp rAddI (tCB rLenT (tCons (tVar 3) tNil)) (tCB rLenT (tCons (tVar 1) tNil))) (tC (.int 10000)))) (tRaise (C.c 7) E) tNext)
  (tSeq (tPar 5 6 (tCons (tVar 1) (tCons (tLst tNil) tNil)))
  (tSeq (tFor (iTup K (tVar 2)) (gName 7)
  (tSeq (tIfS (tTest (tOp rEq (tOp (rIxT K) (tVar 7) (tC (.int 0))) (tC (.str "hears")))) (tDrop (tBM K "list" rAppend (tVar 6) (tCons (tVar 7) tNil))) (tDrop (tBM K "list" rAppend (tVar 6) (tCons (tTup (tCons (tOp (rIxT K) (tVar 7) (tC (.int 0))) (tCons (tOp (rIxT K) (tVar 7) (tC (.int 1))) (tCons (tOp rModI (tOp rAddI (tOp (rIxT K) (tVar 7) (tC (.int 2))) (tCB rLenT (tCons (tVar 5) tNil))) (tOp (rIxT K) (tVar 7) (tC (.int 1)))) tNil)))) tNil))))
  (tAsg (tCall (sp_said_by K) [] E0 (tCons (tVar 7) (tCons (tVar 5) tNil))) (gName 5))))
  (tSeq (tDrop (tBM K "list" rAppend (tFld K (tVar 0) "past") (tCons (tTup (tCons (tCB (rTupQ K) (tCons (tVar 6) tNil)) (tCons (tOp rAddS (tVar 3) (tVar 1)) (tCons (tOp rAddS (tVar 4) (tVar 5)) tNil)))) tNil)))
  (tRet (tVar 5))))))))

theorem sm_none' {H H' : Hp} {p : Addr} (s : Same H H') (h : H' p = none) : H p = none := by
  cases e : H p with
  | none => rfl
  | some o => rw [s p o e] at h; cases h
section
variable (K : PySem.W.Frag) (C : XCls) (S : Addr → Option Sp) (SL : LamT → Sp → Prop)
theorem w_tryN {i : Nat} {tb : WX → TS} {ts : Addr → Value → Option Addr → TS} {D : Ends} {σ : L2.St} {H : Hp} (h : tb (wAs K (.ref C.talk) i ts (fun _ _ _ _ => False) D) D σ H) : tTryN K C i tb ts D σ H := h
theorem sem_l_refused (T : XOk K C) : ∀ vs H Q E, sp_l_refused K C S SL vs H Q E → t_l_refused K C S SL { nx := fun _ H' => Q .non H', rt := Q } (start ["call", "one", "two", "three", "kin", "e", "words", "word", "there"] vs) H := by
  rintro vs H Q E ⟨f, o1, o2, o3, sp, r, Φ, rfl, hS, hok, hcall, hΦ, q⟩
  show t_l_refused K C S SL _ [some (.ref f), some o1, some o2, some o3, none, none, none, none, none] H
  unfold t_l_refused
  walk_at "v"
  refine ⟨szOk 0, fun p0 n0 => ?_⟩
  walk_at "v"
  refine w_tryN K C ?_
  walk_at "v"
  refine w_callL2 (vs := [o1, o2, o3]) rfl (hS.imp id fun ⟨lt, c, h1, h2, h3⟩ => ⟨lt, c, h1, same_new n0 _ _ h2, same_new n0 _ _ h3⟩) (fun R h => ?_) ?_
  · walk_at "v"
    exact h
  refine hcall _ p0 _ _ (same_new n0) n0 upd_same (fun i hi H2 φ2 => ?_) (fun hr v H2 φ2 hp0 => ?_)
  · have hiok := hok i hi
    subst hi
    refine ⟨true, T.em i hiok, fun _ a na => ?_, fun z => by cases z⟩
    show tSeq _ _ _ [some (.ref f), some o1, some o2, some o3, some (.ref p0), some (.ref a), none, none, none] H2
    have s02 : Same H2 H2 := Same.refl H2
    walk_at "v"
    refine w_isN T (j := 0) hiok ?_
    walk_at "v"
    refine ⟨szOk 2, fun t0 m0 => ?_⟩
    have c0 := same_new (o := (.tup [.str "NoRow", .bl (decide (i = 0))])) m0
    have e0 : upd H2 t0 (.tup [.str "NoRow", .bl (decide (i = 0))]) t0 = some (.tup [.str "NoRow", .bl (decide (i = 0))]) := upd_same
    replace s02 := s02.trans c0
    generalize upd H2 t0 (.tup [.str "NoRow", .bl (decide (i = 0))]) = X0 at c0 s02 e0 ⊢
    walk_at "v"
    refine w_isN T (j := 1) hiok ?_
    walk_at "v"
    refine ⟨szOk 2, fun t1 m1 => ?_⟩
    have c1 := same_new (o := (.tup [.str "NoWord", .bl (decide (i = 1))])) m1
    have e1 : upd X0 t1 (.tup [.str "NoWord", .bl (decide (i = 1))]) t1 = some (.tup [.str "NoWord", .bl (decide (i = 1))]) := upd_same
    replace e0 := c1 _ _ e0
    replace s02 := s02.trans c1
    generalize upd X0 t1 (.tup [.str "NoWord", .bl (decide (i = 1))]) = X1 at c1 s02 e0 e1 ⊢
    walk_at "v"
    refine ⟨szOk 2, fun l1 r1 => ?_⟩
    have d1 := same_new (o := (.lst [.ref t0, .ref t1])) r1
    replace e0 := d1 _ _ e0
    replace e1 := d1 _ _ e1
    replace s02 := s02.trans d1
    have hw : upd X1 l1 (.lst [.ref t0, .ref t1]) l1 = some (.lst [.ref t0, .ref t1]) := upd_same
    generalize upd X1 l1 (.lst [.ref t0, .ref t1]) = Y1 at d1 s02 hw e0 e1 ⊢
    walk_at "v"
    walk_at "v"
    refine w_isN T (j := 2) hiok ?_
    walk_at "v"
    refine ⟨szOk 2, fun t2 m2 => ?_⟩
    have c2 := same_new (o := (.tup [.str "NoLetter", .bl (decide (i = 2))])) m2
    have e2 : upd Y1 t2 (.tup [.str "NoLetter", .bl (decide (i = 2))]) t2 = some (.tup [.str "NoLetter", .bl (decide (i = 2))]) := upd_same
    replace e0 := c2 _ _ e0
    replace e1 := c2 _ _ e1
    replace hw := c2 _ _ hw
    replace s02 := s02.trans c2
    generalize upd Y1 t2 (.tup [.str "NoLetter", .bl (decide (i = 2))]) = X2 at c2 s02 e0 e1 e2 hw ⊢
    walk_at "v"
    refine ⟨szOk 1, fun l2 r2 => ?_⟩
    have d2 := same_new (o := (.lst [.ref t2])) r2
    replace e0 := d2 _ _ e0
    replace e1 := d2 _ _ e1
    replace e2 := d2 _ _ e2
    replace s02 := s02.trans d2
    replace hw := d2 _ _ hw
    have hn2 : upd X2 l2 (.lst [.ref t2]) l2 = some (.lst [.ref t2]) := upd_same
    generalize upd X2 l2 (.lst [.ref t2]) = Z2 at d2 s02 hw hn2 e0 e1 e2 ⊢
    refine w_cat hw hn2 (szOk 3) fun u2 v2 => ?_
    walk_at "v"
    have f2 := same_new (o := (.lst ([.ref t0, .ref t1] ++ [.ref t2]))) v2
    replace e0 := f2 _ _ e0
    replace e1 := f2 _ _ e1
    replace e2 := f2 _ _ e2
    replace s02 := s02.trans f2
    replace hw : upd Z2 u2 (.lst ([.ref t0, .ref t1] ++ [.ref t2])) u2 = some (.lst [.ref t0, .ref t1, .ref t2]) := upd_same
    generalize upd Z2 u2 (.lst ([.ref t0, .ref t1] ++ [.ref t2])) = Y2 at f2 s02 hw e0 e1 e2 ⊢
    walk_at "v"
    walk_at "v"
    refine w_isN T (j := 3) hiok ?_
    walk_at "v"
    refine ⟨szOk 2, fun t3 m3 => ?_⟩
    have c3 := same_new (o := (.tup [.str "NoMany", .bl (decide (i = 3))])) m3
    have e3 : upd Y2 t3 (.tup [.str "NoMany", .bl (decide (i = 3))]) t3 = some (.tup [.str "NoMany", .bl (decide (i = 3))]) := upd_same
    replace e0 := c3 _ _ e0
    replace e1 := c3 _ _ e1
    replace e2 := c3 _ _ e2
    replace hw := c3 _ _ hw
    replace s02 := s02.trans c3
    generalize upd Y2 t3 (.tup [.str "NoMany", .bl (decide (i = 3))]) = X3 at c3 s02 e0 e1 e2 e3 hw ⊢
    walk_at "v"
    refine w_isN T (j := 4) hiok ?_
    walk_at "v"
    refine ⟨szOk 2, fun t4 m4 => ?_⟩
    have c4 := same_new (o := (.tup [.str "NoOne", .bl (decide (i = 4))])) m4
    have e4 : upd X3 t4 (.tup [.str "NoOne", .bl (decide (i = 4))]) t4 = some (.tup [.str "NoOne", .bl (decide (i = 4))]) := upd_same
    replace e0 := c4 _ _ e0
    replace e1 := c4 _ _ e1
    replace e2 := c4 _ _ e2
    replace e3 := c4 _ _ e3
    replace hw := c4 _ _ hw
    replace s02 := s02.trans c4
    generalize upd X3 t4 (.tup [.str "NoOne", .bl (decide (i = 4))]) = X4 at c4 s02 e0 e1 e2 e3 e4 hw ⊢
    walk_at "v"
    refine ⟨szOk 2, fun l4 r4 => ?_⟩
    have d4 := same_new (o := (.lst [.ref t3, .ref t4])) r4
    replace e0 := d4 _ _ e0
    replace e1 := d4 _ _ e1
    replace e2 := d4 _ _ e2
    replace e3 := d4 _ _ e3
    replace e4 := d4 _ _ e4
    replace s02 := s02.trans d4
    replace hw := d4 _ _ hw
    have hn4 : upd X4 l4 (.lst [.ref t3, .ref t4]) l4 = some (.lst [.ref t3, .ref t4]) := upd_same
    generalize upd X4 l4 (.lst [.ref t3, .ref t4]) = Z4 at d4 s02 hw hn4 e0 e1 e2 e3 e4 ⊢
    refine w_cat hw hn4 (szOk 5) fun u4 v4 => ?_
    walk_at "v"
    have f4 := same_new (o := (.lst ([.ref t0, .ref t1, .ref t2] ++ [.ref t3, .ref t4]))) v4
    replace e0 := f4 _ _ e0
    replace e1 := f4 _ _ e1
    replace e2 := f4 _ _ e2
    replace e3 := f4 _ _ e3
    replace e4 := f4 _ _ e4
    replace s02 := s02.trans f4
    replace hw : upd Z4 u4 (.lst ([.ref t0, .ref t1, .ref t2] ++ [.ref t3, .ref t4])) u4 = some (.lst [.ref t0, .ref t1, .ref t2, .ref t3, .ref t4]) := upd_same
    generalize upd Z4 u4 (.lst ([.ref t0, .ref t1, .ref t2] ++ [.ref t3, .ref t4])) = Y4 at f4 s02 hw e0 e1 e2 e3 e4 ⊢
    walk_at "v"
    walk_at "v"
    refine w_isN T (j := 5) hiok ?_
    walk_at "v"
    refine ⟨szOk 2, fun t5 m5 => ?_⟩
    have c5 := same_new (o := (.tup [.str "NoPlace", .bl (decide (i = 5))])) m5
    have e5 : upd Y4 t5 (.tup [.str "NoPlace", .bl (decide (i = 5))]) t5 = some (.tup [.str "NoPlace", .bl (decide (i = 5))]) := upd_same
    replace e0 := c5 _ _ e0
    replace e1 := c5 _ _ e1
    replace e2 := c5 _ _ e2
    replace e3 := c5 _ _ e3
    replace e4 := c5 _ _ e4
    replace hw := c5 _ _ hw
    replace s02 := s02.trans c5
    generalize upd Y4 t5 (.tup [.str "NoPlace", .bl (decide (i = 5))]) = X5 at c5 s02 e0 e1 e2 e3 e4 e5 hw ⊢
    walk_at "v"
    refine w_isN T (j := 6) hiok ?_
    walk_at "v"
    refine ⟨szOk 2, fun t6 m6 => ?_⟩
    have c6 := same_new (o := (.tup [.str "NoPairs", .bl (decide (i = 6))])) m6
    have e6 : upd X5 t6 (.tup [.str "NoPairs", .bl (decide (i = 6))]) t6 = some (.tup [.str "NoPairs", .bl (decide (i = 6))]) := upd_same
    replace e0 := c6 _ _ e0
    replace e1 := c6 _ _ e1
    replace e2 := c6 _ _ e2
    replace e3 := c6 _ _ e3
    replace e4 := c6 _ _ e4
    replace e5 := c6 _ _ e5
    replace hw := c6 _ _ hw
    replace s02 := s02.trans c6
    generalize upd X5 t6 (.tup [.str "NoPairs", .bl (decide (i = 6))]) = X6 at c6 s02 e0 e1 e2 e3 e4 e5 e6 hw ⊢
    walk_at "v"
    refine ⟨szOk 2, fun l6 r6 => ?_⟩
    have d6 := same_new (o := (.lst [.ref t5, .ref t6])) r6
    replace e0 := d6 _ _ e0
    replace e1 := d6 _ _ e1
    replace e2 := d6 _ _ e2
    replace e3 := d6 _ _ e3
    replace e4 := d6 _ _ e4
    replace e5 := d6 _ _ e5
    replace e6 := d6 _ _ e6
    replace s02 := s02.trans d6
    replace hw := d6 _ _ hw
    have hn6 : upd X6 l6 (.lst [.ref t5, .ref t6]) l6 = some (.lst [.ref t5, .ref t6]) := upd_same
    generalize upd X6 l6 (.lst [.ref t5, .ref t6]) = Z6 at d6 s02 hw hn6 e0 e1 e2 e3 e4 e5 e6 ⊢
    refine w_cat hw hn6 (szOk 7) fun u6 v6 => ?_
    walk_at "v"
    have f6 := same_new (o := (.lst ([.ref t0, .ref t1, .ref t2, .ref t3, .ref t4] ++ [.ref t5, .ref t6]))) v6
    replace e0 := f6 _ _ e0
    replace e1 := f6 _ _ e1
    replace e2 := f6 _ _ e2
    replace e3 := f6 _ _ e3
    replace e4 := f6 _ _ e4
    replace e5 := f6 _ _ e5
    replace e6 := f6 _ _ e6
    replace s02 := s02.trans f6
    replace hw : upd Z6 u6 (.lst ([.ref t0, .ref t1, .ref t2, .ref t3, .ref t4] ++ [.ref t5, .ref t6])) u6 = some (.lst [.ref t0, .ref t1, .ref t2, .ref t3, .ref t4, .ref t5, .ref t6]) := upd_same
    generalize upd Z6 u6 (.lst ([.ref t0, .ref t1, .ref t2, .ref t3, .ref t4] ++ [.ref t5, .ref t6])) = Y6 at f6 s02 hw e0 e1 e2 e3 e4 e5 e6 ⊢
    walk_at "v"
    walk_at "v"
    refine w_isN T (j := 7) hiok ?_
    walk_at "v"
    refine ⟨szOk 2, fun t7 m7 => ?_⟩
    have c7 := same_new (o := (.tup [.str "TooLong", .bl (decide (i = 7))])) m7
    have e7 : upd Y6 t7 (.tup [.str "TooLong", .bl (decide (i = 7))]) t7 = some (.tup [.str "TooLong", .bl (decide (i = 7))]) := upd_same
    replace e0 := c7 _ _ e0
    replace e1 := c7 _ _ e1
    replace e2 := c7 _ _ e2
    replace e3 := c7 _ _ e3
    replace e4 := c7 _ _ e4
    replace e5 := c7 _ _ e5
    replace e6 := c7 _ _ e6
    replace hw := c7 _ _ hw
    replace s02 := s02.trans c7
    generalize upd Y6 t7 (.tup [.str "TooLong", .bl (decide (i = 7))]) = X7 at c7 s02 e0 e1 e2 e3 e4 e5 e6 e7 hw ⊢
    walk_at "v"
    refine w_isN T (j := 8) hiok ?_
    walk_at "v"
    refine ⟨szOk 2, fun t8 m8 => ?_⟩
    have c8 := same_new (o := (.tup [.str "NothingLeft", .bl (decide (i = 8))])) m8
    have e8 : upd X7 t8 (.tup [.str "NothingLeft", .bl (decide (i = 8))]) t8 = some (.tup [.str "NothingLeft", .bl (decide (i = 8))]) := upd_same
    replace e0 := c8 _ _ e0
    replace e1 := c8 _ _ e1
    replace e2 := c8 _ _ e2
    replace e3 := c8 _ _ e3
    replace e4 := c8 _ _ e4
    replace e5 := c8 _ _ e5
    replace e6 := c8 _ _ e6
    replace e7 := c8 _ _ e7
    replace hw := c8 _ _ hw
    replace s02 := s02.trans c8
    generalize upd X7 t8 (.tup [.str "NothingLeft", .bl (decide (i = 8))]) = X8 at c8 s02 e0 e1 e2 e3 e4 e5 e6 e7 e8 hw ⊢
    walk_at "v"
    refine ⟨szOk 2, fun l8 r8 => ?_⟩
    have d8 := same_new (o := (.lst [.ref t7, .ref t8])) r8
    replace e0 := d8 _ _ e0
    replace e1 := d8 _ _ e1
    replace e2 := d8 _ _ e2
    replace e3 := d8 _ _ e3
    replace e4 := d8 _ _ e4
    replace e5 := d8 _ _ e5
    replace e6 := d8 _ _ e6
    replace e7 := d8 _ _ e7
    replace e8 := d8 _ _ e8
    replace s02 := s02.trans d8
    replace hw := d8 _ _ hw
    have hn8 : upd X8 l8 (.lst [.ref t7, .ref t8]) l8 = some (.lst [.ref t7, .ref t8]) := upd_same
    generalize upd X8 l8 (.lst [.ref t7, .ref t8]) = Z8 at d8 s02 hw hn8 e0 e1 e2 e3 e4 e5 e6 e7 e8 ⊢
    refine w_cat hw hn8 (szOk 9) fun u8 v8 => ?_
    walk_at "v"
    have f8 := same_new (o := (.lst ([.ref t0, .ref t1, .ref t2, .ref t3, .ref t4, .ref t5, .ref t6] ++ [.ref t7, .ref t8]))) v8
    replace e0 := f8 _ _ e0
    replace e1 := f8 _ _ e1
    replace e2 := f8 _ _ e2
    replace e3 := f8 _ _ e3
    replace e4 := f8 _ _ e4
    replace e5 := f8 _ _ e5
    replace e6 := f8 _ _ e6
    replace e7 := f8 _ _ e7
    replace e8 := f8 _ _ e8
    replace s02 := s02.trans f8
    replace hw : upd Z8 u8 (.lst ([.ref t0, .ref t1, .ref t2, .ref t3, .ref t4, .ref t5, .ref t6] ++ [.ref t7, .ref t8])) u8 = some (.lst [.ref t0, .ref t1, .ref t2, .ref t3, .ref t4, .ref t5, .ref t6, .ref t7, .ref t8]) := upd_same
    generalize upd Z8 u8 (.lst ([.ref t0, .ref t1, .ref t2, .ref t3, .ref t4, .ref t5, .ref t6] ++ [.ref t7, .ref t8])) = Y8 at f8 s02 hw e0 e1 e2 e3 e4 e5 e6 e7 e8 ⊢
    have mem : ∀ (k : Nat) (v : V), [V.ref t0, .ref t1, .ref t2, .ref t3, .ref t4, .ref t5, .ref t6, .ref t7, .ref t8][k]? = some v → ∃ (j : Fin 9) (b : Addr), j.val = k ∧ v = .ref b ∧ Y8 b = some (.tup [.str (xname j), .bl (decide (i = j))]) := fun k v hk => by
      match k, hk with
      | 0, h => cases h; exact ⟨0, t0, rfl, rfl, e0⟩
      | 1, h => cases h; exact ⟨1, t1, rfl, rfl, e1⟩
      | 2, h => cases h; exact ⟨2, t2, rfl, rfl, e2⟩
      | 3, h => cases h; exact ⟨3, t3, rfl, rfl, e3⟩
      | 4, h => cases h; exact ⟨4, t4, rfl, rfl, e4⟩
      | 5, h => cases h; exact ⟨5, t5, rfl, rfl, e5⟩
      | 6, h => cases h; exact ⟨6, t6, rfl, rfl, e6⟩
      | 7, h => cases h; exact ⟨7, t7, rfl, rfl, e7⟩
      | 8, h => cases h; exact ⟨8, t8, rfl, rfl, e8⟩
      | k + 9, h => cases h
    clear e0 e1 e2 e3 e4 e5 e6 e7 e8
    have hxl : [V.ref t0, .ref t1, .ref t2, .ref t3, .ref t4, .ref t5, .ref t6, .ref t7, .ref t8].length = 9 := rfl
    generalize [V.ref t0, .ref t1, .ref t2, .ref t3, .ref t4, .ref t5, .ref t6, .ref t7, .ref t8] = xs at hw mem hxl
    walk_at "v"
    intro D nD
    refine lc_same (walk_list (K := K) (a := u8) (xs := xs)) nD [some (.ref f), some o1, some o2, some o3, some (.ref p0), some (.ref a), some (.ref u8), none, none] rfl (fun k => if i.val < k then [.str (xname i)] else []) rfl (fun H3 s => s.seq (sqL_at hw)) (fun k v H3 H3' hk z yy => ?_) (fun H3 s3 hD => ?_)
    · obtain ⟨rfl, hv⟩ := yy
      obtain ⟨j, b, hj, rfl, hb⟩ := mem k v hv
      walk_at "w"
      refine w_gtup (sqT_at (z.1 _ _ hb)) rfl ?_
      walk_at "w"
      refine ⟨rfl, ?_⟩
      walk_at "w"
      refine w_ifB (fun e => ?_) (fun e => ?_)
      · have e' : i = j := of_decide_eq_true e
        walk_at "w"
        refine lc_put nD z (Same.refl _) (szLt _ ?_) ?_
        · show (if i.val < k then [V.str (xname i)] else []).length < 10000000
          split
          · show 1 < 10000000; decide
          · show 0 < 10000000; decide
        · show (if i.val < k + 1 then [V.str (xname i)] else []) = (if i.val < k then [V.str (xname i)] else []) ++ [.str (xname j)]
          rw [if_pos (by rw [e']; omega), if_neg (by rw [e']; omega), e']
          rfl
      · have e' : ¬ i = j := of_decide_eq_false e
        refine lc_skip z (Same.refl _) ?_
        show (if i.val < k + 1 then [V.str (xname i)] else []) = (if i.val < k then [V.str (xname i)] else [])
        have : i.val ≠ k := fun h => e' (Fin.ext (h.trans hj.symm))
        by_cases h : i.val < k
        · rw [if_pos h, if_pos (by omega)]
        · rw [if_neg h, if_neg (by omega)]
    · rw [hxl, if_pos i.isLt] at hD
      walk_at "w"
      refine w_isNV T hiok ?_
      walk_at "w"
      refine ⟨szOk 1, fun l r => ?_⟩
      refine w_cat ((same_new r) _ _ hD) upd_same (szOk 2) fun u v => ?_
      walk_at "w"
      refine ⟨_, rfl, ?_⟩
      exact q _ _ (hΦ _ _ φ2 (s02.trans (s3.trans ((same_new r).trans (same_new v))))) upd_same
  · subst hr
    walk_at "v"
    exact q _ _ φ2 hp0
end
section
variable (K : PySem.W.Frag) (CT : Addr)
theorem sem_talk_said (T : TalkC K CT) : ∀ vs H Q E, sp_talk_said K CT vs H Q E → t_talk_said K CT { nx := fun _ H' => Q .non H', rt := Q } (start ["self"] vs) H := by
  rintro vs H Q E ⟨x, l, sts, r, sd, cm, rfl, ⟨dx, xs, hx, hl, hxs⟩, hc, q⟩
  show t_talk_said K CT _ [some (.ref x)] H
  unfold t_talk_said
  obtain ⟨v, a, vr, hat, rfl, hs, hr, hlen⟩ := st_last hxs
  walk_at "w"
  refine w_past T hx ?_ (fun R h => ⟨_, rfl, h⟩)
  walk_at "w"
  refine ⟨1, rfl, ?_⟩
  refine w_ixL (sqL_at hl) hat ?_
  walk_at "w"
  refine w_lenW (by show sd.length ≤ _; omega) ?_
  exact q
theorem sem_talk_came (T : TalkC K CT) : ∀ vs H Q E, sp_talk_came K CT vs H Q E → t_talk_came K CT { nx := fun _ H' => Q .non H', rt := Q } (start ["self"] vs) H := by
  rintro vs H Q E ⟨x, l, sts, r, sd, cm, rfl, ⟨dx, xs, hx, hl, hxs⟩, hc, q⟩
  show t_talk_came K CT _ [some (.ref x)] H
  unfold t_talk_came
  obtain ⟨v, a, vr, hat, rfl, hs, hr, hlen⟩ := st_last hxs
  walk_at "w"
  refine w_past T hx ?_ (fun R h => ⟨_, rfl, h⟩)
  walk_at "w"
  refine ⟨1, rfl, ?_⟩
  refine w_ixL (sqL_at hl) hat ?_
  walk_at "w"
  refine w_lenW (by show cm.length ≤ _; omega) ?_
  exact q
theorem sem_talk_len (T : TalkC K CT) : ∀ vs H Q E, sp_talk_len K CT vs H Q E → t_talk_len K CT { nx := fun _ H' => Q .non H', rt := Q } (start ["self"] vs) H := by
  rintro vs H Q E ⟨x, l, sts, n, rfl, ⟨dx, xs, hx, hl, hxs⟩, hn, q⟩
  show t_talk_len K CT _ [some (.ref x)] H
  unfold t_talk_len
  have hlen := hxs.len
  rw [List.length_map] at hlen
  walk_at "w"
  refine w_past T hx ?_ (fun R h => ⟨_, rfl, h⟩)
  walk_at "w"
  refine ⟨l, xs, rfl, sqL_at hl, fun o no => ?_⟩
  walk_at "w"
  rw [show (cutV xs (some 1) none).length = n by rw [show (1 : Int) = ((1 : Nat) : Int) from rfl, cutV_from, List.length_drop]; omega]
  exact q _ (same_new no)
end
section
variable (K : PySem.W.Frag) (C : XCls) (CT : Addr)
theorem sem_talk_sayX (T : TalkC K CT) (h1 : C.ok 1 = true) (h7 : C.ok 7 = true) : ∀ vs H Q E, sp_talk_sayX K CT C vs H Q E → t_talk_sayX K C CT E { nx := fun _ H' => Q .non H', rt := Q } (start ["self", "word", "row", "said", "came", "heard", "later", "one"] vs) H := by
  rintro vs H Q E ⟨x, l, sts, r, sd, cm, y, d, rfl, ⟨dx, xs, hx, hl, hxs⟩, hd, hfit, hq⟩
  show t_talk_sayX K C CT E _ [some (.ref x), some y, none, none, none, none, none, none] H
  unfold t_talk_sayX
  obtain ⟨v, a, vr, hat, rfl, hs, hr, hlen⟩ := st_last hxs
  walk_at "v"
  refine w_past T hx ?_ (fun R h => ⟨_, rfl, h⟩)
  walk_at "v"
  refine ⟨1, rfl, ?_⟩
  refine w_ixL (sqL_at hl) hat ?_
  refine w_gtup hs rfl ?_
  walk_at "v"
  refine w_ifS ?_
  walk_at "v"
  refine ⟨y, d, rfl, hd, hfit, fun H1 s1 => ?_⟩
  rcases hq with ⟨hw, q⟩ | ⟨w, rfl, rfl, hw, hlong, hsd, q⟩
  · rw [hw]
    walk_at "v"
    exact q _ s1
  · rw [isWord_of hw]
    have hwl := hw.1
    walk_at "v"
    refine iteF ?_
    walk_at "v"
    refine w_ifS ?_
    walk_at "v"
    refine w_lenW (by show sd.length ≤ _; omega) ?_
    walk_at "v"
    refine w_lenW (by omega) ?_
    walk_at "v"
    rw [bD_t (show (10000 : Int) < (sd.length : Int) + (w.length : Int) by omega)]
    refine iteT ?_
    walk_at "v"
    exact q _ s1
end
end HH

namespace HH
open PySem PySem.Spec L2
/-! ### a word behind a word -/
theorem run_begun_now (f : Folk) (w v : List Nat) : runOne (f.now (runOne f f.begun w).2) (f.now (runOne f f.begun w).2).begun v = runOne f (runOne f f.begun w).2 v := by
  cases f with
  | hears a b =>
    rw [run_hears, run_hears]
    show runOne (.hears a b) 0 v = _
    rw [run_hears]
    rfl
  | ctr tw e c =>
    show runOne (.ctr tw e (runOne (.ctr tw e c) c w).2) (runOne (.ctr tw e c) c w).2 v = runOne (.ctr tw e c) (runOne (.ctr tw e c) c w).2 v
    generalize (runOne (.ctr tw e c) c w).2 = n
    generalize n = m at *
    have key : ∀ (c' : Nat) (v : List Nat) (m : Nat), runOne (.ctr tw e c') m v = runOne (.ctr tw e c) m v := fun c' v => by
      induction v with
      | nil => intro m; rfl
      | cons s v ih =>
        intro m
        show ((stepOne (.ctr tw e c') m s).1 ++ (runOne (.ctr tw e c') (stepOne (.ctr tw e c') m s).2 v).1, (runOne (.ctr tw e c') (stepOne (.ctr tw e c') m s).2 v).2) = _
        rw [ih]
        rfl
    exact key _ _ _
theorem comes_two : ∀ (r : Row) (a b : List Nat), comes r (a ++ b) = comes r a ++ comes (nowR r a) b
  | [], _, _ => rfl
  | f :: r, a, b => by
    show comes r (runOne f f.begun (a ++ b)).1 = comes r (runOne f f.begun a).1 ++ comes (nowR r (runOne f f.begun a).1) (runOne (f.now (runOne f f.begun a).2) (f.now (runOne f f.begun a).2).begun b).1
    rw [runOne_app, run_begun_now, comes_two r]
theorem now_now (f : Folk) (n m : Nat) : (f.now n).now m = f.now m := by cases f <;> rfl
theorem nowR_two : ∀ (r : Row) (a b : List Nat), nowR r (a ++ b) = nowR (nowR r a) b
  | [], _, _ => rfl
  | f :: r, a, b => by
    show f.now (runOne f f.begun (a ++ b)).2 :: nowR r (runOne f f.begun (a ++ b)).1 = (f.now (runOne f f.begun a).2).now (runOne (f.now (runOne f f.begun a).2) (f.now (runOne f f.begun a).2).begun b).2 :: nowR (nowR r (runOne f f.begun a).1) (runOne (f.now (runOne f f.begun a).2) (f.now (runOne f f.begun a).2).begun b).1
    rw [runOne_app, run_begun_now, nowR_two r, now_now]
theorem now_self (f : Folk) : f.now f.begun = f := by cases f <;> rfl
theorem nowR_nil : ∀ r : Row, nowR r [] = r
  | [] => rfl
  | f :: r => by
    show f.now f.begun :: nowR r [] = f :: r
    rw [now_self, nowR_nil r]
theorem nowR_Ok {r : Row} (h : Row.Ok r) (w : List Nat) : Row.Ok (nowR r w) := ⟨by rw [nowR_len]; exact h.1, nowR_ok w h.2⟩
theorem comes_none (r : Row) : comes r [] = [] := congrArg Prod.fst (told_nil r (begun r))
theorem heard_now : ∀ (r : Row) (w : List Nat) (c : Nat), heardAs (nowR r w) c = heardAs r c
  | [], _, _ => rfl
  | f :: r, w, c => by
    show heardAs (nowR r (runOne f f.begun w).1) (heard1 (f.now (runOne f f.begun w).2) c) = heardAs r (heard1 f c)
    rw [heard_now r]
    cases f <;> rfl
theorem come_now {r : Row} (h : Row.Ok r) (w : List Nat) (n : Nat) : allCome r (w.length + n) = allCome r w.length + allCome (nowR r w) n := by
  have h1 := congrArg List.length (comes_two r w (List.replicate n 113))
  rw [List.length_append, comes_len (rok_of h), comes_len (rok_of h), comes_len (rok_of (nowR_Ok h w)), List.length_append, List.length_replicate] at h1
  exact h1
theorem dl_now {r : Row} (h : Row.Ok r) (w : List Nat) (i : Nat) : dl (nowR r w) i = dl r (w.length + i) := by
  have h1 := come_now h w i
  have h2 := come_now h w (i + 1)
  unfold dl
  rw [← Nat.add_assoc] at h2
  omega
theorem alike_round {r : Row} (h : Row.Ok r) {w : List Nat} (hw : w.length = lp r) : alike (nowR r w) r := by
  refine ⟨fun i => ?_, fun c _ => heard_now r w c⟩
  rw [dl_now h, hw, Nat.add_comm]
  exact (lp_spec (rok_of h)).2.1 i
theorem lp_le2 {r : Row} (h : Row.Ok r) : lp r ≤ 1296 := by
  have hr := rok_of h
  have h1 := (lp_spec hr).2.2 (whole r) (perD_whole hr)
  exact Nat.le_trans (Nat.le_of_dvd (whole_pos hr) h1) (whole_le hr h.1)
/-! ### one who drops every other sign -/
def abs' : List Nat := (List.replicate 100 [97, 98]).flatten
theorem abs_len : abs'.length = 200 := by decide +kernel
theorem abs_comes : comes [.ctr false 2 0] abs' = List.replicate 100 97 := by decide +kernel
theorem abs_now : nowR [.ctr false 2 0] abs' = [.ctr false 2 0] := by decide +kernel
theorem abs_ok : WordOk abs' := by
  have h : (decide (abs'.length ≤ 200) && abs'.all isSmall) = true := by decide +kernel
  rw [Bool.and_eq_true, decide_eq_true_eq, List.all_eq_true] at h
  exact h
theorem ok_d2 : Row.Ok [.ctr false 2 0] := ⟨by decide, fun g hg => by rw [List.mem_singleton.mp hg]; decide⟩
theorem qs_ok {n : Nat} (h : n ≤ 200) : WordOk (List.replicate n 113) := ⟨by show (List.replicate n 113).length ≤ 200; rw [List.length_replicate]; exact h, fun c hc => by rw [(List.mem_replicate.mp hc).2]; decide⟩
theorem one_q : ((("q" : Str)) : Str) = tx [113] := by decide +kernel
theorem mul_q (n : Nat) : Txt.mul ("q" : Str) ((n : Nat) : Int) = tx (List.replicate n 113) := by
  rw [one_q, tx_mul]
  congr 1
  induction n with
  | zero => rfl
  | succ n ih => rw [List.replicate_succ, List.flatten_cons, ih]; rfl
theorem lastT_rep (c : Nat) : lastT (List.replicate 5000 c) = List.replicate 10 c := by
  unfold lastT
  rw [List.length_replicate, List.drop_replicate]
end HH

namespace HH
open PySem PySem.Spec L2
/-! ### the counts behind a word -/
def cnt (r : Row) (W : List Nat) : List Nat := (told r (begun r) W).2
theorem cnt_len (r : Row) (W : List Nat) : (cnt r W).length = r.length := by unfold cnt; rw [told_len, begun_len]
theorem nowR_cnt : ∀ (r : Row) (W : List Nat), nowRow r (cnt r W) = nowR r W
  | [], _ => rfl
  | f :: r, W => by
    show f.now (runOne f f.begun W).2 :: nowRow r (cnt r (runOne f f.begun W).1) = f.now (runOne f f.begun W).2 :: nowR r (runOne f f.begun W).1
    rw [nowR_cnt r]
theorem told_cnt (r : Row) (W w : List Nat) : told r (cnt r W) w = (comes (nowR r W) w, cnt r (W ++ w)) := by
  have h := told_app r (begun r) W w
  have h1 : comes r (W ++ w) = comes r W ++ (told r (cnt r W) w).1 := by
    show (told r (begun r) (W ++ w)).1 = _
    rw [h]
    rfl
  have h2 : cnt r (W ++ w) = (told r (cnt r W) w).2 := by
    show (told r (begun r) (W ++ w)).2 = _
    rw [h]
    rfl
  rw [comes_two] at h1
  rw [h2, List.append_cancel_left h1]
theorem cnt_nil (r : Row) : cnt r [] = begun r := congrArg Prod.snd (told_nil r (begun r))
/-- what is told behind a word -/
def tsW (r : Row) (W : List Nat) : State := (nowR r W, W, comes r W)
theorem tsW_nil (r : Row) : tsW r [] = (r, [], []) := by unfold tsW; rw [nowR_nil, comes_none]
end HH

namespace HH
open PySem PySem.Spec L2
local macro_rules | `(tactic| walk_at "cy") => `(tactic| first
  | assumption
  | exact L2.upd_same
  | exact L2.sqL_new
  | exact L2.sqT_new
  | exact L2.sqL_at (by assumption)
  | exact L2.sqT_at (by assumption)
  | (refine' L2.Same.seq (by assumption) ?k0; (case k0 => walk_at "cy"))
  | (refine' L2.Same.sqT (by assumption) ?k0; (case k0 => walk_at "cy"))
  | (refine' L2.Same.dat (by assumption) ?k0; (case k0 => walk_at "cy"))
  | (refine' (by assumption : L2.Same _ _) _ _ ?k0; (case k0 => walk_at "cy"))
  | (refine' L2.Same.seq (L2.same_new (by assumption)) ?k0; (case k0 => walk_at "cy"))
  | (refine' L2.Same.sqT (L2.same_new (by assumption)) ?k0; (case k0 => walk_at "cy"))
  | (refine' L2.Same.dat (L2.same_new (by assumption)) ?k0; (case k0 => walk_at "cy"))
  | (refine' L2.same_new (by assumption) _ _ ?k0; (case k0 => walk_at "cy"))
  | (refine' L2.Mv.sqT (by assumption) ?k0; (case k0 => walk_at "cy")))
local macro_rules | `(tactic| walk_at "w") => `(tactic| repeat (first
  | refine HH.stp ?_
  | with_reducible refine L2.iteT ?_
  | with_reducible refine L2.iteF ?_
  | ((with_reducible refine' HH.w_gtup ?k1 ?k2 ?_); (case k1 => walk_at "cy"); (case k2 => exact rfl))
  | ((with_reducible refine' HH.w_ixT ?k1 ?k2 ?_); (case k1 => walk_at "cy"); (case k2 => exact rfl))
  | ((with_reducible refine' HH.w_ixL ?k1 ?k2 ?_); (case k1 => walk_at "cy"); (case k2 => exact rfl))
  | ((with_reducible refine' HH.w_lenL ?k1 ?_); (case k1 => walk_at "cy"))
  | ((with_reducible refine' HH.w_lenT ?k1 ?_); (case k1 => walk_at "cy"))
  | ((with_reducible refine' HH.w_exT ?k1 ?_); (case k1 => walk_at "cy"))
  | ((with_reducible refine' HH.w_exL ?k1 ?_); (case k1 => walk_at "cy"))
  | ((with_reducible refine' HH.w_tyL ?k1 ?_); (case k1 => walk_at "cy"))
  | ((with_reducible refine' HH.w_setL ?k1 ?k2 ?_); (case k1 => walk_at "cy"); (case k2 => exact rfl))
  | ((with_reducible refine' HH.w_modI ?k1 ?_); (case k1 => first | (with_reducible assumption) | omega))
  | ((with_reducible refine' HH.w_divI ?k1 ?_); (case k1 => (constructor <;> omega)))))
local macro_rules | `(tactic| walk_at "v") => `(tactic| ((repeat ((fail_if_success (with_reducible refine HH.isIf ?_)); first
  | refine HH.stp ?_
  | with_reducible refine L2.iteT ?_
  | with_reducible refine L2.iteF ?_
  | ((with_reducible refine' HH.w_gtup ?k1 ?k2 ?_); (case k1 => walk_at "cy"); (case k2 => exact rfl))
  | ((with_reducible refine' HH.w_ixT ?k1 ?k2 ?_); (case k1 => walk_at "cy"); (case k2 => exact rfl))
  | ((with_reducible refine' HH.w_ixL ?k1 ?k2 ?_); (case k1 => walk_at "cy"); (case k2 => exact rfl))
  | ((with_reducible refine' HH.w_lenL ?k1 ?_); (case k1 => walk_at "cy"))
  | ((with_reducible refine' HH.w_lenT ?k1 ?_); (case k1 => walk_at "cy"))
  | ((with_reducible refine' HH.w_exT ?k1 ?_); (case k1 => walk_at "cy"))
  | ((with_reducible refine' HH.w_exL ?k1 ?_); (case k1 => walk_at "cy"))
  | ((with_reducible refine' HH.w_tyL ?k1 ?_); (case k1 => walk_at "cy"))
  | ((with_reducible refine' HH.w_setL ?k1 ?k2 ?_); (case k1 => walk_at "cy"); (case k2 => exact rfl))
  | ((with_reducible refine' HH.w_modI ?k1 ?_); (case k1 => first | (with_reducible assumption) | omega))
  | ((with_reducible refine' HH.w_divI ?k1 ?_); (case k1 => (constructor <;> omega)))))); (try (with_reducible refine HH.isIf ?_)))
instance i_tMake {C : Addr} {sp : Sp} {E : XK} {t : TA} {σ : L2.St} {H : Hp} {Q : VK} : Stp (tMake C sp [] E t σ H Q) (t σ H fun vs H1 => ∀ x dx, H1 x = none → H1 dx = none → dx ≠ x → sp (.ref x :: (vs ++ [])) (upd (upd H1 dx (.own x)) x (.ins C dx [])) (fun v H2 => v = .non ∧ Q (.ref x) H2) E) := ⟨fun h => h⟩
instance i_tMeth {C : Addr} {m : Str} {sp : Sp} {E : XK} {ta : TE} {t : TA} {σ : L2.St} {H : Hp} {Q : VK} : Stp (tMeth C m sp [] E ta t σ H Q) (ta σ H fun x H1 => ∃ a dx fs, x = .ref a ∧ H1 a = some (.ins C dx fs) ∧ fs.lookup m = none ∧ t σ H1 fun vs H2 => sp (x :: (vs ++ [])) H2 Q E) := ⟨fun h => h⟩
section
variable {K : PySem.W.Frag} {CT : Addr}
theorem but_same {x : Addr} {H Hm H' : Hp} (s : Same H Hm) (b : But x Hm H') (n : H x = none) : Same H H' := fun a o e => b a o (ne_of_none' e n |> fun z => fun w => z w.symm |> fun q => q) (s a o e)
theorem TkAt.same {x l : Addr} {H H' : Hp} {sts : List State} (h : TkAt K CT x l H sts) (s : Same H H') : TkAt K CT x l H' sts := by
  obtain ⟨dx, xs, h1, h2, h3⟩ := h
  exact ⟨dx, xs, s _ _ h1, s _ _ h2, s.dpAll _ _ h3⟩
theorem TkAt.mv {x l k : Addr} {H H' : Hp} {sts : List State} (h : TkAt K CT x l H sts) (m : Mv k H H') (hl : l ≠ k) : TkAt K CT x l H' sts := by
  obtain ⟨dx, xs, h1, h2, h3⟩ := h
  have hx : x ≠ k := fun e => by
    obtain ⟨ys, h4⟩ := m.l0
    rw [e, h4] at h1
    cases h1
  exact ⟨dx, xs, m.but _ _ hx h1, m.but _ _ hl h2, m.tp.dpAll _ _ (noLs_sts _) h3⟩
/-- o.m(..) of a talk -/
theorem TkAt.meth {x l : Addr} {H : Hp} {sts : List State} (h : TkAt K CT x l H sts) {m : Str} {P : Prop} (hm : (m == ("past" : Str)) = false) (p : P) : ∃ a dx fs, V.ref x = .ref a ∧ H a = some (.ins CT dx fs) ∧ fs.lookup m = none ∧ P := by
  obtain ⟨dx, xs, h1, _, _⟩ := h
  exact ⟨x, dx, _, rfl, h1, by rw [List.lookup_cons, hm]; rfl, p⟩
end
instance i_w_iZTL {K : PySem.W.Frag} {ta : TA} {σ : L2.St} {H : Hp} {R : It → Hp → Prop} : Stp (iZipTL K ta σ H R) (ta σ H fun vs H1 => ∃ a b xs ys, vs = [.ref a, .ref b] ∧ SqT K H1 a xs ∧ SqL K H1 b ys ∧ R (ItzTL K a b) H1) := ⟨w_iZTL⟩
section
variable (K : PySem.W.Frag) (C : XCls) (CT : Addr)
/-- need_row: it goes on, or NoRow -/
def sp_need_rowX : Sp := fun vs H Q E => ∃ (x : V) (d : PyData), vs = [x] ∧ Dp K H x d ∧ fitD d = true ∧ ((isRowD d = true ∧ ∀ H', Same H H' → Q .non H') ∨ (isRowD d = false ∧ ∀ H', Same H H' → E (.ref (C.c 0)) none H'))
theorem len_need_rowX : ∀ vs H Q E, sp_need_rowX K C vs H Q E → vs.length = 1 := by rintro _ _ _ _ ⟨_, _, rfl, _⟩; rfl
def sp_talk_initX (K : PySem.W.Frag) (_ : Addr) (C : XCls) : Sp := fun vs H _ E => ∃ (x : Addr) (v : V) (d : PyData), vs = [.ref x, v] ∧ Dp K H v d ∧ fitD d = true ∧ isRowD d = false ∧ ∀ H', Same H H' → E (.ref (C.c 0)) none H'
theorem len_talk_initX (C : XCls) : ∀ vs H Q E, sp_talk_initX K CT C vs H Q E → vs.length = 2 := by rintro _ _ _ _ ⟨_, _, _, rfl, _⟩; rfl
def sp_talk_back : Sp := fun vs H Q _ => ∃ (x l : Addr) (sts : List State) (st : State), vs = [.ref x] ∧ TkAt K CT x l H (sts ++ [st]) ∧ sts ≠ [] ∧ sts.length ≤ 100000 ∧ ∀ H', Mv l H H' → TkAt K CT x l H' sts → Q .non H'
theorem len_talk_back : ∀ vs H Q E, sp_talk_back K CT vs H Q E → vs.length = 1 := by rintro _ _ _ _ ⟨_, _, _, _, rfl, _⟩; rfl
def sp_talk_backX (C : XCls) : Sp := fun vs H Q E => ∃ (x l : Addr) (sts : List State) (st : State), vs = [.ref x] ∧ TkAt K CT x l H (sts ++ [st]) ∧ sts.length ≤ 100000 ∧
  ((sts = [] ∧ ∀ H', Same H H' → E (.ref (C.c 8)) none H') ∨ (sts ≠ [] ∧ ∀ H', Mv l H H' → TkAt K CT x l H' sts → Q .non H'))
theorem len_talk_backX (C : XCls) : ∀ vs H Q E, sp_talk_backX K CT C vs H Q E → vs.length = 1 := by rintro _ _ _ _ ⟨_, _, _, _, rfl, _⟩; rfl
end
section
variable (K : PySem.W.Frag) (CT : Addr)
def sp_l_row_now (K : PySem.W.Frag) : Sp := fun vs H Q _ => ∃ (x : V) (r : Row) (c : Addr) (cs : List Nat), vs = [x, .ref c] ∧ Dp K H x (rowD r) ∧ r.length ≤ 100 ∧ H c = some (.lst (vI cs)) ∧ cs.length = r.length ∧ ∀ v H', Same H H' → Dp K H' v (rowD (nowRow r cs)) → Q v H'
def sp_l_say (K : PySem.W.Frag) : Sp := fun vs H Q _ => ∃ (x : V) (r : Row) (s c : Addr) (cs sd cm w : List Nat), vs = [x, .ref s, .str (tx w)] ∧ Dp K H x (rowD r) ∧ rok r ∧ r.length ≤ 4 ∧ H s = some (.tup [.ref c, .str (tx sd), .str (tx cm)]) ∧ H c = some (.lst (vI cs)) ∧ cs.length = r.length ∧
  w.length ≤ 10000 ∧ sd.length ≤ 100000 ∧ cm.length ≤ 1000000 ∧ (told r cs w).1.length ≤ 1000000 ∧
  ∀ t u c' H', Same H H' → H' t = some (.tup [.ref u, .str (tx (told r cs w).1)]) → H' u = some (.tup [.ref c', .str (tx (sd ++ w)), .str (tx (cm ++ (told r cs w).1))]) → H' c' = some (.lst (vI (told r cs w).2)) → Q (.ref t) H'
def sp_l_stands : Sp := fun vs H Q _ => ∃ (x l : Addr) (v : V) (r : Row) (s c : Addr) (cs sd cm : List Nat) (sts : List State), vs = [.ref x, v, .ref s, .int (sts.length : Nat)] ∧ Dp K H v (rowD r) ∧ Row.Ok r ∧ H s = some (.tup [.ref c, .str (tx sd), .str (tx cm)]) ∧ H c = some (.lst (vI cs)) ∧ cs.length = r.length ∧
  (∀ f ∈ nowRow r cs, f.ok = true) ∧ TkAt K CT x l H (sts ++ [(nowRow r cs, sd, cm)]) ∧ sd.length ≤ 1000000 ∧ cm.length ≤ 1000000 ∧ sts.length ≤ 100000 ∧ ∀ H', Same H H' → Q (.bl true) H'
theorem len_l_row_now : ∀ vs H Q E, sp_l_row_now K vs H Q E → vs.length = 2 := by rintro _ _ _ _ ⟨_, _, _, _, rfl, _⟩; rfl
theorem len_l_say : ∀ vs H Q E, sp_l_say K vs H Q E → vs.length = 3 := by rintro _ _ _ _ ⟨_, _, _, _, _, _, _, _, rfl, _⟩; rfl
theorem len_l_stands : ∀ vs H Q E, sp_l_stands K CT vs H Q E → vs.length = 4 := by rintro _ _ _ _ ⟨_, _, _, _, _, _, _, _, _, _, rfl, _⟩; rfl
end
def t_need_rowX (K : PySem.W.Frag) (C : XCls) (E : XK) : TS :=
  (tIfS (tNot (tB (tCall (sp_is_row K) [] E0 (tCons (tVar 0) tNil)))) (tRaise (C.c 0) E) tNext)

def t_talk_initX (K : PySem.W.Frag) (C : XCls) (CT : Addr) (E : XK) : TS :=
  (tSeq (tDrop (tCall (sp_need_rowX K C) [] E (tCons (tVar 1) tNil)))
  (sFld K (tVar 0) (tLst (tCons (tTup (tCons (tVar 1) (tCons (tC (.str "")) (tCons (tC (.str "")) tNil)))) tNil)) "past"))

def t_talk_back (K : PySem.W.Frag) (CT : Addr) : TS :=
  (tSeq (tIfS (tTest (tOp rEq (tCB (rLenQ K) (tCons (tFld K (tVar 0) "past") tNil)) (tC (.int 1)))) tNever tNext)
  (tDrop (tBM0 K "list" rPop (tFld K (tVar 0) "past"))))

def t_talk_backX (K : PySem.W.Frag) (C : XCls) (CT : Addr) (E : XK) : TS :=
  (tSeq (tIfS (tTest (tOp rEq (tCB (rLenQ K) (tCons (tFld K (tVar 0) "past") tNil)) (tC (.int 1)))) (tRaise (C.c 8) E) tNext)
  (tDrop (tBM0 K "list" rPop (tFld K (tVar 0) "past"))))

def t_l_row_now (K : PySem.W.Frag) : TS :=
  (tSeq (tAsg (tLst tNil) (gName 2))
  (tSeq (tFor (iZipTL K (tCons (tVar 0) (tCons (tVar 1) tNil))) (gTup K 2 (gCons (gName 3) (gCons (gName 4) gNil)))
  (tDrop (tBM K "list" rAppend (tVar 2) (tCons (tIf (tTest (tOp rEq (tOp (rIxT K) (tVar 3) (tC (.int 0))) (tC (.str "hears")))) (tVar 3) (tTup (tCons (tOp (rIxT K) (tVar 3) (tC (.int 0))) (tCons (tOp (rIxT K) (tVar 3) (tC (.int 1))) (tCons (tVar 4) tNil))))) tNil))))
  (tRet (tCB (rTupQ K) (tCons (tVar 2) tNil)))))

def t_l_say (K : PySem.W.Frag) : TS :=
  (tSeq (tPar 3 4 (tCons (tCB (rLstQ K) (tCons (tOp (rIxT K) (tVar 1) (tC (.int 0))) tNil)) (tCons (tLst tNil) tNil)))
  (tSeq (tFor (iStr (tVar 2)) (gName 5)
  (tDrop (tBM K "list" rAppend (tVar 4) (tCons (tCall (sp_l_told_on K) [] E0 (tCons (tVar 0) (tCons (tVar 3) (tCons (tVar 5) tNil)))) tNil))))
  (tSeq (tAsg (tM1 (rJoin K) (tC (.str "")) (tVar 4)) (gName 6))
  (tRet (tTup (tCons (tTup (tCons (tVar 3) (tCons (tOp rAddS (tOp (rIxT K) (tVar 1) (tC (.int 1))) (tVar 2)) (tCons (tOp rAddS (tOp (rIxT K) (tVar 1) (tC (.int 2))) (tVar 6)) tNil)))) (tCons (tVar 6) tNil)))))))

def t_l_stands (K : PySem.W.Frag) (CT : Addr) : TS :=
  (tSeq (tIfS (tOr (tTest (tOp rNe (tMeth CT "said" (sp_talk_said K CT) [] E0 (tVar 0) tNil) (tCB rLenT (tCons (tOp (rIxT K) (tVar 2) (tC (.int 1))) tNil)))) (tOr (tTest (tOp rNe (tMeth CT "came" (sp_talk_came K CT) [] E0 (tVar 0) tNil) (tCB rLenT (tCons (tOp (rIxT K) (tVar 2) (tC (.int 2))) tNil)))) (tTest (tOp rNe (tCB (rLenM K CT (sp_talk_len K CT)) (tCons (tVar 0) tNil)) (tVar 3))))) (tRet (tC (.bl false))) tNext)
  (tRet (tAndV (tOp rEq (tMeth CT "last" (sp_talk_last K CT) [] E0 (tVar 0) tNil) (tSl rSlS (tOp (rIxT K) (tVar 2) (tC (.int 2))) (tPart (tUn (rU fun i => .int (-i)) (tC (.int 10)))) tNoPart)) (tOp (rEqD K) (tMeth CT "row" (sp_talk_row K CT) [] E0 (tVar 0) tNil) (tCall (sp_l_row_now K) [] E0 (tCons (tVar 1) (tCons (tOp (rIxT K) (tVar 2) (tC (.int 0))) tNil)))))))

section
variable (K : PySem.W.Frag) (C : XCls)
theorem sem_need_rowX : ∀ vs H Q E, sp_need_rowX K C vs H Q E → t_need_rowX K C E { nx := fun _ H' => Q .non H', rt := Q } (start ["row"] vs) H := by
  rintro vs H Q E ⟨x, d, rfl, hd, hf, hq⟩
  show t_need_rowX K C E _ [some x] H
  unfold t_need_rowX
  walk_at "v"
  refine w_ifS ?_
  walk_at "v"
  refine ⟨x, d, rfl, hd, hf, fun H1 s1 => ?_⟩
  rcases hq with ⟨e, q⟩ | ⟨e, q⟩
  · rw [e]
    walk_at "v"
    refine iteF ?_
    walk_at "v"
    exact q _ s1
  · rw [e]
    walk_at "v"
    exact q _ s1
end
section
variable (K : PySem.W.Frag) (C : XCls) (CT : Addr)
theorem sem_talk_initX (T : TalkC K CT) : ∀ vs H Q E, sp_talk_initX K CT C vs H Q E → t_talk_initX K C CT E { nx := fun _ H' => Q .non H', rt := Q } (start ["self", "row"] vs) H := by
  rintro vs H Q E ⟨x, v, d, rfl, hd, hf, hr, q⟩
  show t_talk_initX K C CT E _ [some (.ref x), some v] H
  unfold t_talk_initX
  walk_at "v"
  exact ⟨v, d, rfl, hd, hf, .inr ⟨hr, q⟩⟩
theorem back_list {H : Hp} {l : Addr} {xs : List V} {sts : List State} {st : State} (hl : H l = some (.lst xs)) (h : DpAll K H xs ((sts ++ [st]).map stD)) : ∃ y, xs[xs.length - 1]? = some y ∧ xs.length = sts.length + 1 ∧ DpAll K (upd H l (.lst xs.dropLast)) xs.dropLast (sts.map stD) := by
  have hlen : xs.length = sts.length + 1 := by rw [h.len, List.length_map, List.length_append]; rfl
  have hn : xs.length - 1 < xs.length := by omega
  refine ⟨_, List.getElem?_eq_getElem hn, hlen, ?_⟩
  have m : Mv l H (upd H l (.lst xs.dropLast)) := mv_set hl
  have h2 := m.tp.dpAll _ _ (noLs_sts _) h
  rw [List.map_append] at h2
  have key : ∀ {xs : List V} {ds : List PyData} {d : PyData} {H : Hp}, DpAll K H xs (ds ++ [d]) → DpAll K H xs.dropLast ds := fun {xs ds d H} h => by
    induction ds generalizing xs with
    | nil =>
      cases h with
      | cons a b =>
        cases b
        exact .nil
    | cons e ds ih =>
      cases h with
      | cons a b =>
        have hne : ∀ {ys : List V}, DpAll K H ys (ds ++ [d]) → ys ≠ [] := fun {ys} z e => by
          have := z.len
          rw [e, List.length_append] at this
          simp at this
        rw [List.dropLast_cons_of_ne_nil (hne b)]
        exact .cons a (ih b)
  exact key h2
theorem sem_talk_back (T : TalkC K CT) : ∀ vs H Q E, sp_talk_back K CT vs H Q E → t_talk_back K CT { nx := fun _ H' => Q .non H', rt := Q } (start ["self"] vs) H := by
  rintro vs H Q E ⟨x, l, sts, st, rfl, ⟨dx, xs, hx, hl, hxs⟩, hne, hsz, q⟩
  show t_talk_back K CT _ [some (.ref x)] H
  unfold t_talk_back
  obtain ⟨y, hy, hlen, hd⟩ := back_list K hl hxs
  have hpos : 0 < sts.length := List.length_pos_iff.mpr hne
  walk_at "v"
  refine w_ifS ?_
  walk_at "v"
  refine w_past T hx ?_ (fun R h => ⟨_, rfl, h⟩)
  walk_at "v"
  rw [bD_f (show ¬ ((xs.length : Nat) : Int) = 1 by omega)]
  refine iteF ?_
  walk_at "v"
  refine w_past T hx ?_ (fun R h => ⟨_, rfl, h⟩)
  refine ⟨.inl ⟨rfl, xs, sqL_at hl⟩, l, xs, y, rfl, rfl, hl, hy, ?_⟩
  have nxl : x ≠ l := fun z => by
    rw [z, hl] at hx
    cases hx
  exact q _ (mv_set hl) ⟨dx, xs.dropLast, by rw [upd_ne nxl]; exact hx, upd_same, hd⟩
theorem sem_talk_backX (T : TalkC K CT) (h8 : C.ok 8 = true) : ∀ vs H Q E, sp_talk_backX K CT C vs H Q E → t_talk_backX K C CT E { nx := fun _ H' => Q .non H', rt := Q } (start ["self"] vs) H := by
  rintro vs H Q E ⟨x, l, sts, st, rfl, ⟨dx, xs, hx, hl, hxs⟩, hsz, hq⟩
  show t_talk_backX K C CT E _ [some (.ref x)] H
  unfold t_talk_backX
  obtain ⟨y, hy, hlen, hd⟩ := back_list K hl hxs
  walk_at "v"
  refine w_ifS ?_
  walk_at "v"
  refine w_past T hx ?_ (fun R h => ⟨_, rfl, h⟩)
  walk_at "v"
  rcases hq with ⟨e, q⟩ | ⟨hne, q⟩
  · subst e
    rw [bD_t (show ((xs.length : Nat) : Int) = 1 by rw [hlen]; rfl)]
    refine iteT ?_
    walk_at "v"
    exact q _ (Same.refl _)
  · have hpos : 0 < sts.length := List.length_pos_iff.mpr hne
    rw [bD_f (show ¬ ((xs.length : Nat) : Int) = 1 by omega)]
    refine iteF ?_
    walk_at "v"
    refine w_past T hx ?_ (fun R h => ⟨_, rfl, h⟩)
    refine ⟨.inl ⟨rfl, xs, sqL_at hl⟩, l, xs, y, rfl, rfl, hl, hy, ?_⟩
    have nxl : x ≠ l := fun z => by
      rw [z, hl] at hx
      cases hx
    exact q _ (mv_set hl) ⟨dx, xs.dropLast, by rw [upd_ne nxl]; exact hx, upd_same, hd⟩
end
theorem nowRow_snoc : ∀ (a : Row) (b : List Nat) (f : Folk) (k : Nat), a.length = b.length → nowRow (a ++ [f]) (b ++ [k]) = nowRow a b ++ [f.now k]
  | [], [], _, _, _ => rfl
  | g :: a, c :: b, f, k, h => congrArg (g.now c :: ·) (nowRow_snoc a b f k (Nat.succ.inj h))
  | [], _ :: _, _, _, h => by cases h
  | _ :: _, [], _, _, h => by cases h
theorem nowRow_take {r : Row} {cs : List Nat} {i : Nat} {f : Folk} {k : Nat} (hl : cs.length = r.length) (hf : r[i]? = some f) (hk : cs[i]? = some k) : nowRow (r.take (i + 1)) (cs.take (i + 1)) = nowRow (r.take i) (cs.take i) ++ [f.now k] := by
  rw [List.take_add_one, List.take_add_one, hf, hk]
  exact nowRow_snoc _ _ _ _ (by rw [List.length_take, List.length_take, hl])
theorem nowRow_len : ∀ (r : Row) (cs : List Nat), cs.length = r.length → (nowRow r cs).length = r.length
  | [], [], _ => rfl
  | _ :: r, _ :: cs, h => congrArg (· + 1) (nowRow_len r cs (Nat.succ.inj h))
  | [], _ :: _, h => by cases h
  | _ :: _, [], h => by cases h
section
variable (K : PySem.W.Frag)
theorem sem_l_row_now : ∀ vs H Q E, sp_l_row_now K vs H Q E → t_l_row_now K { nx := fun _ H' => Q .non H', rt := Q } (start ["house", "counts", "found", "one", "counted"] vs) H := by
  rintro vs H Q E ⟨x, r, c, cs, rfl, hd, hrl, hc, hcl, q⟩
  show t_l_row_now K _ [some x, some (.ref c), none, none, none] H
  unfold t_l_row_now
  walk_at "v"
  refine ⟨szOk 0, fun fo nfo => ?_⟩
  obtain ⟨ar, rs, rfl, hsr, hrs⟩ := dp_tup hd
  have hrsl : rs.length = r.length := by rw [hrs.len, List.length_map]
  walk_at "v"
  have s0 := same_new (o := .lst []) nfo
  refine ⟨ar, c, rs, vI cs, rfl, s0.sqT hsr, sqL_at (s0 _ _ hc), ?_⟩
  refine for_it (walk_zipTL (K := K) (a := ar) (b := c) (xs := rs) (ys := vI cs) (n := r.length) (by rw [List.length_map]; omega)) (fun i σ H1 => ∃ (y3 y4 : Option V) (ls : List V), σ = [some (.ref ar), some (.ref c), some (.ref fo), y3, y4] ∧ Same H H1 ∧ H1 fo = some (.lst ls) ∧ DpAll K H1 ls ((nowRow (r.take i) (cs.take i)).map folkD)) ?_ ?_ ?_ ?_
  · exact ⟨_, _, [], rfl, s0, upd_same, .nil⟩
  · rintro i σ H1 hi ⟨y3, y4, ls, rfl, s1, _⟩
    exact ⟨s1.sqT hsr, sqL_at (s1 _ _ hc)⟩
  · rintro i y σ H1 H1' hi ⟨y3, y4, ls, rfl, s1, hfo, hls⟩ ⟨T, x', y', rfl, nT, rfl, hx', hy'⟩
    obtain ⟨f, hf, dd⟩ := row_get K hrs hx'
    obtain ⟨k, hk, rfl⟩ : ∃ k, cs[i]? = some k ∧ V.int (k : Nat) = y' := by
      rw [List.getElem?_map] at hy'
      cases e : cs[i]? with
      | none => rw [e] at hy'; cases hy'
      | some k => rw [e] at hy'; exact ⟨k, rfl, Option.some.inj hy'⟩
    have hll : ls.length ≤ 100 := by
      have := hls.len
      rw [List.length_map, nowRow_len _ _ (by rw [List.length_take, List.length_take, hcl]), List.length_take] at this
      omega
    have sT := same_new (o := .tup [x', .int (k : Nat)]) nT
    have s2 := s1.trans sT
    have dd2 := s2.dat dd
    obtain ⟨fa, rfl, hfa⟩ := folk_inv dd2
    have hfo2 := sT _ _ hfo
    have hls2 := sT.dpAll _ _ hls
    have hTT : SqT K (upd H1 T (.tup [.ref fa, .int (k : Nat)])) T [.ref fa, .int (k : Nat)] := sqT_new
    generalize upd H1 T (.tup [.ref fa, .int (k : Nat)]) = H2 at s2 dd2 hfa hfo2 hls2 hTT ⊢
    clear sT
    walk_at "v"
    have fin2 : ∀ (H3 : Hp) (nv : V), Same H2 H3 → Dp K H3 nv (folkD (f.now k)) → ∃ (y3 y4 : Option V) (ls' : List V), [some (V.ref ar), some (.ref c), some (.ref fo), some (.ref fa), some (.int (k : Nat))] = [some (.ref ar), some (.ref c), some (.ref fo), y3, y4] ∧ Same H (upd H3 fo (.lst (ls ++ [nv]))) ∧ upd H3 fo (.lst (ls ++ [nv])) fo = some (.lst ls') ∧
        DpAll K (upd H3 fo (.lst (ls ++ [nv]))) ls' ((nowRow (r.take (i + 1)) (cs.take (i + 1))).map folkD) := by
      intro H3 nv s3 hnv
      have hfo3 := s3 _ _ hfo2
      have mvo : Mv fo H3 (upd H3 fo (.lst (ls ++ [nv]))) := mv_set hfo3
      refine ⟨_, _, ls ++ [nv], rfl, same_mut (s2.trans s3) nfo, upd_same, ?_⟩
      rw [nowRow_take hcl hf hk, List.map_append]
      exact (mvo.tp.dpAll _ _ (noLs_folks _) (s3.dpAll _ _ hls2)).app (.cons (mvo.tp.dp _ _ (noL_folk _) hnv) .nil)
    cases f with
    | hears ca cb =>
      refine w_ixT hfa rfl ?_
      walk_at "v"
      rw [bD_t rfl]
      refine iteT ?_
      walk_at "v"
      refine w_append hfo2 (szLt _ (by omega)) ?_
      exact fin2 _ _ (Same.refl _) dd2
    | ctr tw e c0 =>
      have hkd : ¬ (kindOf tw = ("hears" : Str)) := by cases tw <;> decide +kernel
      refine w_ixT hfa rfl ?_
      walk_at "v"
      rw [bD_f hkd]
      refine iteF ?_
      walk_at "v"
      refine ⟨szOk 3, fun tn ntn => ?_⟩
      have sn := same_new (o := .tup [.str (kindOf tw), .int (e : Nat), .int (k : Nat)]) ntn
      walk_at "v"
      refine w_append (sn _ _ hfo2) (szLt _ (by omega)) ?_
      exact fin2 _ _ sn (folk_of (f := .ctr tw e k) sqT_new)
  · rintro σ H1 ⟨y3, y4, ls, rfl, s1, hfo, hls⟩
    rw [List.take_length, ← hcl, List.take_length] at hls
    walk_at "v"
    refine w_tupL (sqL_at hfo) fun tr ntr => ?_
    exact q _ _ (s1.trans (same_new ntr)) (.tup sqT_new ((same_new ntr).dpAll _ _ hls))
theorem sem_l_say : ∀ vs H Q E, sp_l_say K vs H Q E → t_l_say K { nx := fun _ H' => Q .non H', rt := Q } (start ["house", "state", "word", "counts", "found", "sign", "came"] vs) H := by
  rintro vs H Q E ⟨x, r, s, c, cs, sd, cm, w, rfl, hd, hr, hrl, hs, hc, hcl, hw, hsd, hcm, hto, q⟩
  show t_l_say K _ [some x, some (.ref s), some (.str (tx w)), none, none, none, none] H
  unfold t_l_say
  walk_at "v"
  refine ⟨c, vI cs, rfl, .inl (sqL_at hc), fun cl ncl => ?_⟩
  walk_at "v"
  refine ⟨szOk 0, fun fo nfo => ?_⟩
  walk_at "v"
  have s1 := same_new (o := .lst (vI cs)) ncl
  have s2 := same_new (o := .lst []) nfo
  have hcl2 : upd (upd H cl (.lst (vI cs))) fo (.lst []) cl = some (.lst (vI cs)) := s2 _ _ upd_same
  have ncl2 : cl ≠ fo := ne_of_none upd_same nfo
  have nfo0 : H fo = none := sm_none3 s1 nfo
  refine for_it (walk_str (z := tx w)) (fun i σ H2 => ∃ y5, σ = [some x, some (.ref s), some (.str (tx w)), some (.ref cl), some (.ref fo), y5, none] ∧ Same H H2 ∧ H2 cl = some (.lst (vI (feed r cs (w.take i)).2)) ∧ H2 fo = some (.lst (vT (feed r cs (w.take i)).1))) ?_ (fun _ _ _ _ _ => trivial) ?_ ?_
  · exact ⟨none, rfl, s1.trans s2, hcl2, upd_same⟩
  · rintro i y σ H2 H2' hi ⟨y5, rfl, s2, hc2, hf2⟩ ⟨rfl, ch, hch, rfl⟩
    have hc' : w[i]? = some ch := by rw [← Array.getElem?_toList] at hch; exact hch
    have hiw : i < w.length := (List.getElem?_eq_some_iff.mp hc').1
    walk_at "w"
    have hfl : (feed r cs (w.take i)).2.length = r.length := by
      have := congrArg Prod.snd (feed_told r (w.take i) cs)
      rw [show (feed r cs (w.take i)).2 = (told r cs (w.take i)).2 from this, told_len, hcl]
    refine ⟨x, r, cl, _, ch, rfl, s2.dat hd, hr, by omega, hfl, hc2, fun H3 m3 hc3 => ?_⟩
    have hf3 : H3 fo = some (.lst (vT (feed r cs (w.take i)).1)) := m3.but _ _ ncl2.symm hf2
    have hfl1 : (feed r cs (w.take i)).1.length = min i w.length := by rw [feed_len, List.length_take]
    walk_at "w"
    refine w_append hf3 (szLt _ (by rw [List.length_map]; omega)) ?_
    walk_at "w"
    have e : feed r cs (w.take (i + 1)) = ((feed r cs (w.take i)).1 ++ [(told r (feed r cs (w.take i)).2 [ch]).1], (told r (feed r cs (w.take i)).2 [ch]).2) := by
      rw [List.take_add_one, hc']
      exact feed_app r _ [ch] _
    refine ⟨_, rfl, same_mut (fun p o e => m3.but p o (ne_of_none e ncl) (s2 _ _ e)) nfo0, ?_, ?_⟩
    · rw [upd_ne ncl2, e]; exact hc3
    · rw [upd_same, e]; unfold vT; rw [List.map_append]; rfl
  · rintro σ H2 ⟨y5, rfl, s2, hc2, hf2⟩
    have : w.take (tx w).cps.size = w := List.take_of_length_le (Nat.le_refl _)
    rw [this] at hf2 hc2
    have ft := feed_told r w cs
    have e1 : (feed r cs w).1.flatten = (told r cs w).1 := congrArg Prod.fst ft
    have e2 : (feed r cs w).2 = (told r cs w).2 := congrArg Prod.snd ft
    rw [e2] at hc2
    walk_at "w"
    refine w_joinT (sqL_at hf2) (by rw [e1]; omega) ?_
    rw [e1]
    have hs2 := s2 _ _ hs
    walk_at "w"
    refine w_addS (szOk _ (by rw [tx_len, tx_len]; omega)) ?_
    rw [tx_app]
    walk_at "w"
    refine w_addS (szOk _ (by rw [tx_len, tx_len]; omega)) ?_
    rw [tx_app]
    walk_at "w"
    refine ⟨szOk 3, fun u nu => ?_⟩
    walk_at "w"
    refine ⟨szOk 2, fun t nt => ?_⟩
    walk_at "w"
    have su := same_new (o := .tup [.ref cl, .str (tx (sd ++ w)), .str (tx (cm ++ (told r cs w).1))]) nu
    have st := same_new (o := .tup [.ref u, .str (tx (told r cs w).1)]) nt
    exact q t u cl _ (s2.trans (su.trans st)) upd_same (st _ _ upd_same) (st _ _ (su _ _ hc2))
end
section
variable (K : PySem.W.Frag) (CT : Addr)
theorem sem_l_stands (TT : TalkC K CT) : ∀ vs H Q E, sp_l_stands K CT vs H Q E → t_l_stands K CT { nx := fun _ H' => Q .non H', rt := Q } (start ["talk", "house", "state", "words"] vs) H := by
  rintro vs H Q E ⟨x, l, v, r, s, c, cs, sd, cm, sts, rfl, hd, hR, hs, hc, hcl, hok, tk, hsd, hcm, hst, q⟩
  show t_l_stands K CT _ [some (.ref x), some v, some (.ref s), some (.int (sts.length : Nat))] H
  unfold t_l_stands
  walk_at "v"
  refine w_ifNo (Same H) (fun QT k => ?_) (fun H1 s1 => ?_)
  · walk_at "v"
    refine tk.meth (by decide +kernel) ?_
    walk_at "v"
    refine ⟨x, l, sts, _, sd, cm, rfl, tk, hsd, ?_⟩
    walk_at "v"
    refine w_lenW (by omega) ?_
    walk_at "v"
    rw [bD_t rfl]
    refine iteF ?_
    walk_at "v"
    refine tk.meth (by decide +kernel) ?_
    walk_at "v"
    refine ⟨x, l, sts, _, sd, cm, rfl, tk, hcm, ?_⟩
    walk_at "v"
    refine w_lenW (by omega) ?_
    walk_at "v"
    rw [bD_t rfl]
    refine iteF ?_
    obtain ⟨dx, xs, hx, _⟩ := id tk
    walk_at "v"
    refine ⟨x, dx, _, rfl, hx, x, l, _, sts.length, rfl, tk, by rw [List.length_append]; rfl, fun H1 s1 => ⟨⟨_, rfl, by omega, by omega⟩, ?_⟩⟩
    walk_at "v"
    rw [bD_t rfl]
    exact k _ s1
  have tk1 := tk.same s1
  have hs1 := s1 _ _ hs
  have hc1 := s1 _ _ hc
  have hd1 := s1.dat hd
  walk_at "v"
  refine tk1.meth (by decide +kernel) ?_
  walk_at "v"
  refine ⟨x, l, sts, _, sd, cm, rfl, tk1, hcm, ?_⟩
  walk_at "v"
  refine ⟨10, rfl, ?_⟩
  walk_at "v"
  refine ⟨tx cm, rfl, szOk _ (by rw [tx_len]; omega), ?_⟩
  rw [cut_last]
  walk_at "v"
  rw [bD_t rfl]
  refine iteT ?_
  walk_at "v"
  refine tk1.meth (by decide +kernel) ?_
  walk_at "v"
  refine ⟨x, l, sts, _, sd, cm, rfl, tk1, fun nv hnv => ?_⟩
  walk_at "v"
  refine ⟨v, r, c, cs, rfl, hd1, by have := hR.1; omega, hc1, hcl, fun nv2 H2 s2 hnv2 => ?_⟩
  refine ⟨rowD (nowRow r cs), rowD (nowRow r cs), s2.dat hnv, hnv2, shp_row hok, shp_row hok, ?_⟩
  rw [show PyData.eqv (rowD (nowRow r cs)) (rowD (nowRow r cs)) = true from SeqAt.eqvAll_refl _ (lay_row hok).1]
  exact q _ (s1.trans s2)
end
end HH

namespace HH
open PySem PySem.Spec L2
local macro_rules | `(tactic| walk_at "cy") => `(tactic| first
  | assumption
  | exact L2.upd_same
  | exact L2.sqL_new
  | exact L2.sqT_new
  | exact L2.sqL_at (by assumption)
  | exact L2.sqT_at (by assumption)
  | (refine' L2.Same.seq (by assumption) ?k0; (case k0 => walk_at "cy"))
  | (refine' L2.Same.sqT (by assumption) ?k0; (case k0 => walk_at "cy"))
  | (refine' L2.Same.dat (by assumption) ?k0; (case k0 => walk_at "cy"))
  | (refine' (by assumption : L2.Same _ _) _ _ ?k0; (case k0 => walk_at "cy"))
  | (refine' L2.Same.seq (L2.same_new (by assumption)) ?k0; (case k0 => walk_at "cy"))
  | (refine' L2.Same.sqT (L2.same_new (by assumption)) ?k0; (case k0 => walk_at "cy"))
  | (refine' L2.Same.dat (L2.same_new (by assumption)) ?k0; (case k0 => walk_at "cy"))
  | (refine' L2.same_new (by assumption) _ _ ?k0; (case k0 => walk_at "cy"))
  | (refine' L2.Mv.sqT (by assumption) ?k0; (case k0 => walk_at "cy")))
local macro_rules | `(tactic| walk_at "w") => `(tactic| repeat (first
  | refine HH.stp ?_
  | with_reducible refine L2.iteT ?_
  | with_reducible refine L2.iteF ?_
  | ((with_reducible refine' HH.w_gtup ?k1 ?k2 ?_); (case k1 => walk_at "cy"); (case k2 => exact rfl))
  | ((with_reducible refine' HH.w_ixT ?k1 ?k2 ?_); (case k1 => walk_at "cy"); (case k2 => exact rfl))
  | ((with_reducible refine' HH.w_ixL ?k1 ?k2 ?_); (case k1 => walk_at "cy"); (case k2 => exact rfl))
  | ((with_reducible refine' HH.w_lenL ?k1 ?_); (case k1 => walk_at "cy"))
  | ((with_reducible refine' HH.w_lenT ?k1 ?_); (case k1 => walk_at "cy"))
  | ((with_reducible refine' HH.w_exT ?k1 ?_); (case k1 => walk_at "cy"))
  | ((with_reducible refine' HH.w_exL ?k1 ?_); (case k1 => walk_at "cy"))
  | ((with_reducible refine' HH.w_tyL ?k1 ?_); (case k1 => walk_at "cy"))
  | ((with_reducible refine' HH.w_setL ?k1 ?k2 ?_); (case k1 => walk_at "cy"); (case k2 => exact rfl))
  | ((with_reducible refine' HH.w_modI ?k1 ?_); (case k1 => first | (with_reducible assumption) | omega))
  | ((with_reducible refine' HH.w_divI ?k1 ?_); (case k1 => (constructor <;> omega)))))
local macro_rules | `(tactic| walk_at "v") => `(tactic| ((repeat ((fail_if_success (with_reducible refine HH.isIf ?_)); first
  | refine HH.stp ?_
  | with_reducible refine L2.iteT ?_
  | with_reducible refine L2.iteF ?_
  | ((with_reducible refine' HH.w_gtup ?k1 ?k2 ?_); (case k1 => walk_at "cy"); (case k2 => exact rfl))
  | ((with_reducible refine' HH.w_ixT ?k1 ?k2 ?_); (case k1 => walk_at "cy"); (case k2 => exact rfl))
  | ((with_reducible refine' HH.w_ixL ?k1 ?k2 ?_); (case k1 => walk_at "cy"); (case k2 => exact rfl))
  | ((with_reducible refine' HH.w_lenL ?k1 ?_); (case k1 => walk_at "cy"))
  | ((with_reducible refine' HH.w_lenT ?k1 ?_); (case k1 => walk_at "cy"))
  | ((with_reducible refine' HH.w_exT ?k1 ?_); (case k1 => walk_at "cy"))
  | ((with_reducible refine' HH.w_exL ?k1 ?_); (case k1 => walk_at "cy"))
  | ((with_reducible refine' HH.w_tyL ?k1 ?_); (case k1 => walk_at "cy"))
  | ((with_reducible refine' HH.w_setL ?k1 ?k2 ?_); (case k1 => walk_at "cy"); (case k2 => exact rfl))
  | ((with_reducible refine' HH.w_modI ?k1 ?_); (case k1 => first | (with_reducible assumption) | omega))
  | ((with_reducible refine' HH.w_divI ?k1 ?_); (case k1 => (constructor <;> omega)))))); (try (with_reducible refine HH.isIf ?_)))
section
variable (K : PySem.W.Frag) (C : XCls)
/-- a refusal of class i, all else as it is -/
def Rf (C : XCls) (i : Fin 9) (H : Hp) (E : XK) : Prop := ∀ H', Same H H' → E (.ref (C.c i)) none H'
/-- some answer, all else as it is -/
def Fine (H : Hp) (Q : VK) : Prop := ∀ v H', Same H H' → Q v H'
def BadR (H : Hp) (v : V) : Prop := ∃ d, Dp K H v d ∧ fitD d = true ∧ isRowD d = false
def BadWd (H : Hp) (v : V) : Prop := ∃ d, Dp K H v d ∧ fitD d = true ∧ isWordD d = false
def BadL (H : Hp) (v : V) : Prop := ∃ d, Dp K H v d ∧ fitD d = true ∧ isLetterD d = false
def BadO (H : Hp) (v : V) : Prop := ∃ d, Dp K H v d ∧ fitD d = true ∧ isOneD d = false
def BadN (H : Hp) (v : V) (m : Int) : Prop := ∃ d, Dp K H v d ∧ isWithinD d 0 m = false
def RowAt (H : Hp) (v : V) (r : Row) : Prop := Dp K H v (rowD r) ∧ Row.Ok r
def sp_need_wordX : Sp := fun vs H Q E => ∃ (x : V) (d : PyData), vs = [x] ∧ Dp K H x d ∧ fitD d = true ∧ ((isWordD d = true ∧ ∀ H', Same H H' → Q .non H') ∨ (isWordD d = false ∧ Rf C 1 H E))
theorem len_need_wordX : ∀ vs H Q E, sp_need_wordX K C vs H Q E → vs.length = 1 := by rintro _ _ _ _ ⟨_, _, rfl, _⟩; rfl
def sp_need_manyX : Sp := fun vs H Q E => ∃ (x : V) (m : Int) (d : PyData), vs = [x, .int m] ∧ Dp K H x d ∧ ((isWithinD d 0 m = true ∧ ∀ H', Same H H' → Q .non H') ∨ (isWithinD d 0 m = false ∧ Rf C 3 H E))
theorem len_need_manyX : ∀ vs H Q E, sp_need_manyX K C vs H Q E → vs.length = 2 := by rintro _ _ _ _ ⟨_, _, _, rfl, _⟩; rfl
def sp_outX : Sp := fun vs H Q E => ∃ x y, vs = [x, y] ∧ ((BadR K H x ∧ Rf C 0 H E) ∨ (∃ r, RowAt K H x r ∧ BadWd K H y ∧ Rf C 1 H E) ∨ (∃ r w, RowAt K H x r ∧ y = .str (tx w) ∧ WordOk w ∧ Fine H Q))
theorem len_outX : ∀ vs H Q E, sp_outX K C vs H Q E → vs.length = 2 := by rintro _ _ _ _ ⟨_, _, rfl, _⟩; rfl
def sp_comeX : Sp := fun vs H Q E => ∃ x y, vs = [x, y] ∧ ((BadR K H x ∧ Rf C 0 H E) ∨ (∃ r, RowAt K H x r ∧ BadN K H y 1000000000000000 ∧ Rf C 3 H E) ∨ (∃ r, ∃ n : Nat, RowAt K H x r ∧ y = .int (n : Nat) ∧ n ≤ 1000000000000000 ∧ Fine H Q))
theorem len_comeX : ∀ vs H Q E, sp_comeX K C vs H Q E → vs.length = 2 := by rintro _ _ _ _ ⟨_, _, rfl, _⟩; rfl
def sp_least_forX : Sp := fun vs H _ E => ∃ x y, vs = [x, y] ∧ ((BadR K H x ∧ Rf C 0 H E) ∨ (∃ r, RowAt K H x r ∧ BadN K H y 1000000000000000 ∧ Rf C 3 H E))
theorem len_least_forX : ∀ vs H Q E, sp_least_forX K C vs H Q E → vs.length = 2 := by rintro _ _ _ _ ⟨_, _, rfl, _⟩; rfl
def sp_letter_outX : Sp := fun vs H _ E => ∃ x y, vs = [x, y] ∧ ((BadR K H x ∧ Rf C 0 H E) ∨ (∃ r, RowAt K H x r ∧ BadL K H y ∧ Rf C 2 H E))
theorem len_letter_outX : ∀ vs H Q E, sp_letter_outX K C vs H Q E → vs.length = 2 := by rintro _ _ _ _ ⟨_, _, rfl, _⟩; rfl
def sp_round_ofX : Sp := fun vs H Q E => ∃ x, vs = [x] ∧ ((BadR K H x ∧ Rf C 0 H E) ∨ (∃ r, RowAt K H x r ∧ Fine H Q))
theorem len_round_ofX : ∀ vs H Q E, sp_round_ofX K C vs H Q E → vs.length = 1 := by rintro _ _ _ _ ⟨_, rfl, _⟩; rfl
def sp_does_nothingX : Sp := sp_round_ofX K C
theorem len_does_nothingX : ∀ vs H Q E, sp_does_nothingX K C vs H Q E → vs.length = 1 := len_round_ofX K C
def sp_are_alikeX : Sp := fun vs H _ E => ∃ x y, vs = [x, y] ∧ Rf C 0 H E ∧ (BadR K H x ∨ (∃ r, RowAt K H x r ∧ BadR K H y))
theorem len_are_alikeX : ∀ vs H Q E, sp_are_alikeX K C vs H Q E → vs.length = 2 := by rintro _ _ _ _ ⟨_, _, rfl, _⟩; rfl
def sp_partingX : Sp := sp_are_alikeX K C
theorem len_partingX : ∀ vs H Q E, sp_partingX K C vs H Q E → vs.length = 2 := len_are_alikeX K C
def sp_lengthsX : Sp := fun vs H _ E => ∃ x y, vs = [x, y] ∧ ((BadR K H x ∧ Rf C 0 H E) ∨ (∃ r, RowAt K H x r ∧ BadWd K H y ∧ Rf C 1 H E))
theorem len_lengthsX : ∀ vs H Q E, sp_lengthsX K C vs H Q E → vs.length = 2 := by rintro _ _ _ _ ⟨_, _, rfl, _⟩; rfl
def sp_how_manyX : Sp := sp_lengthsX K C
theorem len_how_manyX : ∀ vs H Q E, sp_how_manyX K C vs H Q E → vs.length = 2 := len_lengthsX K C
def sp_first_saidX : Sp := sp_lengthsX K C
theorem len_first_saidX : ∀ vs H Q E, sp_first_saidX K C vs H Q E → vs.length = 2 := len_lengthsX K C
def sp_placesX : Sp := fun vs H _ E => ∃ x y z, vs = [x, y, z] ∧ ((BadR K H x ∧ Rf C 0 H E) ∨ (∃ r, RowAt K H x r ∧ BadN K H y 200 ∧ Rf C 3 H E) ∨ (∃ r, ∃ n : Nat, RowAt K H x r ∧ y = .int (n : Nat) ∧ n ≤ 200 ∧ BadWd K H z ∧ Rf C 1 H E))
theorem len_placesX : ∀ vs H Q E, sp_placesX K C vs H Q E → vs.length = 3 := by rintro _ _ _ _ ⟨_, _, _, rfl, _⟩; rfl
def sp_come_alikeX : Sp := fun vs H _ E => ∃ x y z, vs = [x, y, z] ∧ ((BadR K H x ∧ Rf C 0 H E) ∨ (∃ r, RowAt K H x r ∧ BadWd K H y ∧ Rf C 1 H E) ∨ (∃ r w, RowAt K H x r ∧ y = .str (tx w) ∧ WordOk w ∧ BadWd K H z ∧ Rf C 1 H E))
theorem len_come_alikeX : ∀ vs H Q E, sp_come_alikeX K C vs H Q E → vs.length = 3 := by rintro _ _ _ _ ⟨_, _, _, rfl, _⟩; rfl
def sp_undone_byX : Sp := fun vs H Q E => ∃ x, vs = [x] ∧ ((BadO K H x ∧ Rf C 4 H E) ∨ (∃ f : Folk, Dp K H x (folkD f) ∧ f.ok = true ∧ Fine H Q))
theorem len_undone_byX : ∀ vs H Q E, sp_undone_byX K C vs H Q E → vs.length = 1 := by rintro _ _ _ _ ⟨_, rfl, _⟩; rfl
def sp_who_canX : Sp := fun vs H _ E => ∃ x y z, vs = [x, y, z] ∧ BadR K H x ∧ Rf C 0 H E
theorem len_who_canX : ∀ vs H Q E, sp_who_canX K C vs H Q E → vs.length = 3 := by rintro _ _ _ _ ⟨_, _, _, rfl, _⟩; rfl
end
section
variable {K : PySem.W.Frag} {C : XCls} {H H' : Hp} {Q : VK} {E : XK} {x v : V} {r : Row}
theorem Rf.same {i : Fin 9} (h : Rf C i H E) (s : Same H H') : Rf C i H' E := fun H2 t => h H2 (s.trans t)
theorem Fine.same (h : Fine H Q) (s : Same H H') : Fine H' Q := fun v H2 t => h v H2 (s.trans t)
theorem BadR.same (h : BadR K H v) (s : Same H H') : BadR K H' v := let ⟨d, a, b⟩ := h; ⟨d, s.dat a, b⟩
theorem BadWd.same (h : BadWd K H v) (s : Same H H') : BadWd K H' v := let ⟨d, a, b⟩ := h; ⟨d, s.dat a, b⟩
theorem BadL.same (h : BadL K H v) (s : Same H H') : BadL K H' v := let ⟨d, a, b⟩ := h; ⟨d, s.dat a, b⟩
theorem BadO.same (h : BadO K H v) (s : Same H H') : BadO K H' v := let ⟨d, a, b⟩ := h; ⟨d, s.dat a, b⟩
theorem BadN.same {m : Int} (h : BadN K H v m) (s : Same H H') : BadN K H' v m := let ⟨d, a, b⟩ := h; ⟨d, s.dat a, b⟩
theorem RowAt.same (h : RowAt K H v r) (s : Same H H') : RowAt K H' v r := ⟨s.dat h.1, h.2⟩
theorem nr_bad (h : BadR K H x) (q : Rf C 0 H E) : sp_need_rowX K C [x] H Q E := let ⟨d, a, b, c⟩ := h; ⟨x, d, rfl, a, b, .inr ⟨c, q⟩⟩
theorem nr_ok (h : RowAt K H x r) (q : ∀ H', Same H H' → Q .non H') : sp_need_rowX K C [x] H Q E := ⟨x, _, rfl, h.1, fit_row r, .inl ⟨isRow_of h.2, q⟩⟩
theorem nw_bad (h : BadWd K H x) (q : Rf C 1 H E) : sp_need_wordX K C [x] H Q E := let ⟨d, a, b, c⟩ := h; ⟨x, d, rfl, a, b, .inr ⟨c, q⟩⟩
theorem nw_ok {w : List Nat} (h : WordOk w) (q : ∀ H', Same H H' → Q .non H') : sp_need_wordX K C [.str (tx w)] H Q E := ⟨_, _, rfl, .str _, by show decide ((tx w).length ≤ 10000) = true; rw [tx_len, decide_eq_true (by have := h.1; omega)], .inl ⟨isWord_of h, q⟩⟩
theorem within_nat {n : Nat} {m : Int} (h : (n : Int) ≤ m) : isWithinD (.int (n : Nat)) 0 m = true := by
  show (decide ((0 : Int) ≤ (n : Int)) && decide ((n : Int) ≤ m)) = true
  rw [decide_eq_true (by omega), decide_eq_true h]
  rfl
theorem nm_bad {m : Int} (h : BadN K H x m) (q : Rf C 3 H E) : sp_need_manyX K C [x, .int m] H Q E := let ⟨d, a, b⟩ := h; ⟨x, m, d, rfl, a, .inr ⟨b, q⟩⟩
theorem nm_ok {n : Nat} {m : Int} (h : (n : Int) ≤ m) (q : ∀ H', Same H H' → Q .non H') : sp_need_manyX K C [.int (n : Nat), .int m] H Q E := ⟨_, m, _, rfl, .int _, .inl ⟨within_nat h, q⟩⟩
end
def t_need_wordX (K : PySem.W.Frag) (C : XCls) (E : XK) : TS :=
  (tIfS (tNot (tB (tCall (sp_is_word K) [] E0 (tCons (tVar 0) tNil)))) (tRaise (C.c 1) E) tNext)

def t_need_manyX (K : PySem.W.Frag) (C : XCls) (E : XK) : TS :=
  (tIfS (tNot (tB (tCall (sp_is_within K) [] E0 (tCons (tVar 0) (tCons (tC (.int 0)) (tCons (tVar 1) tNil)))))) (tRaise (C.c 3) E) tNext)

def t_outX (K : PySem.W.Frag) (C : XCls) (E : XK) : TS :=
  (tSeq (tDrop (tCall (sp_need_rowX K C) [] E (tCons (tVar 0) tNil)))
  (tSeq (tDrop (tCall (sp_need_wordX K C) [] E (tCons (tVar 1) tNil)))
  (tRet (tCall (sp_comes_out K) [] E0 (tCons (tVar 0) (tCons (tVar 1) tNil))))))

def t_comeX (K : PySem.W.Frag) (C : XCls) (E : XK) : TS :=
  (tSeq (tDrop (tCall (sp_need_rowX K C) [] E (tCons (tVar 0) tNil)))
  (tSeq (tDrop (tCall (sp_need_manyX K C) [] E (tCons (tVar 1) (tCons (tC (.int 1000000000000000)) tNil))))
  (tRet (tCall (sp_all_come K) [] E0 (tCons (tVar 0) (tCons (tVar 1) tNil))))))

def t_least_forX (K : PySem.W.Frag) (C : XCls) (E : XK) : TS :=
  (tSeq (tDrop (tCall (sp_need_rowX K C) [] E (tCons (tVar 0) tNil)))
  (tSeq (tDrop (tCall (sp_need_manyX K C) [] E (tCons (tVar 1) (tCons (tC (.int 1000000000000000)) tNil))))
  (tRet (tCall (sp_fewest_signs K) [] E0 (tCons (tVar 0) (tCons (tVar 1) tNil))))))

def t_letter_outX (K : PySem.W.Frag) (C : XCls) (E : XK) : TS :=
  (tSeq (tDrop (tCall (sp_need_rowX K C) [] E (tCons (tVar 0) tNil)))
  (tSeq (tIfS (tNot (tB (tCall (sp_is_letter K) [] E0 (tCons (tVar 1) tNil)))) (tRaise (C.c 2) E) tNext)
  (tRet (tCall (sp_heard_as K) [] E0 (tCons (tVar 0) (tCons (tVar 1) tNil))))))

def t_round_ofX (K : PySem.W.Frag) (C : XCls) (E : XK) : TS :=
  (tSeq (tDrop (tCall (sp_need_rowX K C) [] E (tCons (tVar 0) tNil)))
  (tSeq (tAsg (tCall (sp_least_round K) [] E0 (tCons (tVar 0) tNil)) (gName 1))
  (tRet (tTup (tCons (tVar 1) (tCons (tCall (sp_all_come K) [] E0 (tCons (tVar 0) (tCons (tVar 1) tNil))) tNil))))))

def t_does_nothingX (K : PySem.W.Frag) (C : XCls) (E : XK) : TS :=
  (tSeq (tDrop (tCall (sp_need_rowX K C) [] E (tCons (tVar 0) tNil)))
  (tRet (tOp rIsNon (tCall (sp_parted K) [] E0 (tCons (tVar 0) (tCons (tTup tNil) tNil))) (tC .non))))

def t_are_alikeX (K : PySem.W.Frag) (C : XCls) (E : XK) : TS :=
  (tSeq (tDrop (tCall (sp_need_rowX K C) [] E (tCons (tVar 0) tNil)))
  (tSeq (tDrop (tCall (sp_need_rowX K C) [] E (tCons (tVar 1) tNil)))
  (tRet (tOp rIsNon (tCall (sp_parted K) [] E0 (tCons (tVar 0) (tCons (tVar 1) tNil))) (tC .non)))))

def t_partingX (K : PySem.W.Frag) (C : XCls) (E : XK) : TS :=
  (tSeq (tDrop (tCall (sp_need_rowX K C) [] E (tCons (tVar 0) tNil)))
  (tSeq (tDrop (tCall (sp_need_rowX K C) [] E (tCons (tVar 1) tNil)))
  (tRet (tCall (sp_parted K) [] E0 (tCons (tVar 0) (tCons (tVar 1) tNil))))))

def t_lengthsX (K : PySem.W.Frag) (C : XCls) (E : XK) : TS :=
  (tSeq (tDrop (tCall (sp_need_rowX K C) [] E (tCons (tVar 0) tNil)))
  (tSeq (tDrop (tCall (sp_need_wordX K C) [] E (tCons (tVar 1) tNil)))
  (tRet (tCall (sp_all_lengths K) [] E0 (tCons (tVar 0) (tCons (tCB rLenT (tCons (tVar 1) tNil)) tNil))))))

def t_how_manyX (K : PySem.W.Frag) (C : XCls) (E : XK) : TS :=
  (tSeq (tDrop (tCall (sp_need_rowX K C) [] E (tCons (tVar 0) tNil)))
  (tSeq (tDrop (tCall (sp_need_wordX K C) [] E (tCons (tVar 1) tNil)))
  (tSeq (tAsg (tC (.int 0)) (gName 2))
  (tSeq (tFor (iList K (tCall (sp_all_places K) [] E0 (tCons (tVar 0) (tCons (tVar 1) tNil)))) (gName 3)
  (tSeq (tAsg (tC (.int 1)) (gName 4))
  (tSeq (tFor (iList K (tVar 3)) (gName 5)
  (tAsg (tOp rMulI (tVar 4) (tCB rLenT (tCons (tVar 5) tNil))) (gName 4)))
  (tAsg (tOp rAddI (tVar 2) (tVar 4)) (gName 2)))))
  (tRet (tVar 2))))))

def t_first_saidX (K : PySem.W.Frag) (C : XCls) (E : XK) : TS :=
  (tSeq (tDrop (tCall (sp_need_rowX K C) [] E (tCons (tVar 0) tNil)))
  (tSeq (tDrop (tCall (sp_need_wordX K C) [] E (tCons (tVar 1) tNil)))
  (tSeq (tFor (iList K (tCall (sp_all_places K) [] E0 (tCons (tVar 0) (tCons (tVar 1) tNil)))) (gName 2)
  (tRet (tM1 (rJoin K) (tC (.str "")) (tLc (iList K (tVar 2)) (gName 3) tYes (tOp rIxS (tVar 3) (tC (.int 0))) [3]))))
  (tRet (tC .non)))))

def t_placesX (K : PySem.W.Frag) (C : XCls) (E : XK) : TS :=
  (tSeq (tDrop (tCall (sp_need_rowX K C) [] E (tCons (tVar 0) tNil)))
  (tSeq (tIfS (tNot (tB (tCall (sp_is_within K) [] E0 (tCons (tVar 1) (tCons (tC (.int 0)) (tCons (tC (.int 200)) tNil)))))) (tRaise (C.c 3) E) tNext)
  (tSeq (tDrop (tCall (sp_need_wordX K C) [] E (tCons (tVar 2) tNil)))
  (tRet (tCall (sp_letters_at K) [] E0 (tCons (tVar 0) (tCons (tVar 1) (tCons (tVar 2) tNil))))))))

def t_come_alikeX (K : PySem.W.Frag) (C : XCls) (E : XK) : TS :=
  (tSeq (tDrop (tCall (sp_need_rowX K C) [] E (tCons (tVar 0) tNil)))
  (tSeq (tDrop (tCall (sp_need_wordX K C) [] E (tCons (tVar 1) tNil)))
  (tSeq (tDrop (tCall (sp_need_wordX K C) [] E (tCons (tVar 2) tNil)))
  (tRet (tOp rEq (tCall (sp_comes_out K) [] E0 (tCons (tVar 0) (tCons (tVar 1) tNil))) (tCall (sp_comes_out K) [] E0 (tCons (tVar 0) (tCons (tVar 2) tNil))))))))

def t_who_canX (K : PySem.W.Frag) (C : XCls) (E : XK) : TS :=
  (tSeq (tDrop (tCall (sp_need_rowX K C) [] E (tCons (tVar 0) tNil)))
  (tSeq (tIfS (tNot (tB (tCall (sp_is_within K) [] E0 (tCons (tVar 1) (tCons (tC (.int 0)) (tCons (tOp rSubI (tCB (rLenQ K) (tCons (tVar 0) tNil)) (tC (.int 1))) tNil)))))) (tRaise (C.c 5) E) tNext)
  (tSeq (tIfS (tOr (tNot (tB (tCB (rIsi K) (tCons (tVar 2) (tCons (tC (.ty "tuple")) tNil))))) (tOr (tNot (tTest (tChain rLeI rLeI (tC (.int 1)) (tCB (rLenQ K) (tCons (tVar 2) tNil)) (tC (.int 10))))) (tNot (tB (tCB (rAll K) (tCons (tLc (iTup K (tVar 2)) (gName 6) tYes (tCall (sp_is_pair K) [] E0 (tCons (tVar 6) tNil)) [6]) tNil)))))) (tRaise (C.c 6) E) tNext)
  (tSeq (tAsg (tLst tNil) (gName 3))
  (tSeq (tFor (iList K (tCall (sp_all_counters K) [] E0 tNil)) (gName 4)
  (tSeq (tAsg (tOp (rCatA K) (tOp (rCatA K) (tSl (rSlA K) (tVar 0) tNoPart (tPart (tVar 1))) (tTup (tCons (tVar 4) tNil))) (tSl (rSlA K) (tVar 0) (tPart (tOp rAddI (tVar 1) (tC (.int 1)))) tNoPart)) (gName 5))
  (tIfS (tB (tCB (rAll K) (tCons (tLc (iTup K (tVar 2)) (gTup K 2 (gCons (gName 7) (gCons (gName 8) gNil))) tYes (tOp rEq (tCall (sp_comes_out K) [] E0 (tCons (tVar 5) (tCons (tVar 7) tNil))) (tVar 8)) [7, 8]) tNil))) (tDrop (tBM K "list" rAppend (tVar 3) (tCons (tVar 4) tNil))) tNext)))
  (tRet (tVar 3)))))))

def t_undone_byX (K : PySem.W.Frag) (C : XCls) (E : XK) : TS :=
  (tSeq (tIfS (tNot (tB (tCall (sp_is_one K) [] E0 (tCons (tVar 0) tNil)))) (tRaise (C.c 4) E) tNext)
  (tSeq (tAsg (tVar 0) (gTup K 3 (gCons (gName 1) (gCons (gName 2) (gCons (gName 3) gNil)))))
  (tSeq (tIfS (tOr (tTest (tOp rNe (tVar 1) (tC (.str "twice")))) (tTest (tOp rGtI (tVar 2) (tC (.int 5))))) (tRet (tTup tNil)) tNext)
  (tRet (tTup (tCons (tTup (tCons (tC (.str "drop")) (tCons (tOp rAddI (tVar 2) (tC (.int 1))) (tCons (tVar 3) tNil)))) (tCons (tTup (tCons (tC (.str "drop")) (tCons (tOp rAddI (tVar 2) (tC (.int 1))) (tCons (tOp rAddI (tVar 3) (tC (.int 1))) tNil)))) tNil)))))))

section
variable (K : PySem.W.Frag) (C : XCls)
theorem sem_need_wordX : ∀ vs H Q E, sp_need_wordX K C vs H Q E → t_need_wordX K C E { nx := fun _ H' => Q .non H', rt := Q } (start ["word"] vs) H := by
  rintro vs H Q E ⟨x, d, rfl, hd, hf, hq⟩
  show t_need_wordX K C E _ [some x] H
  unfold t_need_wordX
  walk_at "v"
  refine w_ifS ?_
  walk_at "v"
  refine ⟨x, d, rfl, hd, hf, fun H1 s1 => ?_⟩
  rcases hq with ⟨e, q⟩ | ⟨e, q⟩
  · rw [e]
    walk_at "v"
    refine iteF ?_
    walk_at "v"
    exact q _ s1
  · rw [e]
    walk_at "v"
    exact q _ s1
theorem sem_need_manyX : ∀ vs H Q E, sp_need_manyX K C vs H Q E → t_need_manyX K C E { nx := fun _ H' => Q .non H', rt := Q } (start ["many", "most"] vs) H := by
  rintro vs H Q E ⟨x, m, d, rfl, hd, hq⟩
  show t_need_manyX K C E _ [some x, some (.int m)] H
  unfold t_need_manyX
  walk_at "v"
  refine w_ifS ?_
  walk_at "v"
  refine ⟨x, 0, m, d, rfl, hd, ?_⟩
  rcases hq with ⟨e, q⟩ | ⟨e, q⟩
  · rw [e]
    walk_at "v"
    refine iteF ?_
    walk_at "v"
    exact q _ (Same.refl _)
  · rw [e]
    walk_at "v"
    exact q _ (Same.refl _)
theorem sem_outX : ∀ vs H Q E, sp_outX K C vs H Q E → t_outX K C E { nx := fun _ H' => Q .non H', rt := Q } (start ["row", "word"] vs) H := by
  rintro vs H Q E ⟨x, y, rfl, hq⟩
  show t_outX K C E _ [some x, some y] H
  unfold t_outX
  walk_at "v"
  rcases hq with ⟨h, q⟩ | ⟨r, h, h2, q⟩ | ⟨r, w, h, rfl, h2, q⟩
  · exact nr_bad h q
  · refine nr_ok h fun H1 s1 => ?_
    walk_at "v"
    exact nw_bad (h2.same s1) (q.same s1)
  · refine nr_ok h fun H1 s1 => ?_
    walk_at "v"
    refine nw_ok h2 fun H2 s2 => ?_
    have h3 := h.same (s1.trans s2)
    have hl := h3.2.1
    walk_at "v"
    exact ⟨x, r, w, rfl, h3.1, rok_of h3.2, by omega, by have := h2.1; omega, fun H3 s3 => q _ _ ((s1.trans s2).trans s3)⟩
theorem sem_comeX : ∀ vs H Q E, sp_comeX K C vs H Q E → t_comeX K C E { nx := fun _ H' => Q .non H', rt := Q } (start ["row", "many"] vs) H := by
  rintro vs H Q E ⟨x, y, rfl, hq⟩
  show t_comeX K C E _ [some x, some y] H
  unfold t_comeX
  walk_at "v"
  rcases hq with ⟨h, q⟩ | ⟨r, h, h2, q⟩ | ⟨r, n, h, rfl, h2, q⟩
  · exact nr_bad h q
  · refine nr_ok h fun H1 s1 => ?_
    walk_at "v"
    exact nm_bad (h2.same s1) (q.same s1)
  · refine nr_ok h fun H1 s1 => ?_
    walk_at "v"
    refine nm_ok (by omega) fun H2 s2 => ?_
    have h3 := h.same (s1.trans s2)
    walk_at "v"
    exact ⟨x, r, n, rfl, h3.1, rok_of h3.2, q _ _ (s1.trans s2)⟩
theorem sem_least_forX : ∀ vs H Q E, sp_least_forX K C vs H Q E → t_least_forX K C E { nx := fun _ H' => Q .non H', rt := Q } (start ["row", "many"] vs) H := by
  rintro vs H Q E ⟨x, y, rfl, hq⟩
  show t_least_forX K C E _ [some x, some y] H
  unfold t_least_forX
  walk_at "v"
  rcases hq with ⟨h, q⟩ | ⟨r, h, h2, q⟩
  · exact nr_bad h q
  · refine nr_ok h fun H1 s1 => ?_
    walk_at "v"
    exact nm_bad (h2.same s1) (q.same s1)
theorem sem_letter_outX : ∀ vs H Q E, sp_letter_outX K C vs H Q E → t_letter_outX K C E { nx := fun _ H' => Q .non H', rt := Q } (start ["row", "letter"] vs) H := by
  rintro vs H Q E ⟨x, y, rfl, hq⟩
  show t_letter_outX K C E _ [some x, some y] H
  unfold t_letter_outX
  walk_at "v"
  rcases hq with ⟨h, q⟩ | ⟨r, h, ⟨d, hd, hf, hb⟩, q⟩
  · exact nr_bad h q
  · refine nr_ok h fun H1 s1 => ?_
    walk_at "v"
    refine w_ifS ?_
    walk_at "v"
    refine ⟨y, d, rfl, s1.dat hd, hf, ?_⟩
    rw [hb]
    walk_at "v"
    exact q _ s1
theorem sem_round_ofX : ∀ vs H Q E, sp_round_ofX K C vs H Q E → t_round_ofX K C E { nx := fun _ H' => Q .non H', rt := Q } (start ["row", "many"] vs) H := by
  rintro vs H Q E ⟨x, rfl, hq⟩
  show t_round_ofX K C E _ [some x, none] H
  unfold t_round_ofX
  walk_at "v"
  rcases hq with ⟨h, q⟩ | ⟨r, h, q⟩
  · exact nr_bad h q
  · refine nr_ok h fun H1 s1 => ?_
    have h1 := h.same s1
    walk_at "v"
    refine ⟨x, r, rfl, h1.1, rok_of h1.2, h1.2.1, fun H2 s2 => ?_⟩
    have h2 := h1.same s2
    walk_at "v"
    refine ⟨x, r, _, rfl, h2.1, rok_of h2.2, ?_⟩
    walk_at "v"
    refine ⟨szOk 2, fun p np => ?_⟩
    exact q _ _ ((s1.trans s2).trans (same_new np))
theorem sem_does_nothingX : ∀ vs H Q E, sp_does_nothingX K C vs H Q E → t_does_nothingX K C E { nx := fun _ H' => Q .non H', rt := Q } (start ["row"] vs) H := by
  rintro vs H Q E ⟨x, rfl, hq⟩
  show t_does_nothingX K C E _ [some x] H
  unfold t_does_nothingX
  walk_at "v"
  rcases hq with ⟨h, q⟩ | ⟨r, h, q⟩
  · exact nr_bad h q
  · refine nr_ok h fun H1 s1 => ?_
    have h1 := h.same s1
    walk_at "v"
    refine ⟨szOk 0, fun p np => ?_⟩
    have h2 := h1.same (same_new (o := .tup []) np)
    refine ⟨x, .ref p, r, [], rfl, h2.1, .tup sqT_new .nil, h2.2, ⟨by decide, fun f hf => by cases hf⟩, fun H2 s2 => ?_⟩
    walk_at "v"
    have s := (s1.trans (same_new (o := .tup []) np)).trans s2
    unfold partV
    cases parted r [] with
    | none =>
      walk_at "v"
      exact q _ _ s
    | some w =>
      walk_at "v"
      exact q _ _ s
theorem sem_are_alikeX : ∀ vs H Q E, sp_are_alikeX K C vs H Q E → t_are_alikeX K C E { nx := fun _ H' => Q .non H', rt := Q } (start ["row", "other"] vs) H := by
  rintro vs H Q E ⟨x, y, rfl, q, hq⟩
  show t_are_alikeX K C E _ [some x, some y] H
  unfold t_are_alikeX
  walk_at "v"
  rcases hq with h | ⟨r, h, h2⟩
  · exact nr_bad h q
  · refine nr_ok h fun H1 s1 => ?_
    walk_at "v"
    exact nr_bad (h2.same s1) (q.same s1)
theorem sem_partingX : ∀ vs H Q E, sp_partingX K C vs H Q E → t_partingX K C E { nx := fun _ H' => Q .non H', rt := Q } (start ["row", "other"] vs) H := by
  rintro vs H Q E ⟨x, y, rfl, q, hq⟩
  show t_partingX K C E _ [some x, some y] H
  unfold t_partingX
  walk_at "v"
  rcases hq with h | ⟨r, h, h2⟩
  · exact nr_bad h q
  · refine nr_ok h fun H1 s1 => ?_
    walk_at "v"
    exact nr_bad (h2.same s1) (q.same s1)
theorem sem_lengthsX : ∀ vs H Q E, sp_lengthsX K C vs H Q E → t_lengthsX K C E { nx := fun _ H' => Q .non H', rt := Q } (start ["row", "heard"] vs) H := by
  rintro vs H Q E ⟨x, y, rfl, hq⟩
  show t_lengthsX K C E _ [some x, some y] H
  unfold t_lengthsX
  walk_at "v"
  rcases hq with ⟨h, q⟩ | ⟨r, h, h2, q⟩
  · exact nr_bad h q
  · refine nr_ok h fun H1 s1 => ?_
    walk_at "v"
    exact nw_bad (h2.same s1) (q.same s1)
theorem sem_how_manyX : ∀ vs H Q E, sp_how_manyX K C vs H Q E → t_how_manyX K C E { nx := fun _ H' => Q .non H', rt := Q } (start ["row", "heard", "total", "some", "ways", "letters"] vs) H := by
  rintro vs H Q E ⟨x, y, rfl, hq⟩
  show t_how_manyX K C E _ [some x, some y, none, none, none, none] H
  unfold t_how_manyX
  walk_at "v"
  rcases hq with ⟨h, q⟩ | ⟨r, h, h2, q⟩
  · exact nr_bad h q
  · refine nr_ok h fun H1 s1 => ?_
    walk_at "v"
    exact nw_bad (h2.same s1) (q.same s1)
theorem sem_first_saidX : ∀ vs H Q E, sp_first_saidX K C vs H Q E → t_first_saidX K C E { nx := fun _ H' => Q .non H', rt := Q } (start ["row", "heard", "some", "letters"] vs) H := by
  rintro vs H Q E ⟨x, y, rfl, hq⟩
  show t_first_saidX K C E _ [some x, some y, none, none] H
  unfold t_first_saidX
  walk_at "v"
  rcases hq with ⟨h, q⟩ | ⟨r, h, h2, q⟩
  · exact nr_bad h q
  · refine nr_ok h fun H1 s1 => ?_
    walk_at "v"
    exact nw_bad (h2.same s1) (q.same s1)
theorem sem_placesX : ∀ vs H Q E, sp_placesX K C vs H Q E → t_placesX K C E { nx := fun _ H' => Q .non H', rt := Q } (start ["row", "length", "heard"] vs) H := by
  rintro vs H Q E ⟨x, y, z, rfl, hq⟩
  show t_placesX K C E _ [some x, some y, some z] H
  unfold t_placesX
  walk_at "v"
  rcases hq with ⟨h, q⟩ | ⟨r, h, ⟨d, hd, hb⟩, q⟩ | ⟨r, n, h, rfl, hn, h2, q⟩
  · exact nr_bad h q
  · refine nr_ok h fun H1 s1 => ?_
    walk_at "v"
    refine w_ifS ?_
    walk_at "v"
    refine ⟨y, 0, 200, d, rfl, s1.dat hd, ?_⟩
    rw [hb]
    walk_at "v"
    exact q _ s1
  · refine nr_ok h fun H1 s1 => ?_
    walk_at "v"
    refine w_ifS ?_
    walk_at "v"
    refine ⟨_, 0, 200, _, rfl, .int _, ?_⟩
    rw [within_nat (m := 200) (by omega)]
    walk_at "v"
    refine iteF ?_
    walk_at "v"
    exact nw_bad (h2.same s1) (q.same s1)
theorem sem_come_alikeX : ∀ vs H Q E, sp_come_alikeX K C vs H Q E → t_come_alikeX K C E { nx := fun _ H' => Q .non H', rt := Q } (start ["row", "word", "other"] vs) H := by
  rintro vs H Q E ⟨x, y, z, rfl, hq⟩
  show t_come_alikeX K C E _ [some x, some y, some z] H
  unfold t_come_alikeX
  walk_at "v"
  rcases hq with ⟨h, q⟩ | ⟨r, h, h2, q⟩ | ⟨r, w, h, rfl, hw, h2, q⟩
  · exact nr_bad h q
  · refine nr_ok h fun H1 s1 => ?_
    walk_at "v"
    exact nw_bad (h2.same s1) (q.same s1)
  · refine nr_ok h fun H1 s1 => ?_
    walk_at "v"
    refine nw_ok hw fun H2 s2 => ?_
    walk_at "v"
    exact nw_bad (h2.same (s1.trans s2)) (q.same (s1.trans s2))
theorem sem_who_canX : ∀ vs H Q E, sp_who_canX K C vs H Q E → t_who_canX K C E { nx := fun _ H' => Q .non H', rt := Q } (start ["row", "place", "pairs", "found", "one", "other", "pair", "said", "heard"] vs) H := by
  rintro vs H Q E ⟨x, y, z, rfl, h, q⟩
  show t_who_canX K C E _ [some x, some y, some z, none, none, none, none, none, none] H
  unfold t_who_canX
  walk_at "v"
  exact nr_bad h q
theorem sem_undone_byX : ∀ vs H Q E, sp_undone_byX K C vs H Q E → t_undone_byX K C E { nx := fun _ H' => Q .non H', rt := Q } (start ["one", "kind", "every", "counted"] vs) H := by
  rintro vs H Q E ⟨x, rfl, hq⟩
  show t_undone_byX K C E _ [some x, none, none, none] H
  unfold t_undone_byX
  rcases hq with ⟨⟨d, hd, hf, hb⟩, q⟩ | ⟨f, hd, hf, q⟩
  · walk_at "v"
    refine w_ifS ?_
    walk_at "v"
    refine ⟨x, d, rfl, hd, hf, fun H1 s1 => ?_⟩
    rw [hb]
    walk_at "v"
    exact q _ s1
  · walk_at "w"
    refine ⟨x, folkD f, rfl, hd, fit_folk f, fun H1 s1 => ?_⟩
    rw [isOne_of hf]
    walk_at "w"
    refine iteF ?_
    obtain ⟨a, rfl, hs⟩ := folk_inv (s1.dat hd)
    cases f with
    | hears u v =>
      have hs' : SqT K H1 a [.str "hears", .str (sg u), .str (sg v)] := hs
      walk_at "w"
      refine w_nT (by decide +kernel) ?_
      walk_at "w"
      refine ⟨szOk 0, fun p np => ?_⟩
      exact q _ _ (s1.trans (same_new np))
    | ctr tw e c =>
      have hs' : SqT K H1 a [.str (kindOf tw), .int (e : Nat), .int (c : Nat)] := hs
      walk_at "w"
      have hno : ∀ y1 y2 y3, tRet (tTup tNil) { nx := fun _ H' => Q .non H', rt := Q } [some (.ref a), y1, y2, y3] H1 := fun y1 y2 y3 => by
        walk_at "w"
        refine ⟨szOk 0, fun p np => ?_⟩
        exact q _ _ (s1.trans (same_new np))
      cases tw with
      | false =>
        refine w_nT (by decide +kernel) ?_
        exact hno _ _ _
      | true =>
        refine w_nF rfl ?_
        walk_at "w"
        by_cases h5 : e ≤ 5
        · refine w_dF (by omega) ?_
          walk_at "w"
          refine ⟨szOk 3, fun p1 n1 => ?_⟩
          walk_at "w"
          refine ⟨szOk 3, fun p2 n2 => ?_⟩
          walk_at "w"
          refine ⟨szOk 2, fun p3 n3 => ?_⟩
          exact q _ _ (((s1.trans (same_new n1)).trans (same_new n2)).trans (same_new n3))
        · refine w_dT (by omega) ?_
          exact hno _ _ _
end
end HH

namespace HH
open PySem PySem.Spec L2
local macro_rules | `(tactic| walk_at "cy") => `(tactic| first
  | assumption
  | exact L2.upd_same
  | exact L2.sqL_new
  | exact L2.sqT_new
  | exact L2.sqL_at (by assumption)
  | exact L2.sqT_at (by assumption)
  | (refine' L2.Same.seq (by assumption) ?k0; (case k0 => walk_at "cy"))
  | (refine' L2.Same.sqT (by assumption) ?k0; (case k0 => walk_at "cy"))
  | (refine' L2.Same.dat (by assumption) ?k0; (case k0 => walk_at "cy"))
  | (refine' (by assumption : L2.Same _ _) _ _ ?k0; (case k0 => walk_at "cy"))
  | (refine' L2.Same.seq (L2.same_new (by assumption)) ?k0; (case k0 => walk_at "cy"))
  | (refine' L2.Same.sqT (L2.same_new (by assumption)) ?k0; (case k0 => walk_at "cy"))
  | (refine' L2.Same.dat (L2.same_new (by assumption)) ?k0; (case k0 => walk_at "cy"))
  | (refine' L2.same_new (by assumption) _ _ ?k0; (case k0 => walk_at "cy"))
  | (refine' L2.Mv.sqT (by assumption) ?k0; (case k0 => walk_at "cy")))
local macro_rules | `(tactic| walk_at "w") => `(tactic| repeat (first
  | refine HH.stp ?_
  | with_reducible refine L2.iteT ?_
  | with_reducible refine L2.iteF ?_
  | ((with_reducible refine' HH.w_gtup ?k1 ?k2 ?_); (case k1 => walk_at "cy"); (case k2 => exact rfl))
  | ((with_reducible refine' HH.w_ixT ?k1 ?k2 ?_); (case k1 => walk_at "cy"); (case k2 => exact rfl))
  | ((with_reducible refine' HH.w_ixL ?k1 ?k2 ?_); (case k1 => walk_at "cy"); (case k2 => exact rfl))
  | ((with_reducible refine' HH.w_lenL ?k1 ?_); (case k1 => walk_at "cy"))
  | ((with_reducible refine' HH.w_lenT ?k1 ?_); (case k1 => walk_at "cy"))
  | ((with_reducible refine' HH.w_exT ?k1 ?_); (case k1 => walk_at "cy"))
  | ((with_reducible refine' HH.w_exL ?k1 ?_); (case k1 => walk_at "cy"))
  | ((with_reducible refine' HH.w_tyL ?k1 ?_); (case k1 => walk_at "cy"))
  | ((with_reducible refine' HH.w_setL ?k1 ?k2 ?_); (case k1 => walk_at "cy"); (case k2 => exact rfl))
  | ((with_reducible refine' HH.w_modI ?k1 ?_); (case k1 => first | (with_reducible assumption) | omega))
  | ((with_reducible refine' HH.w_divI ?k1 ?_); (case k1 => (constructor <;> omega)))))
local macro_rules | `(tactic| walk_at "v") => `(tactic| ((repeat ((fail_if_success (with_reducible refine HH.isIf ?_)); first
  | refine HH.stp ?_
  | with_reducible refine L2.iteT ?_
  | with_reducible refine L2.iteF ?_
  | ((with_reducible refine' HH.w_gtup ?k1 ?k2 ?_); (case k1 => walk_at "cy"); (case k2 => exact rfl))
  | ((with_reducible refine' HH.w_ixT ?k1 ?k2 ?_); (case k1 => walk_at "cy"); (case k2 => exact rfl))
  | ((with_reducible refine' HH.w_ixL ?k1 ?k2 ?_); (case k1 => walk_at "cy"); (case k2 => exact rfl))
  | ((with_reducible refine' HH.w_lenL ?k1 ?_); (case k1 => walk_at "cy"))
  | ((with_reducible refine' HH.w_lenT ?k1 ?_); (case k1 => walk_at "cy"))
  | ((with_reducible refine' HH.w_exT ?k1 ?_); (case k1 => walk_at "cy"))
  | ((with_reducible refine' HH.w_exL ?k1 ?_); (case k1 => walk_at "cy"))
  | ((with_reducible refine' HH.w_tyL ?k1 ?_); (case k1 => walk_at "cy"))
  | ((with_reducible refine' HH.w_setL ?k1 ?k2 ?_); (case k1 => walk_at "cy"); (case k2 => exact rfl))
  | ((with_reducible refine' HH.w_modI ?k1 ?_); (case k1 => first | (with_reducible assumption) | omega))
  | ((with_reducible refine' HH.w_divI ?k1 ?_); (case k1 => (constructor <;> omega)))))); (try (with_reducible refine HH.isIf ?_)))
instance i_tLamV {T : List (Addr × Str)} {lt : LamT} {σ : L2.St} {H : Hp} {Q : VK} : Stp (tLamV T lt σ H Q) (LamX.Tabs T H ∧ ∀ f c H', LamX.ExtN H H' → LamX.Tabs T H' → H f = none → H' f = some (LamO f lt c) → H' c = some (LamX.CodeO c lt.q) → Q (.ref f) H') := ⟨fun h => h⟩
section
variable (K : PySem.W.Frag)
/-- the classes of a refusal, as due -/
theorem w_neKin {H : Hp} {Q : VK} {a b : Addr} {i : Fin 9} (ha : H a = some (.lst (kinV (some i)))) (hb : H b = some (.lst (kinV (some i)))) (q : Q (.bl false) H) : rNeD K (.ref a) (.ref b) H Q := by
  have hd : DpAll K H (kinV (some i)) [.str (xname i), .bool true] := .cons (.str _) (.cons (.bl _) .nil)
  have hl : ∀ i : Fin 9, PyData.canLayAll0 [.str (xname i), .bool true] = true := by decide +kernel
  have hs : SeqAt.shaped (.list [.str (xname i), .bool true]) = true := by
    show (PyData.canLayAll0 [.str (xname i), .bool true] && decide (0 + 1 ≤ 64)) = true
    rw [hl i]
    rfl
  exact ⟨_, _, .lst (sqL_at ha) hd, .lst (sqL_at hb) hd, hs, hs, by rw [show PyData.eqv (.list [.str (xname i), .bool true]) (.list [.str (xname i), .bool true]) = true from SeqAt.eqvAll_refl _ (hl i)]; exact q⟩
end
section
variable {K : PySem.W.Frag} {CT : Addr}

variable {T : List (Addr × Str)} {p : Addr} {bs : List Addr} {H H' : Hp}
/-- a talk's list is no bag's -/
theorem bag_tk {x l c : Addr} {sts : List State} (h : BagOk K H c) (t : TkAt K CT x l H sts) (ne : sts ≠ []) (m : Mv l H H') : BagOk K H' c := by
  obtain ⟨dd, i, ns, h1, h2, h3⟩ := h
  obtain ⟨dx, xs, t1, t2, t3⟩ := t
  have inv : ∀ {i : Int} {d : PyData}, ¬ ∃ st, d = stD st ∧ Dp K H (.int i) d := fun ⟨st, e, z⟩ => by
    subst e
    cases z
  obtain ⟨st, sts, rfl⟩ : ∃ a b, sts = a :: b := by
    cases sts with
    | nil => exact absurd rfl ne
    | cons a b => exact ⟨a, b, rfl⟩
  have n1 : c ≠ l := fun e => by
    rw [e, t2] at h1
    cases h1
    cases t3 with
    | cons g1 g2 =>
      cases sts with
      | nil => cases g2
      | cons a b =>
        cases g2 with
        | cons g3 g4 => exact inv ⟨_, rfl, g3⟩
  have n2 : dd ≠ l := fun e => by
    rw [e, t2] at h2
    have h2 := HO.lst.inj (Option.some.inj h2)
    subst h2
    cases ns with
    | nil => cases t3
    | cons a b =>
      cases t3 with
      | cons g1 g2 => exact inv ⟨_, rfl, g1⟩
  exact ⟨dd, i, ns, m.but _ _ n1 h1, m.but _ _ n2 h2, h3⟩
/-- under a draw a talk stands -/
theorem TkAt.dr {x l b : Addr} {sts : List State} (t : TkAt K CT x l H sts) (ne : sts ≠ []) (d : Dr K b H H') : TkAt K CT x l H' sts := by
  obtain ⟨dx, xs, t1, t2, t3⟩ := id t
  obtain ⟨dd, i, ns, h1, h2, h3⟩ := d.b0
  have n1 : x ≠ b := fun e => by
    rw [e, h1] at t1
    cases t1
  have n2 : l ≠ b := fun e => by
    have := bag_tk (CT := CT) (H' := upd H l (.lst [])) d.b0 t ne (mv_set t2)
    obtain ⟨dd, i, ns, g1, _⟩ := this
    rw [← e, upd_same] at g1
    cases g1
  exact ⟨dx, xs, d.at t1 n1, d.at t2 n2, d.tp.dpAll _ _ (noLs_sts _) t3⟩
/-- a talk stands where all but tables stands -/
theorem TkAt.extN {x l : Addr} {sts : List State} (t : TkAt K CT x l H sts) (e : LamX.ExtN H H') : TkAt K CT x l H' sts := by
  obtain ⟨dx, xs, t1, t2, t3⟩ := t
  have tp : Tp K H H' := fun a ys q => by
    rcases q with (q | ⟨o, q⟩) | q
    · exact .inl (.inl (e _ _ q fun _ z => by cases z))
    · exact .inl (.inr ⟨o, e _ _ q fun _ z => by cases z⟩)
    · exact .inr q
  exact ⟨dx, xs, e _ _ t1 (fun _ z => by cases z), e _ _ t2 (fun _ z => by cases z), tp.dpAll _ _ (noLs_sts _) t3⟩
variable (K)
def sp_lawT (T : List (Addr × Str)) : Sp := fun vs H Q _ => ∃ (a : Addr) (ns : List Int), vs = [.ref a] ∧ SqL K H a (ns.map V.int) ∧ ns.length ≤ 63 ∧ (∀ q ∈ T, H q.1 = some (.tbl #[])) ∧ ∀ H', Q (.bl true) H'
theorem len_lawT (T : List (Addr × Str)) : ∀ vs H Q E, sp_lawT K T vs H Q E → vs.length = 1 := by rintro _ _ _ _ ⟨_, _, rfl, _⟩; rfl
end
section
variable {K : PySem.W.Frag} {CT : Addr} {T : List (Addr × Str)} {p : Addr} {bs : List Addr} {H H' : Hp}
theorem bags_ext (e : LamX.ExtN H H') (h : H p = some (.lst (bs.map V.ref)) ∧ ∀ c ∈ bs, BagOk K H c ∧ p ≠ c) : H' p = some (.lst (bs.map V.ref)) ∧ ∀ c ∈ bs, BagOk K H' c ∧ p ≠ c :=
  ⟨e _ _ h.1 (fun _ z => by cases z), fun c hc => ⟨by
    obtain ⟨d, i, ns, h1, h2, h3⟩ := (h.2 c hc).1
    exact ⟨d, i, ns, e _ _ h1 (fun _ z => by cases z), e _ _ h2 (fun _ z => by cases z), h3⟩, (h.2 c hc).2⟩⟩
theorem ext_tp (e : LamX.ExtN H H') : Tp K H H' := fun a ys q => by
  rcases q with (q | ⟨o, q⟩) | q
  · exact .inl (.inl (e _ _ q fun _ z => by cases z))
  · exact .inl (.inr ⟨o, e _ _ q fun _ z => by cases z⟩)
  · exact .inr q
theorem tabs_mv {l : Addr} (t : LamX.Tabs T H) (m : Mv l H H') : LamX.Tabs T H' := fun q hq => by
  obtain ⟨ps, a1, a2, a3⟩ := t q hq
  obtain ⟨zs, hl⟩ := m.l0
  refine ⟨ps, m.but _ _ (fun z => by rw [z, hl] at a1; cases a1) a1, a2, fun pos cv h => ?_⟩
  obtain ⟨c, e1, e2⟩ := a3 pos cv h
  exact ⟨c, e1, m.but _ _ (fun z => by
    rw [z, hl] at e2
    have := Option.some.inj e2
    unfold LamX.CodeO at this
    cases this) e2⟩
end
section
variable (K : PySem.W.Frag)
theorem w_eqKin {H : Hp} {Q : VK} {a b : Addr} {i : Fin 9} (ha : H a = some (.lst (kinV (some i)))) (hb : H b = some (.lst (kinV (some i)))) (q : Q (.bl true) H) : rEqD K (.ref a) (.ref b) H Q := by
  have hd : DpAll K H (kinV (some i)) [.str (xname i), .bool true] := .cons (.str _) (.cons (.bl _) .nil)
  have hl : ∀ i : Fin 9, PyData.canLayAll0 [.str (xname i), .bool true] = true := by decide +kernel
  have hs : SeqAt.shaped (.list [.str (xname i), .bool true]) = true := by
    show (PyData.canLayAll0 [.str (xname i), .bool true] && decide (0 + 1 ≤ 64)) = true
    rw [hl i]
    rfl
  exact ⟨_, _, .lst (sqL_at ha) hd, .lst (sqL_at hb) hd, hs, hs, by rw [show PyData.eqv (.list [.str (xname i), .bool true]) (.list [.str (xname i), .bool true]) = true from SeqAt.eqvAll_refl _ (hl i)]; exact q⟩
theorem w_neNone {H : Hp} {Q : VK} {a b : Addr} (ha : H a = some (.lst [])) (hb : H b = some (.lst [])) (q : Q (.bl false) H) : rNeD K (.ref a) (.ref b) H Q :=
  ⟨.list [], .list [], .lst (sqL_at ha) .nil, .lst (sqL_at hb) .nil, rfl, rfl, q⟩
theorem w_eqNone {H : Hp} {Q : VK} {a b : Addr} (ha : H a = some (.lst [])) (hb : H b = some (.lst [])) (q : Q (.bl true) H) : rEqD K (.ref a) (.ref b) H Q :=
  ⟨.list [], .list [], .lst (sqL_at ha) .nil, .lst (sqL_at hb) .nil, rfl, rfl, q⟩
end
section
variable {K : PySem.W.Frag} {C : XCls} {T : List (Addr × Str)} {H H' H2 : Hp} {Q : VK} {v : V} {r : Row}
theorem ext_sqL {a : Addr} {xs : List V} (e : LamX.ExtN H H') (h : SqL K H a xs) : SqL K H' a xs := by
  rcases h with (h | ⟨o, h⟩) | h
  · exact .inl (.inl (e _ _ h fun _ z => by cases z))
  · exact .inl (.inr ⟨o, e _ _ h fun _ z => by cases z⟩)
  · exact .inr h
mutual
theorem ext_dp (e : LamX.ExtN H H') : ∀ (d : PyData) (v : V), Dp K H v d → Dp K H' v d
  | .none, _, h => by cases h; exact .non
  | .bool b, _, h => by cases h; exact .bl b
  | .int i, _, h => by cases h; exact .int i
  | .str x, _, h => by cases h; exact .str x
  | .list ds, _, h => by
    cases h with
    | lst hs ha => exact .lst (ext_sqL e hs) (ext_dpAll e ds _ ha)
  | .tuple ds, _, h => by
    cases h with
    | tup hs ha => exact .tup (ext_tp e _ _ hs) (ext_dpAll e ds _ ha)
theorem ext_dpAll (e : LamX.ExtN H H') : ∀ (ds : List PyData) (vs : List V), DpAll K H vs ds → DpAll K H' vs ds
  | [], _, h => by cases h; exact .nil
  | d :: ds, _, h => by
    cases h with
    | cons h1 h2 => exact .cons (ext_dp e d _ h1) (ext_dpAll e ds _ h2)
end
/-- all but the tables stands -/
structure Xt (T : List (Addr × Str)) (H H' : Hp) : Prop where
  e : LamX.ExtN H H'
  t : LamX.Tabs T H'
theorem Xt.refl (t : LamX.Tabs T H) : Xt T H H := ⟨LamX.ExtN.refl H, t⟩
theorem Xt.same (x : Xt T H H') (s : Same H' H2) : Xt T H H2 := ⟨x.e.trans (LamX.ExtN.of s), x.t.ext s⟩
theorem Xt.trans (x : Xt T H H') (y : Xt T H' H2) : Xt T H H2 := ⟨x.e.trans y.e, y.t⟩
theorem BadR.xt (h : BadR K H v) (x : Xt T H H') : BadR K H' v := let ⟨d, a, b⟩ := h; ⟨d, ext_dp x.e _ _ a, b⟩
theorem BadWd.xt (h : BadWd K H v) (x : Xt T H H') : BadWd K H' v := let ⟨d, a, b⟩ := h; ⟨d, ext_dp x.e _ _ a, b⟩
theorem BadL.xt (h : BadL K H v) (x : Xt T H H') : BadL K H' v := let ⟨d, a, b⟩ := h; ⟨d, ext_dp x.e _ _ a, b⟩
theorem BadO.xt (h : BadO K H v) (x : Xt T H H') : BadO K H' v := let ⟨d, a, b⟩ := h; ⟨d, ext_dp x.e _ _ a, b⟩
theorem BadN.xt {m : Int} (h : BadN K H v m) (x : Xt T H H') : BadN K H' v m := let ⟨d, a, b⟩ := h; ⟨d, ext_dp x.e _ _ a, b⟩
theorem RowAt.xt (h : RowAt K H v r) (x : Xt T H H') : RowAt K H' v r := ⟨ext_dp x.e _ _ h.1, h.2⟩
theorem Xt.at {a : Addr} {xs : List V} (x : Xt T H H') (h : H a = some (.tup xs)) : H' a = some (.tup xs) := x.e _ _ h fun _ z => by cases z
variable {S : Addr → Option Sp} {SL : LamT → Sp → Prop} {f : Addr} {o1 o2 o3 : V} {sp : Sp}
theorem w_ref {i : Fin 9} (hS : S f = some sp ∨ ∃ (lt : LamT) (c : Addr), SL lt sp ∧ H f = some (LamO f lt c) ∧ H c = some (LamX.CodeO c lt.q)) (hk : C.ok i = true) (h : ∀ (H1 : Hp) (Q' : VK) (E' : XK), Same H H1 → Rf C i H1 E' → sp [o1, o2, o3] H1 Q' E')
    (q : ∀ (pk : Addr) (H' : Hp), Same H H' → H' pk = some (.lst (kinV (some i))) → Q (.ref pk) H') {E : XK} : sp_l_refused K C S SL [.ref f, o1, o2, o3] H Q E :=
  ⟨f, o1, o2, o3, sp, some i, Same H, rfl, hS, (fun j hj => by cases hj; exact hk), (fun H1 p0 Q1 E1 s1 _ _ hE _ => h H1 Q1 E1 s1 (fun H2 s2 => hE i rfl H2 (s1.trans s2))), (fun _ _ a b => a.trans b), fun pk H' s hp => q pk H' s hp⟩
theorem w_fine (hS : S f = some sp ∨ ∃ (lt : LamT) (c : Addr), SL lt sp ∧ H f = some (LamO f lt c) ∧ H c = some (LamX.CodeO c lt.q)) (h : ∀ (H1 : Hp) (Q' : VK) (E' : XK), Same H H1 → Fine H1 Q' → sp [o1, o2, o3] H1 Q' E')
    (q : ∀ (pk : Addr) (H' : Hp), Same H H' → H' pk = some (.lst []) → Q (.ref pk) H') {E : XK} : sp_l_refused K C S SL [.ref f, o1, o2, o3] H Q E :=
  ⟨f, o1, o2, o3, sp, none, Same H, rfl, hS, (fun j hj => by cases hj), (fun H1 p0 Q1 E1 s1 _ hp0 _ hN => h H1 Q1 E1 s1 (fun v H2 s2 => hN rfl v H2 (s1.trans s2) (s2 _ _ hp0))), (fun _ _ a b => a.trans b), fun pk H' s hp => q pk H' s hp⟩
end
section
variable (K : PySem.W.Frag) (C : XCls) (S : Addr → Option Sp)
def lamB1 : Sp := fun vs H Q E => ∃ (f : Addr) (b c : V) (sp : Sp), vs = [.ref f, b, c] ∧ S f = some sp ∧ sp [b] H Q E
def lamB2 : Sp := fun vs H Q E => ∃ (f : Addr) (b c : V) (sp : Sp), vs = [.ref f, b, c] ∧ S f = some sp ∧ sp [b, c] H Q E
theorem len_B1 : ∀ vs H Q E, lamB1 S vs H Q E → vs.length = 3 := by rintro _ _ _ _ ⟨_, _, _, _, rfl, _⟩; rfl
theorem len_B2 : ∀ vs H Q E, lamB2 S vs H Q E → vs.length = 3 := by rintro _ _ _ _ ⟨_, _, _, _, rfl, _⟩; rfl
def sp_lam0 (_ : PySem.W.Frag) (S : Addr → Option Sp) : Sp := lamB1 S
theorem len_lam0 : ∀ vs H Q E, sp_lam0 K S vs H Q E → vs.length = 3 := len_B1 S
def sp_lam1 (_ : PySem.W.Frag) (S : Addr → Option Sp) : Sp := lamB1 S
theorem len_lam1 : ∀ vs H Q E, sp_lam1 K S vs H Q E → vs.length = 3 := len_B1 S
def sp_lam2 (_ : PySem.W.Frag) (S : Addr → Option Sp) : Sp := lamB2 S
theorem len_lam2 : ∀ vs H Q E, sp_lam2 K S vs H Q E → vs.length = 3 := len_B2 S
def sp_lam3 (_ : PySem.W.Frag) (S : Addr → Option Sp) : Sp := lamB2 S
theorem len_lam3 : ∀ vs H Q E, sp_lam3 K S vs H Q E → vs.length = 3 := len_B2 S
def sp_lam4 (_ : PySem.W.Frag) (S : Addr → Option Sp) : Sp := lamB2 S
theorem len_lam4 : ∀ vs H Q E, sp_lam4 K S vs H Q E → vs.length = 3 := len_B2 S
def sp_lam7 (_ : PySem.W.Frag) (S : Addr → Option Sp) : Sp := lamB2 S
theorem len_lam7 : ∀ vs H Q E, sp_lam7 K S vs H Q E → vs.length = 3 := len_B2 S
def sp_lam5 : Sp := fun vs H Q E => ∃ (a b c : V), vs = [a, b, c] ∧ sp_letter_outX K C [a, b] H Q E
theorem len_lam5 : ∀ vs H Q E, sp_lam5 K C vs H Q E → vs.length = 3 := by rintro _ _ _ _ ⟨_, _, _, rfl, _⟩; rfl
def sp_lam6 : Sp := fun vs H Q E => ∃ (a b c : V), vs = [a, b, c] ∧ sp_outX K C [a, b] H Q E
theorem len_lam6 : ∀ vs H Q E, sp_lam6 K C vs H Q E → vs.length = 3 := by rintro _ _ _ _ ⟨_, _, _, rfl, _⟩; rfl
def sp_lam10 : Sp := fun vs H Q E => ∃ (a b c : V), vs = [a, b, c] ∧ sp_comeX K C [a, b] H Q E
theorem len_lam10 : ∀ vs H Q E, sp_lam10 K C vs H Q E → vs.length = 3 := by rintro _ _ _ _ ⟨_, _, _, rfl, _⟩; rfl
def sp_lam8 : Sp := fun vs H Q E => ∃ (a b c : V), vs = [a, b, c] ∧ sp_undone_byX K C [a] H Q E
theorem len_lam8 : ∀ vs H Q E, sp_lam8 K C vs H Q E → vs.length = 3 := by rintro _ _ _ _ ⟨_, _, _, rfl, _⟩; rfl
def sp_lam9 : Sp := fun vs H Q E => ∃ (a b c : V), vs = [a, b, c] ∧ sp_undone_byX K C [a] H Q E
theorem len_lam9 : ∀ vs H Q E, sp_lam9 K C vs H Q E → vs.length = 3 := by rintro _ _ _ _ ⟨_, _, _, rfl, _⟩; rfl
def sp_l_rows_refused (K : PySem.W.Frag) (T : List (Addr × Str)) : Sp := fun vs H Q _ => ∃ (hv nv : V) (r : Row), vs = [hv, nv] ∧ RowAt K H hv r ∧ BadR K H nv ∧ LamX.Tabs T H ∧ ∀ H', Xt T H H' → Q (.bl true) H'
theorem len_l_rows_refused (T : List (Addr × Str)) : ∀ vs H Q E, sp_l_rows_refused K T vs H Q E → vs.length = 2 := by rintro _ _ _ _ ⟨_, _, _, rfl, _⟩; rfl
def sp_l_words_refused (K : PySem.W.Frag) (T : List (Addr × Str)) : Sp := fun vs H Q _ => ∃ (hv : V) (r : Row), vs = [hv] ∧ RowAt K H hv r ∧ LamX.Tabs T H ∧ ∀ H', Xt T H H' → Q (.bl true) H'
theorem len_l_words_refused (T : List (Addr × Str)) : ∀ vs H Q E, sp_l_words_refused K T vs H Q E → vs.length = 1 := by rintro _ _ _ _ ⟨_, _, rfl, _⟩; rfl
end
def t_lam0 (K : PySem.W.Frag) (S : Addr → Option Sp) (E : XK) : TE :=
  (tCallN 0 S (fun c d _ H => E c d H) (tCons (tVar 1) tNil))

def t_lam1 (K : PySem.W.Frag) (S : Addr → Option Sp) (E : XK) : TE :=
  (tCallN 0 S (fun c d _ H => E c d H) (tCons (tVar 1) tNil))

def t_lam2 (K : PySem.W.Frag) (S : Addr → Option Sp) (E : XK) : TE :=
  (tCallN 0 S (fun c d _ H => E c d H) (tCons (tVar 1) (tCons (tVar 2) tNil)))

def t_lam3 (K : PySem.W.Frag) (S : Addr → Option Sp) (E : XK) : TE :=
  (tCallN 0 S (fun c d _ H => E c d H) (tCons (tVar 1) (tCons (tVar 2) tNil)))

def t_lam4 (K : PySem.W.Frag) (S : Addr → Option Sp) (E : XK) : TE :=
  (tCallN 0 S (fun c d _ H => E c d H) (tCons (tVar 1) (tCons (tVar 2) tNil)))

def t_lam5 (K : PySem.W.Frag) (C : XCls) (E : XK) : TE :=
  (tCall (sp_letter_outX K C) [] E (tCons (tVar 0) (tCons (tVar 1) tNil)))

def t_lam6 (K : PySem.W.Frag) (C : XCls) (E : XK) : TE :=
  (tCall (sp_outX K C) [] E (tCons (tVar 0) (tCons (tVar 1) tNil)))

def t_lam7 (K : PySem.W.Frag) (S : Addr → Option Sp) (E : XK) : TE :=
  (tCallN 0 S (fun c d _ H => E c d H) (tCons (tVar 1) (tCons (tVar 2) tNil)))

def t_lam8 (K : PySem.W.Frag) (C : XCls) (E : XK) : TE :=
  (tCall (sp_undone_byX K C) [] E (tCons (tVar 0) tNil))

def t_lam9 (K : PySem.W.Frag) (C : XCls) (E : XK) : TE :=
  (tCall (sp_undone_byX K C) [] E (tCons (tVar 0) tNil))

def t_lam10 (K : PySem.W.Frag) (C : XCls) (E : XK) : TE :=
  (tCall (sp_comeX K C) [] E (tCons (tVar 0) (tCons (tVar 1) tNil)))

def t_l_rows_refused (K : PySem.W.Frag) (C : XCls) (S : Addr → Option Sp) (SL : LamT → Sp → Prop) (T : List (Addr × Str)) (lam0 : LamT) (lam1 : LamT) (lam2 : LamT) (lam3 : LamT) (f_does_nothing : Addr) (f_round_of : Addr) (f_first_said : Addr) (f_how_many : Addr) (f_lengths : Addr) (f_parting : Addr) (f_are_alike : Addr) (f_letter_out : Addr) (f_least_for : Addr) (f_come : Addr) (f_out : Addr) (f_who_can : Addr) (f_come_alike : Addr) (f_places : Addr) : TS :=
  (tSeq (tFor (iTup K (tTup (tCons (tC (.ref f_round_of)) (tCons (tC (.ref f_does_nothing)) tNil)))) (gName 2)
  (tSeq (tIfS (tTest (tOp (rNeD K) (tCall (sp_l_refused K C S SL) [] E0 (tCons (tLamV T lam0) (tCons (tVar 2) (tCons (tVar 1) (tCons (tC (.int 0)) tNil))))) (tLst (tCons (tC (.str "NoRow")) (tCons (tC (.bl true)) tNil))))) (tRet (tC (.bl false))) tNext)
  (tIfS (tTest (tOp (rNeD K) (tCall (sp_l_refused K C S SL) [] E0 (tCons (tLamV T lam1) (tCons (tVar 2) (tCons (tVar 0) (tCons (tC (.int 0)) tNil))))) (tLst tNil))) (tRet (tC (.bl false))) tNext)))
  (tSeq (tFor (iTup K (tTup (tCons (tC (.ref f_out)) (tCons (tC (.ref f_come)) (tCons (tC (.ref f_least_for)) (tCons (tC (.ref f_letter_out)) (tCons (tC (.ref f_are_alike)) (tCons (tC (.ref f_parting)) (tCons (tC (.ref f_lengths)) (tCons (tC (.ref f_how_many)) (tCons (tC (.ref f_first_said)) tNil))))))))))) (gName 2)
  (tIfS (tTest (tOp (rNeD K) (tCall (sp_l_refused K C S SL) [] E0 (tCons (tLamV T lam2) (tCons (tVar 2) (tCons (tVar 1) (tCons (tC .non) tNil))))) (tLst (tCons (tC (.str "NoRow")) (tCons (tC (.bl true)) tNil))))) (tRet (tC (.bl false))) tNext))
  (tSeq (tFor (iTup K (tTup (tCons (tC (.ref f_places)) (tCons (tC (.ref f_come_alike)) (tCons (tC (.ref f_who_can)) tNil))))) (gName 2)
  (tIfS (tTest (tOp (rNeD K) (tCall (sp_l_refused K C S SL) [] E0 (tCons (tVar 2) (tCons (tVar 1) (tCons (tC .non) (tCons (tC .non) tNil))))) (tLst (tCons (tC (.str "NoRow")) (tCons (tC (.bl true)) tNil))))) (tRet (tC (.bl false))) tNext))
  (tSeq (tFor (iTup K (tTup (tCons (tC (.ref f_are_alike)) (tCons (tC (.ref f_parting)) tNil)))) (gName 2)
  (tIfS (tTest (tOp (rNeD K) (tCall (sp_l_refused K C S SL) [] E0 (tCons (tLamV T lam3) (tCons (tVar 2) (tCons (tVar 0) (tCons (tVar 1) tNil))))) (tLst (tCons (tC (.str "NoRow")) (tCons (tC (.bl true)) tNil))))) (tRet (tC (.bl false))) tNext))
  (tRet (tC (.bl true)))))))

def t_l_words_refused (K : PySem.W.Frag) (C : XCls) (S : Addr → Option Sp) (SL : LamT → Sp → Prop) (T : List (Addr × Str)) (lam4 : LamT) (lam5 : LamT) (lam6 : LamT) (f_first_said : Addr) (f_how_many : Addr) (f_lengths : Addr) (f_out : Addr) (f_come_alike : Addr) (f_places : Addr) : TS :=
  (tSeq (tFor (iTup K (tTup (tCons (tC .non) (tCons (tC (.str "A")) (tCons (tC (.str "a b")) (tCons (tOp rMulS (tC (.str "a")) (tC (.int 201))) (tCons (tC (.int 7)) (tCons (tTup (tCons (tC (.str "a")) tNil)) (tCons (tC (.bl true)) tNil))))))))) (gName 1)
  (tSeq (tFor (iTup K (tTup (tCons (tC (.ref f_out)) (tCons (tC (.ref f_lengths)) (tCons (tC (.ref f_how_many)) (tCons (tC (.ref f_first_said)) tNil)))))) (gName 2)
  (tIfS (tTest (tOp (rNeD K) (tCall (sp_l_refused K C S SL) [] E0 (tCons (tLamV T lam4) (tCons (tVar 2) (tCons (tVar 0) (tCons (tVar 1) tNil))))) (tLst (tCons (tC (.str "NoWord")) (tCons (tC (.bl true)) tNil))))) (tRet (tC (.bl false))) tNext))
  (tSeq (tIfS (tTest (tOp (rNeD K) (tCall (sp_l_refused K C S SL) [] E0 (tCons (tC (.ref f_come_alike)) (tCons (tVar 0) (tCons (tVar 1) (tCons (tC .non) tNil))))) (tLst (tCons (tC (.str "NoWord")) (tCons (tC (.bl true)) tNil))))) (tRet (tC (.bl false))) tNext)
  (tSeq (tIfS (tTest (tOp (rNeD K) (tCall (sp_l_refused K C S SL) [] E0 (tCons (tC (.ref f_come_alike)) (tCons (tVar 0) (tCons (tC (.str "")) (tCons (tVar 1) tNil))))) (tLst (tCons (tC (.str "NoWord")) (tCons (tC (.bl true)) tNil))))) (tRet (tC (.bl false))) tNext)
  (tIfS (tTest (tOp (rNeD K) (tCall (sp_l_refused K C S SL) [] E0 (tCons (tC (.ref f_places)) (tCons (tVar 0) (tCons (tC (.int 0)) (tCons (tVar 1) tNil))))) (tLst (tCons (tC (.str "NoWord")) (tCons (tC (.bl true)) tNil))))) (tRet (tC (.bl false))) tNext)))))
  (tSeq (tFor (iTup K (tTup (tCons (tC .non) (tCons (tC (.str "")) (tCons (tC (.str "ab")) (tCons (tC (.str "A")) (tCons (tC (.int 7)) (tCons (tC (.str " ")) tNil)))))))) (gName 1)
  (tIfS (tTest (tOp (rNeD K) (tCall (sp_l_refused K C S SL) [] E0 (tCons (tLamV T lam5) (tCons (tVar 0) (tCons (tVar 1) (tCons (tC (.int 0)) tNil))))) (tLst (tCons (tC (.str "NoLetter")) (tCons (tC (.bl true)) tNil))))) (tRet (tC (.bl false))) tNext))
  (tRet (tOp (rEqD K) (tCall (sp_l_refused K C S SL) [] E0 (tCons (tLamV T lam6) (tCons (tVar 0) (tCons (tOp rMulS (tC (.str "z")) (tC (.int 200))) (tCons (tC (.int 0)) tNil))))) (tLst tNil)))))

section
variable (K : PySem.W.Frag) (C : XCls) (S : Addr → Option Sp)
theorem sem_lam0 : ∀ vs H Q E, sp_lam0 K S vs H Q E → t_lam0 K S E (start ["a", "b", "c"] vs) H Q := by
  rintro vs H Q E ⟨f, b, c, sp, rfl, h1, h2⟩
  show t_lam0 K S E [some (.ref f), some b, some c] H Q
  unfold t_lam0
  refine ⟨f, sp, rfl, h1, ?_⟩
  walk_at "w"
  exact h2
theorem sem_lam1 : ∀ vs H Q E, sp_lam1 K S vs H Q E → t_lam1 K S E (start ["a", "b", "c"] vs) H Q := by
  rintro vs H Q E ⟨f, b, c, sp, rfl, h1, h2⟩
  show t_lam1 K S E [some (.ref f), some b, some c] H Q
  unfold t_lam1
  refine ⟨f, sp, rfl, h1, ?_⟩
  walk_at "w"
  exact h2
theorem sem_lam2 : ∀ vs H Q E, sp_lam2 K S vs H Q E → t_lam2 K S E (start ["a", "b", "c"] vs) H Q := by
  rintro vs H Q E ⟨f, b, c, sp, rfl, h1, h2⟩
  show t_lam2 K S E [some (.ref f), some b, some c] H Q
  unfold t_lam2
  refine ⟨f, sp, rfl, h1, ?_⟩
  walk_at "w"
  exact h2
theorem sem_lam3 : ∀ vs H Q E, sp_lam3 K S vs H Q E → t_lam3 K S E (start ["a", "b", "c"] vs) H Q := by
  rintro vs H Q E ⟨f, b, c, sp, rfl, h1, h2⟩
  show t_lam3 K S E [some (.ref f), some b, some c] H Q
  unfold t_lam3
  refine ⟨f, sp, rfl, h1, ?_⟩
  walk_at "w"
  exact h2
theorem sem_lam4 : ∀ vs H Q E, sp_lam4 K S vs H Q E → t_lam4 K S E (start ["a", "b", "c"] vs) H Q := by
  rintro vs H Q E ⟨f, b, c, sp, rfl, h1, h2⟩
  show t_lam4 K S E [some (.ref f), some b, some c] H Q
  unfold t_lam4
  refine ⟨f, sp, rfl, h1, ?_⟩
  walk_at "w"
  exact h2
theorem sem_lam7 : ∀ vs H Q E, sp_lam7 K S vs H Q E → t_lam7 K S E (start ["a", "b", "c"] vs) H Q := by
  rintro vs H Q E ⟨f, b, c, sp, rfl, h1, h2⟩
  show t_lam7 K S E [some (.ref f), some b, some c] H Q
  unfold t_lam7
  refine ⟨f, sp, rfl, h1, ?_⟩
  walk_at "w"
  exact h2
theorem sem_lam5 : ∀ vs H Q E, sp_lam5 K C vs H Q E → t_lam5 K C E (start ["a", "b", "c"] vs) H Q := by
  rintro vs H Q E ⟨a, b, c, rfl, h⟩
  show t_lam5 K C E [some a, some b, some c] H Q
  unfold t_lam5
  walk_at "w"
  exact h
theorem sem_lam6 : ∀ vs H Q E, sp_lam6 K C vs H Q E → t_lam6 K C E (start ["a", "b", "c"] vs) H Q := by
  rintro vs H Q E ⟨a, b, c, rfl, h⟩
  show t_lam6 K C E [some a, some b, some c] H Q
  unfold t_lam6
  walk_at "w"
  exact h
theorem sem_lam8 : ∀ vs H Q E, sp_lam8 K C vs H Q E → t_lam8 K C E (start ["a", "b", "c"] vs) H Q := by
  rintro vs H Q E ⟨a, b, c, rfl, h⟩
  show t_lam8 K C E [some a, some b, some c] H Q
  unfold t_lam8
  walk_at "w"
  exact h
theorem sem_lam9 : ∀ vs H Q E, sp_lam9 K C vs H Q E → t_lam9 K C E (start ["a", "b", "c"] vs) H Q := by
  rintro vs H Q E ⟨a, b, c, rfl, h⟩
  show t_lam9 K C E [some a, some b, some c] H Q
  unfold t_lam9
  walk_at "w"
  exact h
theorem sem_lam10 : ∀ vs H Q E, sp_lam10 K C vs H Q E → t_lam10 K C E (start ["a", "b", "c"] vs) H Q := by
  rintro vs H Q E ⟨a, b, c, rfl, h⟩
  show t_lam10 K C E [some a, some b, some c] H Q
  unfold t_lam10
  walk_at "w"
  exact h
end
section
variable {K : PySem.W.Frag} {C : XCls} {S : Addr → Option Sp} {SL : LamT → Sp → Prop} {T : List (Addr × Str)} {H : Hp} {σ : L2.St} {D : Ends} {u : TS} {lam : LamT} {t0 t1 t2 t3 : TE} {f0 : Addr} {o1 o2 o3 : V} {sp : Sp}
/-- if _law_refused(lambda .., ..) != [its class, True]: return False -/
theorem if_lam {i : Fin 9} (hL : SL lam sp) (hk : C.ok i = true) (tabs : LamX.Tabs T H) (ev1 : ∀ (H : Hp) (R : VK), R o1 H → t1 σ H R) (ev2 : ∀ (H : Hp) (R : VK), R o2 H → t2 σ H R) (ev3 : ∀ (H : Hp) (R : VK), R o3 H → t3 σ H R)
    (h : ∀ (H1 : Hp) (Q' : VK) (E' : XK), Xt T H H1 → Rf C i H1 E' → sp [o1, o2, o3] H1 Q' E') (next : ∀ H', Xt T H H' → D.nx σ H') :
    tIfS (tTest (tOp (rNeD K) (tCall (sp_l_refused K C S SL) [] E0 (tCons (tLamV T lam) (tCons t1 (tCons t2 (tCons t3 tNil))))) (tLst (tCons (tC (.str (xname i))) (tCons (tC (.bl true)) tNil))))) u tNext D σ H := by
  refine w_ifNo (fun H' => Xt T H H') (fun QT k => ?_) (fun H' x => next H' x)
  walk_at "v"
  refine ⟨tabs, fun f c H2 eN tb nf hf hc => ?_⟩
  have x2 : Xt T H H2 := ⟨eN, tb⟩
  walk_at "v"
  refine ev1 _ _ ?_
  walk_at "v"
  refine ev2 _ _ ?_
  walk_at "v"
  refine ev3 _ _ ?_
  walk_at "v"
  refine w_ref (.inr ⟨lam, c, hL, hf, hc⟩) hk (fun H3 Q1 E1 s3 hE => h H3 Q1 E1 (x2.same s3) hE) fun pk H3 s3 hpk => ?_
  walk_at "v"
  refine ⟨szOk 2, fun pl nl => ?_⟩
  have sl := same_new (o := .lst [.str (xname i), .bl true]) nl
  refine w_neKin K (i := i) (sl _ _ hpk) upd_same ?_
  walk_at "v"
  exact k _ (x2.same (s3.trans sl))
/-- if _law_refused(lambda .., ..) != []: return False -/
theorem if_lamF (hL : SL lam sp) (tabs : LamX.Tabs T H) (ev1 : ∀ (H : Hp) (R : VK), R o1 H → t1 σ H R) (ev2 : ∀ (H : Hp) (R : VK), R o2 H → t2 σ H R) (ev3 : ∀ (H : Hp) (R : VK), R o3 H → t3 σ H R)
    (h : ∀ (H1 : Hp) (Q' : VK) (E' : XK), Xt T H H1 → Fine H1 Q' → sp [o1, o2, o3] H1 Q' E') (next : ∀ H', Xt T H H' → D.nx σ H') :
    tIfS (tTest (tOp (rNeD K) (tCall (sp_l_refused K C S SL) [] E0 (tCons (tLamV T lam) (tCons t1 (tCons t2 (tCons t3 tNil))))) (tLst tNil))) u tNext D σ H := by
  refine w_ifNo (fun H' => Xt T H H') (fun QT k => ?_) (fun H' x => next H' x)
  walk_at "v"
  refine ⟨tabs, fun f c H2 eN tb nf hf hc => ?_⟩
  have x2 : Xt T H H2 := ⟨eN, tb⟩
  walk_at "v"
  refine ev1 _ _ ?_
  walk_at "v"
  refine ev2 _ _ ?_
  walk_at "v"
  refine ev3 _ _ ?_
  walk_at "v"
  refine w_fine (.inr ⟨lam, c, hL, hf, hc⟩) (fun H3 Q1 E1 s3 hE => h H3 Q1 E1 (x2.same s3) hE) fun pk H3 s3 hpk => ?_
  walk_at "v"
  refine ⟨szOk 0, fun pl nl => ?_⟩
  have sl := same_new (o := .lst []) nl
  refine w_neNone K (sl _ _ hpk) upd_same ?_
  walk_at "v"
  exact k _ (x2.same (s3.trans sl))
/-- if _law_refused(door, ..) != [its class, True]: return False -/
theorem if_door {i : Fin 9} (hS : S f0 = some sp) (hk : C.ok i = true) (tabs : LamX.Tabs T H) (ev0 : ∀ (H : Hp) (R : VK), R (.ref f0) H → t0 σ H R) (ev1 : ∀ (H : Hp) (R : VK), R o1 H → t1 σ H R) (ev2 : ∀ (H : Hp) (R : VK), R o2 H → t2 σ H R) (ev3 : ∀ (H : Hp) (R : VK), R o3 H → t3 σ H R)
    (h : ∀ (H1 : Hp) (Q' : VK) (E' : XK), Xt T H H1 → Rf C i H1 E' → sp [o1, o2, o3] H1 Q' E') (next : ∀ H', Xt T H H' → D.nx σ H') :
    tIfS (tTest (tOp (rNeD K) (tCall (sp_l_refused K C S SL) [] E0 (tCons t0 (tCons t1 (tCons t2 (tCons t3 tNil))))) (tLst (tCons (tC (.str (xname i))) (tCons (tC (.bl true)) tNil))))) u tNext D σ H := by
  refine w_ifNo (fun H' => Xt T H H') (fun QT k => ?_) (fun H' x => next H' x)
  have x2 : Xt T H H := Xt.refl tabs
  walk_at "v"
  refine ev0 _ _ ?_
  walk_at "v"
  refine ev1 _ _ ?_
  walk_at "v"
  refine ev2 _ _ ?_
  walk_at "v"
  refine ev3 _ _ ?_
  walk_at "v"
  refine w_ref (.inl hS) hk (fun H3 Q1 E1 s3 hE => h H3 Q1 E1 (x2.same s3) hE) fun pk H3 s3 hpk => ?_
  walk_at "v"
  refine ⟨szOk 2, fun pl nl => ?_⟩
  have sl := same_new (o := .lst [.str (xname i), .bl true]) nl
  refine w_neKin K (i := i) (sl _ _ hpk) upd_same ?_
  walk_at "v"
  exact k _ (x2.same (s3.trans sl))
end
end HH

namespace HH
open PySem PySem.Spec L2
local macro_rules | `(tactic| walk_at "cy") => `(tactic| first
  | assumption
  | exact L2.upd_same
  | exact L2.sqL_new
  | exact L2.sqT_new
  | exact L2.sqL_at (by assumption)
  | exact L2.sqT_at (by assumption)
  | (refine' L2.Same.seq (by assumption) ?k0; (case k0 => walk_at "cy"))
  | (refine' L2.Same.sqT (by assumption) ?k0; (case k0 => walk_at "cy"))
  | (refine' L2.Same.dat (by assumption) ?k0; (case k0 => walk_at "cy"))
  | (refine' (by assumption : L2.Same _ _) _ _ ?k0; (case k0 => walk_at "cy"))
  | (refine' L2.Same.seq (L2.same_new (by assumption)) ?k0; (case k0 => walk_at "cy"))
  | (refine' L2.Same.sqT (L2.same_new (by assumption)) ?k0; (case k0 => walk_at "cy"))
  | (refine' L2.Same.dat (L2.same_new (by assumption)) ?k0; (case k0 => walk_at "cy"))
  | (refine' L2.same_new (by assumption) _ _ ?k0; (case k0 => walk_at "cy"))
  | (refine' L2.Mv.sqT (by assumption) ?k0; (case k0 => walk_at "cy")))
local macro_rules | `(tactic| walk_at "w") => `(tactic| repeat (first
  | refine HH.stp ?_
  | with_reducible refine L2.iteT ?_
  | with_reducible refine L2.iteF ?_
  | ((with_reducible refine' HH.w_gtup ?k1 ?k2 ?_); (case k1 => walk_at "cy"); (case k2 => exact rfl))
  | ((with_reducible refine' HH.w_ixT ?k1 ?k2 ?_); (case k1 => walk_at "cy"); (case k2 => exact rfl))
  | ((with_reducible refine' HH.w_ixL ?k1 ?k2 ?_); (case k1 => walk_at "cy"); (case k2 => exact rfl))
  | ((with_reducible refine' HH.w_lenL ?k1 ?_); (case k1 => walk_at "cy"))
  | ((with_reducible refine' HH.w_lenT ?k1 ?_); (case k1 => walk_at "cy"))
  | ((with_reducible refine' HH.w_exT ?k1 ?_); (case k1 => walk_at "cy"))
  | ((with_reducible refine' HH.w_exL ?k1 ?_); (case k1 => walk_at "cy"))
  | ((with_reducible refine' HH.w_tyL ?k1 ?_); (case k1 => walk_at "cy"))
  | ((with_reducible refine' HH.w_setL ?k1 ?k2 ?_); (case k1 => walk_at "cy"); (case k2 => exact rfl))
  | ((with_reducible refine' HH.w_modI ?k1 ?_); (case k1 => first | (with_reducible assumption) | omega))
  | ((with_reducible refine' HH.w_divI ?k1 ?_); (case k1 => (constructor <;> omega)))))
local macro_rules | `(tactic| walk_at "v") => `(tactic| ((repeat ((fail_if_success (with_reducible refine HH.isIf ?_)); first
  | refine HH.stp ?_
  | with_reducible refine L2.iteT ?_
  | with_reducible refine L2.iteF ?_
  | ((with_reducible refine' HH.w_gtup ?k1 ?k2 ?_); (case k1 => walk_at "cy"); (case k2 => exact rfl))
  | ((with_reducible refine' HH.w_ixT ?k1 ?k2 ?_); (case k1 => walk_at "cy"); (case k2 => exact rfl))
  | ((with_reducible refine' HH.w_ixL ?k1 ?k2 ?_); (case k1 => walk_at "cy"); (case k2 => exact rfl))
  | ((with_reducible refine' HH.w_lenL ?k1 ?_); (case k1 => walk_at "cy"))
  | ((with_reducible refine' HH.w_lenT ?k1 ?_); (case k1 => walk_at "cy"))
  | ((with_reducible refine' HH.w_exT ?k1 ?_); (case k1 => walk_at "cy"))
  | ((with_reducible refine' HH.w_exL ?k1 ?_); (case k1 => walk_at "cy"))
  | ((with_reducible refine' HH.w_tyL ?k1 ?_); (case k1 => walk_at "cy"))
  | ((with_reducible refine' HH.w_setL ?k1 ?k2 ?_); (case k1 => walk_at "cy"); (case k2 => exact rfl))
  | ((with_reducible refine' HH.w_modI ?k1 ?_); (case k1 => first | (with_reducible assumption) | omega))
  | ((with_reducible refine' HH.w_divI ?k1 ?_); (case k1 => (constructor <;> omega)))))); (try (with_reducible refine HH.isIf ?_)))
section
variable (K : PySem.W.Frag) (C : XCls)
theorem sem_l_rows_refused (S : Addr → Option Sp) (SL : LamT → Sp → Prop) (T : List (Addr × Str)) (lam0 lam1 lam2 lam3 : LamT) (f_does_nothing f_round_of f_first_said f_how_many f_lengths f_parting f_are_alike f_letter_out f_least_for f_come f_out f_who_can f_come_alike f_places : Addr) (TX : XOk K C)
    (hS_does_nothing : S f_does_nothing = some (sp_does_nothingX K C)) (hS_round_of : S f_round_of = some (sp_round_ofX K C)) (hS_first_said : S f_first_said = some (sp_first_saidX K C)) (hS_how_many : S f_how_many = some (sp_how_manyX K C)) (hS_lengths : S f_lengths = some (sp_lengthsX K C)) (hS_parting : S f_parting = some (sp_partingX K C)) (hS_are_alike : S f_are_alike = some (sp_are_alikeX K C)) (hS_letter_out : S f_letter_out = some (sp_letter_outX K C)) (hS_least_for : S f_least_for = some (sp_least_forX K C)) (hS_come : S f_come = some (sp_comeX K C)) (hS_out : S f_out = some (sp_outX K C)) (hS_who_can : S f_who_can = some (sp_who_canX K C)) (hS_come_alike : S f_come_alike = some (sp_come_alikeX K C)) (hS_places : S f_places = some (sp_placesX K C))
    {PP : Addr} (hT : (PP, ("_law_rows_refused.<locals>.<lambda>" : Str)) ∈ T) (hSL0 : SL lam0 (sp_lam0 K S)) (hSL1 : SL lam1 (sp_lam1 K S)) (hSL2 : SL lam2 (sp_lam2 K S)) (hSL3 : SL lam3 (sp_lam3 K S)) (hk0 : C.ok 0 = true) :
    ∀ vs H Q E, sp_l_rows_refused K T vs H Q E → t_l_rows_refused K C S SL T lam0 lam1 lam2 lam3 f_does_nothing f_round_of f_first_said f_how_many f_lengths f_parting f_are_alike f_letter_out f_least_for f_come f_out f_who_can f_come_alike f_places { nx := fun _ H' => Q .non H', rt := Q } (start ["house", "none", "door"] vs) H := by
  rintro vs H Q E ⟨hv, nv, r, rfl, hr, hb, tb, q⟩
  show t_l_rows_refused K C S SL T lam0 lam1 lam2 lam3 f_does_nothing f_round_of f_first_said f_how_many f_lengths f_parting f_are_alike f_letter_out f_least_for f_come f_out f_who_can f_come_alike f_places _ [some hv, some nv, none] H
  unfold t_l_rows_refused
  have vr : ∀ {j : Nat} {v : V} {y : Option V}, [some hv, some nv, y][j]? = some (some v) → ∀ (H : Hp) (R : VK), R v H → tVar j [some hv, some nv, y] H R := fun h H R k => ⟨_, h, k⟩
  have vc : ∀ {v : V} {σ : L2.St} (H : Hp) (R : VK), R v H → tC v σ H R := fun H R k => k
  walk_at "v"
  refine ⟨szOk 2, fun p1 n1 => ?_⟩
  have x1 : Xt T H (upd H p1 (.tup [.ref f_round_of, .ref f_does_nothing])) := (Xt.refl tb).same (same_new n1)
  have h1 : upd H p1 (.tup [.ref f_round_of, .ref f_does_nothing]) p1 = some (.tup [.ref f_round_of, .ref f_does_nothing]) := upd_same
  generalize upd H p1 (.tup [.ref f_round_of, .ref f_does_nothing]) = H1 at x1 h1 ⊢
  walk_at "v"
  refine for_tup (xs := [.ref f_round_of, .ref f_does_nothing]) (fun j σ H' => ∃ y, σ = [some hv, some nv, y] ∧ Xt T H H' ∧ H' p1 = some (.tup [.ref f_round_of, .ref f_does_nothing])) ?_ ?_ ?_ ?_
  · exact ⟨_, rfl, x1, h1⟩
  · rintro j σ H' hj ⟨y, rfl, x2, h2⟩
    exact sqT_at h2
  · rintro j v σ H2 hv' ⟨y, rfl, x2, h2⟩
    obtain ⟨f, sp, rfl, hS, g1, g2⟩ : ∃ f sp, v = V.ref f ∧ S f = some sp ∧ (∀ x (H1 : Hp) (Q' : VK) (E' : XK), BadR K H1 x → Rf C 0 H1 E' → sp [x] H1 Q' E') ∧ ∀ x r (H1 : Hp) (Q' : VK) (E' : XK), RowAt K H1 x r → Fine H1 Q' → sp [x] H1 Q' E' := by
      match j, hv' with
      | 0, h => cases h; exact ⟨_, _, rfl, hS_round_of, fun x H1 Q' E' a b => ⟨x, rfl, .inl ⟨a, b⟩⟩, fun x r H1 Q' E' a b => ⟨x, rfl, .inr ⟨r, a, b⟩⟩⟩
      | 1, h => cases h; exact ⟨_, _, rfl, hS_does_nothing, fun x H1 Q' E' a b => ⟨x, rfl, .inl ⟨a, b⟩⟩, fun x r H1 Q' E' a b => ⟨x, rfl, .inr ⟨r, a, b⟩⟩⟩
      | j + 2, h => cases h
    walk_at "v"
    refine if_lam (i := 0) (o1 := .ref f) (o2 := nv) (o3 := .int 0) hSL0 hk0 x2.t (vr rfl) (vr rfl) vc (fun H3 Q1 E1 x3 hE => ⟨f, nv, _, sp, rfl, hS, g1 _ _ _ _ (hb.xt (x2.trans x3)) hE⟩) (fun H3 x3 => ?_)
    walk_at "v"
    refine if_lamF (o1 := .ref f) (o2 := hv) (o3 := .int 0) hSL1 x3.t (vr rfl) (vr rfl) vc (fun H4 Q1 E1 x4 hE => ⟨f, hv, _, sp, rfl, hS, g2 _ r _ _ _ (hr.xt (x2.trans (x3.trans x4))) hE⟩) (fun H4 x4 => ?_)
    exact ⟨_, rfl, x2.trans (x3.trans x4), (x3.trans x4).at h2⟩
  rintro σ H2 ⟨y, rfl, x2, _⟩
  clear x1 h1 n1
  walk_at "v"
  refine ⟨szOk 9, fun p1 n1 => ?_⟩
  have x3 := x2.same (same_new (o := .tup [.ref f_out, .ref f_come, .ref f_least_for, .ref f_letter_out, .ref f_are_alike, .ref f_parting, .ref f_lengths, .ref f_how_many, .ref f_first_said]) n1)
  have h3 : upd H2 p1 (.tup [.ref f_out, .ref f_come, .ref f_least_for, .ref f_letter_out, .ref f_are_alike, .ref f_parting, .ref f_lengths, .ref f_how_many, .ref f_first_said]) p1 = some (.tup [.ref f_out, .ref f_come, .ref f_least_for, .ref f_letter_out, .ref f_are_alike, .ref f_parting, .ref f_lengths, .ref f_how_many, .ref f_first_said]) := upd_same
  generalize upd H2 p1 (.tup [.ref f_out, .ref f_come, .ref f_least_for, .ref f_letter_out, .ref f_are_alike, .ref f_parting, .ref f_lengths, .ref f_how_many, .ref f_first_said]) = H3 at x3 h3 ⊢
  walk_at "v"
  refine for_tup (xs := [.ref f_out, .ref f_come, .ref f_least_for, .ref f_letter_out, .ref f_are_alike, .ref f_parting, .ref f_lengths, .ref f_how_many, .ref f_first_said]) (fun j σ H' => ∃ y, σ = [some hv, some nv, y] ∧ Xt T H H' ∧ H' p1 = some (.tup [.ref f_out, .ref f_come, .ref f_least_for, .ref f_letter_out, .ref f_are_alike, .ref f_parting, .ref f_lengths, .ref f_how_many, .ref f_first_said])) ?_ ?_ ?_ ?_
  · exact ⟨_, rfl, x3, h3⟩
  · rintro j σ H' hj ⟨y, rfl, x2, h2⟩
    exact sqT_at h2
  · rintro j v σ H2 hv' ⟨y, rfl, x2, h2⟩
    obtain ⟨f, sp, rfl, hS, g1⟩ : ∃ f sp, v = V.ref f ∧ S f = some sp ∧ (∀ x y (H1 : Hp) (Q' : VK) (E' : XK), BadR K H1 x → Rf C 0 H1 E' → sp [x, y] H1 Q' E') := by
      match j, hv' with
      | 0, h => cases h; exact ⟨_, _, rfl, hS_out, fun x y H1 Q' E' a b => ⟨x, y, rfl, .inl ⟨a, b⟩⟩⟩
      | 1, h => cases h; exact ⟨_, _, rfl, hS_come, fun x y H1 Q' E' a b => ⟨x, y, rfl, .inl ⟨a, b⟩⟩⟩
      | 2, h => cases h; exact ⟨_, _, rfl, hS_least_for, fun x y H1 Q' E' a b => ⟨x, y, rfl, .inl ⟨a, b⟩⟩⟩
      | 3, h => cases h; exact ⟨_, _, rfl, hS_letter_out, fun x y H1 Q' E' a b => ⟨x, y, rfl, .inl ⟨a, b⟩⟩⟩
      | 4, h => cases h; exact ⟨_, _, rfl, hS_are_alike, fun x y H1 Q' E' a b => ⟨x, y, rfl, b, .inl a⟩⟩
      | 5, h => cases h; exact ⟨_, _, rfl, hS_parting, fun x y H1 Q' E' a b => ⟨x, y, rfl, b, .inl a⟩⟩
      | 6, h => cases h; exact ⟨_, _, rfl, hS_lengths, fun x y H1 Q' E' a b => ⟨x, y, rfl, .inl ⟨a, b⟩⟩⟩
      | 7, h => cases h; exact ⟨_, _, rfl, hS_how_many, fun x y H1 Q' E' a b => ⟨x, y, rfl, .inl ⟨a, b⟩⟩⟩
      | 8, h => cases h; exact ⟨_, _, rfl, hS_first_said, fun x y H1 Q' E' a b => ⟨x, y, rfl, .inl ⟨a, b⟩⟩⟩
      | j + 9, h => cases h
    walk_at "v"
    refine if_lam (i := 0) (o1 := .ref f) (o2 := nv) (o3 := .non) hSL2 hk0 x2.t (vr rfl) (vr rfl) vc (fun H3 Q1 E1 x3 hE => ⟨f, nv, _, sp, rfl, hS, g1 _ _ _ _ _ (hb.xt (x2.trans x3)) hE⟩) (fun H3 x3 => ?_)
    exact ⟨_, rfl, x2.trans x3, x3.at h2⟩
  rintro σ H2 ⟨y, rfl, x2, _⟩
  clear x3 h3 n1
  walk_at "v"
  refine ⟨szOk 3, fun p1 n1 => ?_⟩
  have x3 := x2.same (same_new (o := .tup [.ref f_places, .ref f_come_alike, .ref f_who_can]) n1)
  have h3 : upd H2 p1 (.tup [.ref f_places, .ref f_come_alike, .ref f_who_can]) p1 = some (.tup [.ref f_places, .ref f_come_alike, .ref f_who_can]) := upd_same
  generalize upd H2 p1 (.tup [.ref f_places, .ref f_come_alike, .ref f_who_can]) = H3 at x3 h3 ⊢
  walk_at "v"
  refine for_tup (xs := [.ref f_places, .ref f_come_alike, .ref f_who_can]) (fun j σ H' => ∃ y, σ = [some hv, some nv, y] ∧ Xt T H H' ∧ H' p1 = some (.tup [.ref f_places, .ref f_come_alike, .ref f_who_can])) ?_ ?_ ?_ ?_
  · exact ⟨_, rfl, x3, h3⟩
  · rintro j σ H' hj ⟨y, rfl, x2, h2⟩
    exact sqT_at h2
  · rintro j v σ H2 hv' ⟨y, rfl, x2, h2⟩
    obtain ⟨f, sp, rfl, hS, g1⟩ : ∃ f sp, v = V.ref f ∧ S f = some sp ∧ (∀ x y z (H1 : Hp) (Q' : VK) (E' : XK), BadR K H1 x → Rf C 0 H1 E' → sp [x, y, z] H1 Q' E') := by
      match j, hv' with
      | 0, h => cases h; exact ⟨_, _, rfl, hS_places, fun x y z H1 Q' E' a b => ⟨x, y, z, rfl, .inl ⟨a, b⟩⟩⟩
      | 1, h => cases h; exact ⟨_, _, rfl, hS_come_alike, fun x y z H1 Q' E' a b => ⟨x, y, z, rfl, .inl ⟨a, b⟩⟩⟩
      | 2, h => cases h; exact ⟨_, _, rfl, hS_who_can, fun x y z H1 Q' E' a b => ⟨x, y, z, rfl, a, b⟩⟩
      | j + 3, h => cases h
    walk_at "v"
    refine if_door (i := 0) (f0 := f) (o1 := nv) (o2 := .non) (o3 := .non) hS hk0 x2.t (vr rfl) (vr rfl) vc vc (fun H3 Q1 E1 x3 hE => g1 _ _ _ _ _ _ (hb.xt (x2.trans x3)) hE) (fun H3 x3 => ?_)
    exact ⟨_, rfl, x2.trans x3, x3.at h2⟩
  rintro σ H2 ⟨y, rfl, x2, _⟩
  clear x3 h3 n1
  walk_at "v"
  refine ⟨szOk 2, fun p1 n1 => ?_⟩
  have x3 := x2.same (same_new (o := .tup [.ref f_are_alike, .ref f_parting]) n1)
  have h3 : upd H2 p1 (.tup [.ref f_are_alike, .ref f_parting]) p1 = some (.tup [.ref f_are_alike, .ref f_parting]) := upd_same
  generalize upd H2 p1 (.tup [.ref f_are_alike, .ref f_parting]) = H3 at x3 h3 ⊢
  walk_at "v"
  refine for_tup (xs := [.ref f_are_alike, .ref f_parting]) (fun j σ H' => ∃ y, σ = [some hv, some nv, y] ∧ Xt T H H' ∧ H' p1 = some (.tup [.ref f_are_alike, .ref f_parting])) ?_ ?_ ?_ ?_
  · exact ⟨_, rfl, x3, h3⟩
  · rintro j σ H' hj ⟨y, rfl, x2, h2⟩
    exact sqT_at h2
  · rintro j v σ H2 hv' ⟨y, rfl, x2, h2⟩
    obtain ⟨f, sp, rfl, hS, g1⟩ : ∃ f sp, v = V.ref f ∧ S f = some sp ∧ (∀ x y r (H1 : Hp) (Q' : VK) (E' : XK), RowAt K H1 x r → BadR K H1 y → Rf C 0 H1 E' → sp [x, y] H1 Q' E') := by
      match j, hv' with
      | 0, h => cases h; exact ⟨_, _, rfl, hS_are_alike, fun x y r H1 Q' E' c a b => ⟨x, y, rfl, b, .inr ⟨r, c, a⟩⟩⟩
      | 1, h => cases h; exact ⟨_, _, rfl, hS_parting, fun x y r H1 Q' E' c a b => ⟨x, y, rfl, b, .inr ⟨r, c, a⟩⟩⟩
      | j + 2, h => cases h
    walk_at "v"
    refine if_lam (i := 0) (o1 := .ref f) (o2 := hv) (o3 := nv) hSL3 hk0 x2.t (vr rfl) (vr rfl) (vr rfl) (fun H3 Q1 E1 x3 hE => ⟨f, hv, _, sp, rfl, hS, g1 _ _ r _ _ _ (hr.xt (x2.trans x3)) (hb.xt (x2.trans x3)) hE⟩) (fun H3 x3 => ?_)
    exact ⟨_, rfl, x2.trans x3, x3.at h2⟩
  rintro σ H2 ⟨y, rfl, x2, _⟩
  walk_at "v"
  exact q _ x2
end
section
variable (K : PySem.W.Frag) (C : XCls)
theorem badW7 {H : Hp} {tt : Addr} (htt : H tt = some (.tup [.str "a"])) (j : Nat) (v : V) (h : [V.non, .str "A", .str "a b", .str (tx (List.replicate 201 97)), .int 7, .ref tt, .bl true][j]? = some v) : BadWd K H v := by
  match j, h with
  | 0, h => cases h; exact ⟨_, .non, rfl, rfl⟩
  | 1, h => cases h; exact ⟨_, .str _, by decide +kernel, by decide +kernel⟩
  | 2, h => cases h; exact ⟨_, .str _, by decide +kernel, by decide +kernel⟩
  | 3, h => cases h; exact ⟨_, .str _, by decide +kernel, by decide +kernel⟩
  | 4, h => cases h; exact ⟨_, .int _, rfl, rfl⟩
  | 5, h => cases h; exact ⟨_, .tup (sqT_at htt) (.cons (.str _) .nil), by decide +kernel, rfl⟩
  | 6, h => cases h; exact ⟨_, .bl _, rfl, rfl⟩
  | j + 7, h => cases h
theorem badL6 {H : Hp} (j : Nat) (v : V) (h : [V.non, .str "", .str "ab", .str "A", .int 7, .str " "][j]? = some v) : BadL K H v := by
  match j, h with
  | 0, h => cases h; exact ⟨_, .non, rfl, rfl⟩
  | 1, h => cases h; exact ⟨_, .str _, by decide +kernel, by decide +kernel⟩
  | 2, h => cases h; exact ⟨_, .str _, by decide +kernel, by decide +kernel⟩
  | 3, h => cases h; exact ⟨_, .str _, by decide +kernel, by decide +kernel⟩
  | 4, h => cases h; exact ⟨_, .int _, rfl, rfl⟩
  | 5, h => cases h; exact ⟨_, .str _, by decide +kernel, by decide +kernel⟩
  | j + 6, h => cases h
theorem mul_z : Txt.mul ("z" : Str) (200 : Int) = tx (List.replicate 200 122) := by decide +kernel
theorem sem_l_words_refused (S : Addr → Option Sp) (SL : LamT → Sp → Prop) (T : List (Addr × Str)) (lam4 lam5 lam6 : LamT) (f_first_said f_how_many f_lengths f_out f_come_alike f_places : Addr) (TX : XOk K C)
    (hS_first_said : S f_first_said = some (sp_first_saidX K C)) (hS_how_many : S f_how_many = some (sp_how_manyX K C)) (hS_lengths : S f_lengths = some (sp_lengthsX K C)) (hS_out : S f_out = some (sp_outX K C)) (hS_come_alike : S f_come_alike = some (sp_come_alikeX K C)) (hS_places : S f_places = some (sp_placesX K C))
    {PP : Addr} (hT : (PP, ("_law_words_refused.<locals>.<lambda>" : Str)) ∈ T) (hSL4 : SL lam4 (sp_lam4 K S)) (hSL5 : SL lam5 (sp_lam5 K C)) (hSL6 : SL lam6 (sp_lam6 K C)) (hk1 : C.ok 1 = true) (hk2 : C.ok 2 = true) :
    ∀ vs H Q E, sp_l_words_refused K T vs H Q E → t_l_words_refused K C S SL T lam4 lam5 lam6 f_first_said f_how_many f_lengths f_out f_come_alike f_places { nx := fun _ H' => Q .non H', rt := Q } (start ["house", "odd", "door"] vs) H := by
  rintro vs H Q E ⟨hv, r, rfl, hr, tb, q⟩
  show t_l_words_refused K C S SL T lam4 lam5 lam6 f_first_said f_how_many f_lengths f_out f_come_alike f_places _ [some hv, none, none] H
  unfold t_l_words_refused
  have vr : ∀ {j : Nat} {v : V} {y z : Option V}, [some hv, y, z][j]? = some (some v) → ∀ (H : Hp) (R : VK), R v H → tVar j [some hv, y, z] H R := fun h H R k => ⟨_, h, k⟩
  have vc : ∀ {v : V} {σ : L2.St} (H : Hp) (R : VK), R v H → tC v σ H R := fun H R k => k
  have et : (("" : Str)) = tx [] := by decide +kernel
  have w0 : WordOk [] := ⟨by decide, fun c hc => by cases hc⟩
  walk_at "v"
  refine w_mulA (n := 201) (by decide) ?_
  walk_at "v"
  refine ⟨szOk 1, fun tt ntt => ?_⟩
  walk_at "v"
  refine ⟨szOk 7, fun to nto => ?_⟩
  have sa := same_new (o := .tup [.str "a"]) ntt
  have sb := same_new (o := .tup [.non, .str "A", .str "a b", .str (tx (List.replicate 201 97)), .int 7, .ref tt, .bl true]) nto
  have x1 := (Xt.refl tb).same (sa.trans sb)
  have htt := sb _ _ (upd_same (H := H) (a := tt) (o := .tup [.str "a"]))
  have hto : upd (upd H tt (.tup [.str "a"])) to (.tup [.non, .str "A", .str "a b", .str (tx (List.replicate 201 97)), .int 7, .ref tt, .bl true]) to = some (.tup [.non, .str "A", .str "a b", .str (tx (List.replicate 201 97)), .int 7, .ref tt, .bl true]) := upd_same
  generalize upd (upd H tt (.tup [.str "a"])) to (.tup [.non, .str "A", .str "a b", .str (tx (List.replicate 201 97)), .int 7, .ref tt, .bl true]) = H1 at x1 htt hto ⊢
  clear sa sb ntt nto
  walk_at "v"
  refine for_tup (xs := [.non, .str "A", .str "a b", .str (tx (List.replicate 201 97)), .int 7, .ref tt, .bl true]) (fun j σ H' => ∃ y z, σ = [some hv, y, z] ∧ Xt T H H' ∧ H' tt = some (.tup [.str "a"]) ∧ H' to = some (.tup [.non, .str "A", .str "a b", .str (tx (List.replicate 201 97)), .int 7, .ref tt, .bl true])) ?_ ?_ ?_ ?_
  · exact ⟨_, _, rfl, x1, htt, hto⟩
  · rintro j σ H' hj ⟨y, z, rfl, x2, htt, hto⟩
    exact sqT_at hto
  · rintro j v σ H2 hv' ⟨y, z, rfl, x2, htt, hto⟩
    have hbad := badW7 K htt j v hv'
    clear x1
    walk_at "v"
    refine ⟨szOk 4, fun p1 n1 => ?_⟩
    have s3 := same_new (o := .tup [.ref f_out, .ref f_lengths, .ref f_how_many, .ref f_first_said]) n1
    have x3 := x2.same s3
    have hb3 := hbad.same s3
    have htt3 := s3 _ _ htt
    have hto3 := s3 _ _ hto
    have h3 : upd H2 p1 (.tup [.ref f_out, .ref f_lengths, .ref f_how_many, .ref f_first_said]) p1 = some (.tup [.ref f_out, .ref f_lengths, .ref f_how_many, .ref f_first_said]) := upd_same
    generalize upd H2 p1 (.tup [.ref f_out, .ref f_lengths, .ref f_how_many, .ref f_first_said]) = H3 at x3 hb3 htt3 hto3 h3 ⊢
    clear s3 n1 hbad htt hto
    walk_at "v"
    refine for_tup (xs := [.ref f_out, .ref f_lengths, .ref f_how_many, .ref f_first_said]) (fun j σ H' => ∃ z, σ = [some hv, some v, z] ∧ Xt T H3 H' ∧ H' p1 = some (.tup [.ref f_out, .ref f_lengths, .ref f_how_many, .ref f_first_said])) ?_ ?_ ?_ ?_
    · exact ⟨_, rfl, Xt.refl x3.t, h3⟩
    · rintro j σ H' hj ⟨z, rfl, x4, h4⟩
      exact sqT_at h4
    · rintro j v' σ H4 hv4 ⟨z, rfl, x4, h4⟩
      obtain ⟨f, sp, rfl, hS, g1⟩ : ∃ f sp, v' = V.ref f ∧ S f = some sp ∧ (∀ x y r (H1 : Hp) (Q' : VK) (E' : XK), RowAt K H1 x r → BadWd K H1 y → Rf C 1 H1 E' → sp [x, y] H1 Q' E') := by
        match j, hv4 with
        | 0, h => cases h; exact ⟨_, _, rfl, hS_out, fun x y r H1 Q' E' c a b => ⟨x, y, rfl, .inr (.inl ⟨r, c, a, b⟩)⟩⟩
        | 1, h => cases h; exact ⟨_, _, rfl, hS_lengths, fun x y r H1 Q' E' c a b => ⟨x, y, rfl, .inr ⟨r, c, a, b⟩⟩⟩
        | 2, h => cases h; exact ⟨_, _, rfl, hS_how_many, fun x y r H1 Q' E' c a b => ⟨x, y, rfl, .inr ⟨r, c, a, b⟩⟩⟩
        | 3, h => cases h; exact ⟨_, _, rfl, hS_first_said, fun x y r H1 Q' E' c a b => ⟨x, y, rfl, .inr ⟨r, c, a, b⟩⟩⟩
        | j + 4, h => cases h
      walk_at "v"
      refine if_lam (i := 1) (o1 := .ref f) (o2 := hv) (o3 := v) hSL4 hk1 x4.t (vr rfl) (vr rfl) (vr rfl) (fun H5 Q1 E1 x5 hE => ⟨f, hv, _, sp, rfl, hS, g1 _ _ r _ _ _ (hr.xt (x3.trans (x4.trans x5))) (hb3.xt (x4.trans x5)) hE⟩) (fun H5 x5 => ?_)
      exact ⟨_, rfl, x4.trans x5, x5.at h4⟩
    rintro σ H4 ⟨z, rfl, x4, _⟩
    walk_at "v"
    refine if_door (i := 1) (f0 := f_come_alike) (o1 := hv) (o2 := v) (o3 := .non) hS_come_alike hk1 x4.t vc (vr rfl) (vr rfl) vc (fun H5 Q1 E1 x5 hE => ⟨hv, v, _, rfl, .inr (.inl ⟨r, hr.xt (x3.trans (x4.trans x5)), hb3.xt (x4.trans x5), hE⟩)⟩) (fun H5 x5 => ?_)
    walk_at "v"
    refine if_door (i := 1) (f0 := f_come_alike) (o1 := hv) (o2 := .str "") (o3 := v) hS_come_alike hk1 x5.t vc (vr rfl) vc (vr rfl) (fun H6 Q1 E1 x6 hE => ⟨hv, _, v, rfl, .inr (.inr ⟨r, [], hr.xt (x3.trans (x4.trans (x5.trans x6))), congrArg V.str et, w0, hb3.xt (x4.trans (x5.trans x6)), hE⟩)⟩) (fun H6 x6 => ?_)
    walk_at "v"
    refine if_door (i := 1) (f0 := f_places) (o1 := hv) (o2 := .int 0) (o3 := v) hS_places hk1 x6.t vc (vr rfl) vc (vr rfl) (fun H7 Q1 E1 x7 hE => ⟨hv, _, v, rfl, .inr (.inr ⟨r, 0, hr.xt (x3.trans (x4.trans (x5.trans (x6.trans x7)))), rfl, by decide, hb3.xt (x4.trans (x5.trans (x6.trans x7))), hE⟩)⟩) (fun H7 x7 => ?_)
    have x8 := x4.trans (x5.trans (x6.trans x7))
    exact ⟨_, _, rfl, x3.trans x8, x8.at htt3, x8.at hto3⟩
  rintro σ H2 ⟨y, z, rfl, x2, _⟩
  clear x1 htt hto
  walk_at "v"
  refine ⟨szOk 6, fun p1 n1 => ?_⟩
  have x3 := x2.same (same_new (o := .tup [.non, .str "", .str "ab", .str "A", .int 7, .str " "]) n1)
  have h3 : upd H2 p1 (.tup [.non, .str "", .str "ab", .str "A", .int 7, .str " "]) p1 = some (.tup [.non, .str "", .str "ab", .str "A", .int 7, .str " "]) := upd_same
  generalize upd H2 p1 (.tup [.non, .str "", .str "ab", .str "A", .int 7, .str " "]) = H3 at x3 h3 ⊢
  walk_at "v"
  refine for_tup (xs := [.non, .str "", .str "ab", .str "A", .int 7, .str " "]) (fun j σ H' => ∃ y z, σ = [some hv, y, z] ∧ Xt T H H' ∧ H' p1 = some (.tup [.non, .str "", .str "ab", .str "A", .int 7, .str " "])) ?_ ?_ ?_ ?_
  · exact ⟨_, _, rfl, x3, h3⟩
  · rintro j σ H' hj ⟨y, z, rfl, x2, h2⟩
    exact sqT_at h2
  · rintro j v σ H2 hv' ⟨y, z, rfl, x2, h2⟩
    have hbad : BadL K H2 v := badL6 K j v hv'
    walk_at "v"
    refine if_lam (i := 2) (o1 := hv) (o2 := v) (o3 := .int 0) hSL5 hk2 x2.t (vr rfl) (vr rfl) vc (fun H3 Q1 E1 x3 hE => ⟨hv, v, _, rfl, hv, v, rfl, .inr ⟨r, hr.xt (x2.trans x3), hbad.xt x3, hE⟩⟩) (fun H3 x3 => ?_)
    exact ⟨_, _, rfl, x2.trans x3, x3.at h2⟩
  rintro σ H2 ⟨y, z, rfl, x2, _⟩
  walk_at "v"
  refine ⟨x2.t, fun f c H3 eN t3 nf hf hc => ?_⟩
  have x3 : Xt T H H3 := x2.trans ⟨eN, t3⟩
  walk_at "v"
  refine w_mulS (by rw [show (("z" : Str)) = tx [122] from by decide +kernel]; exact mulOk (w := [122]) (n := 200) (by decide) (by decide)) ?_
  rw [mul_z]
  walk_at "v"
  refine w_fine (.inr ⟨lam6, c, hSL6, hf, hc⟩) (fun H4 Q1 E1 s4 hE => ⟨hv, _, _, rfl, hv, _, rfl, .inr (.inr ⟨r, _, hr.xt (x3.same s4), rfl, ⟨by show (List.replicate 200 122).length ≤ 200; rw [List.length_replicate]; exact Nat.le_refl _, fun c hc => by rw [(List.mem_replicate.mp hc).2]; decide⟩, hE⟩)⟩) fun pk H4 s4 hpk => ?_
  walk_at "v"
  refine ⟨szOk 0, fun pl nl => ?_⟩
  have sl := same_new (o := .lst []) nl
  refine w_eqNone K (sl _ _ hpk) upd_same ?_
  exact q _ (x3.same (s4.trans sl))
end
end HH

namespace HH
open PySem PySem.Spec L2
local macro_rules | `(tactic| walk_at "cy") => `(tactic| first
  | assumption
  | exact L2.upd_same
  | exact L2.sqL_new
  | exact L2.sqT_new
  | exact L2.sqL_at (by assumption)
  | exact L2.sqT_at (by assumption)
  | (refine' L2.Same.seq (by assumption) ?k0; (case k0 => walk_at "cy"))
  | (refine' L2.Same.sqT (by assumption) ?k0; (case k0 => walk_at "cy"))
  | (refine' L2.Same.dat (by assumption) ?k0; (case k0 => walk_at "cy"))
  | (refine' (by assumption : L2.Same _ _) _ _ ?k0; (case k0 => walk_at "cy"))
  | (refine' L2.Same.seq (L2.same_new (by assumption)) ?k0; (case k0 => walk_at "cy"))
  | (refine' L2.Same.sqT (L2.same_new (by assumption)) ?k0; (case k0 => walk_at "cy"))
  | (refine' L2.Same.dat (L2.same_new (by assumption)) ?k0; (case k0 => walk_at "cy"))
  | (refine' L2.same_new (by assumption) _ _ ?k0; (case k0 => walk_at "cy"))
  | (refine' L2.Mv.sqT (by assumption) ?k0; (case k0 => walk_at "cy")))
local macro_rules | `(tactic| walk_at "w") => `(tactic| repeat (first
  | refine HH.stp ?_
  | with_reducible refine L2.iteT ?_
  | with_reducible refine L2.iteF ?_
  | ((with_reducible refine' HH.w_gtup ?k1 ?k2 ?_); (case k1 => walk_at "cy"); (case k2 => exact rfl))
  | ((with_reducible refine' HH.w_ixT ?k1 ?k2 ?_); (case k1 => walk_at "cy"); (case k2 => exact rfl))
  | ((with_reducible refine' HH.w_ixL ?k1 ?k2 ?_); (case k1 => walk_at "cy"); (case k2 => exact rfl))
  | ((with_reducible refine' HH.w_lenL ?k1 ?_); (case k1 => walk_at "cy"))
  | ((with_reducible refine' HH.w_lenT ?k1 ?_); (case k1 => walk_at "cy"))
  | ((with_reducible refine' HH.w_exT ?k1 ?_); (case k1 => walk_at "cy"))
  | ((with_reducible refine' HH.w_exL ?k1 ?_); (case k1 => walk_at "cy"))
  | ((with_reducible refine' HH.w_tyL ?k1 ?_); (case k1 => walk_at "cy"))
  | ((with_reducible refine' HH.w_setL ?k1 ?k2 ?_); (case k1 => walk_at "cy"); (case k2 => exact rfl))
  | ((with_reducible refine' HH.w_modI ?k1 ?_); (case k1 => first | (with_reducible assumption) | omega))
  | ((with_reducible refine' HH.w_divI ?k1 ?_); (case k1 => (constructor <;> omega)))))
local macro_rules | `(tactic| walk_at "v") => `(tactic| ((repeat ((fail_if_success (with_reducible refine HH.isIf ?_)); first
  | refine HH.stp ?_
  | with_reducible refine L2.iteT ?_
  | with_reducible refine L2.iteF ?_
  | ((with_reducible refine' HH.w_gtup ?k1 ?k2 ?_); (case k1 => walk_at "cy"); (case k2 => exact rfl))
  | ((with_reducible refine' HH.w_ixT ?k1 ?k2 ?_); (case k1 => walk_at "cy"); (case k2 => exact rfl))
  | ((with_reducible refine' HH.w_ixL ?k1 ?k2 ?_); (case k1 => walk_at "cy"); (case k2 => exact rfl))
  | ((with_reducible refine' HH.w_lenL ?k1 ?_); (case k1 => walk_at "cy"))
  | ((with_reducible refine' HH.w_lenT ?k1 ?_); (case k1 => walk_at "cy"))
  | ((with_reducible refine' HH.w_exT ?k1 ?_); (case k1 => walk_at "cy"))
  | ((with_reducible refine' HH.w_exL ?k1 ?_); (case k1 => walk_at "cy"))
  | ((with_reducible refine' HH.w_tyL ?k1 ?_); (case k1 => walk_at "cy"))
  | ((with_reducible refine' HH.w_setL ?k1 ?k2 ?_); (case k1 => walk_at "cy"); (case k2 => exact rfl))
  | ((with_reducible refine' HH.w_modI ?k1 ?_); (case k1 => first | (with_reducible assumption) | omega))
  | ((with_reducible refine' HH.w_divI ?k1 ?_); (case k1 => (constructor <;> omega)))))); (try (with_reducible refine HH.isIf ?_)))
def t_law (K : PySem.W.Frag) (C : XCls) (S : Addr → Option Sp) (SL : LamT → Sp → Prop) (T : List (Addr × Str)) (lam7 : LamT) (lam8 : LamT) (lam9 : LamT) (lam10 : LamT) (f_least_for : Addr) (f_come : Addr) (f_places : Addr) : TS :=
  (tSeq (tFor (iList K (tCall (sp_l_bags K) [] E0 (tCons (tVar 0) (tCons (tC (.int 6)) tNil)))) (gName 1)
  (tSeq (tAsg (tCall (sp_l_mouths K) [] E0 (tCons (tVar 1) (tCons (tC (.int 4)) (tCons (tC (.int 26)) tNil)))) (gName 2))
  (tSeq (tAsg (tLst (tCons (tC .non) (tCons (tLst (tCons (tVar 2) tNil)) (tCons (tTup (tCons (tTup (tCons (tC (.str "drop")) (tCons (tC (.int 1)) (tCons (tC (.int 0)) tNil)))) tNil)) tNil)))) (gName 3))
  (tSeq (tAsg (tOp rCat (tVar 3) (tLst (tCons (tTup (tCons (tTup (tCons (tC (.str "twice")) (tCons (tC (.int 7)) (tCons (tC (.int 0)) tNil)))) tNil)) (tCons (tTup (tCons (tTup (tCons (tC (.str "hears")) (tCons (tC (.str "a")) (tCons (tC (.str "a")) tNil)))) tNil)) (tCons (tOp (rRepT K) (tTup (tCons (tTup (tCons (tC (.str "drop")) (tCons (tC (.int 2)) (tCons (tC (.int 0)) tNil)))) tNil)) (tC (.int 5))) tNil))))) (gName 3))
  (tSeq (tAsg (tOp (rIxL K) (tOp rCat (tVar 3) (tLst (tCons (tC (.str "drop")) (tCons (tTup (tCons (tTup (tCons (tC (.str "drop")) (tCons (tC (.int 2)) (tCons (tC (.int 2)) tNil)))) tNil)) tNil)))) (tCall (sp_l_take K) [] E0 (tCons (tVar 1) (tCons (tC (.int 8)) tNil)))) (gName 4))
  (tSeq (tIfS (tOr (tNot (tB (tCall (sp_l_rows_refused K T) [] E0 (tCons (tVar 2) (tCons (tVar 4) tNil))))) (tNot (tB (tCall (sp_l_words_refused K T) [] E0 (tCons (tVar 2) tNil))))) (tRet (tC (.bl false))) tNext)
  (tSeq (tFor (iTup K (tTup (tCons (tUn (rU fun i => .int (-i)) (tC (.int 1))) (tCons (tOp rAddI (tOp rPowI (tC (.int 10)) (tC (.int 15))) (tC (.int 1))) (tCons (tC (.bl true)) (tCons (tC .non) (tCons (tC (.str "3")) tNil))))))) (gName 5)
  (tFor (iTup K (tTup (tCons (tC (.ref f_come)) (tCons (tC (.ref f_least_for)) tNil)))) (gName 6)
  (tIfS (tTest (tOp (rNeD K) (tCall (sp_l_refused K C S SL) [] E0 (tCons (tLamV T lam7) (tCons (tVar 6) (tCons (tVar 2) (tCons (tVar 5) tNil))))) (tLst (tCons (tC (.str "NoMany")) (tCons (tC (.bl true)) tNil))))) (tRet (tC (.bl false))) tNext)))
  (tSeq (tFor (iTup K (tTup (tCons (tUn (rU fun i => .int (-i)) (tC (.int 1))) (tCons (tC (.int 201)) (tCons (tC (.bl true)) (tCons (tC .non) (tCons (tC (.str "3")) tNil))))))) (gName 5)
  (tIfS (tTest (tOp (rNeD K) (tCall (sp_l_refused K C S SL) [] E0 (tCons (tC (.ref f_places)) (tCons (tVar 2) (tCons (tVar 5) (tCons (tC .non) tNil))))) (tLst (tCons (tC (.str "NoMany")) (tCons (tC (.bl true)) tNil))))) (tRet (tC (.bl false))) tNext))
  (tSeq (tFor (iTup K (tTup (tCons (tC .non) (tCons (tTup tNil) (tCons (tTup (tCons (tC (.str "drop")) (tCons (tC (.int 1)) (tCons (tC (.int 0)) tNil)))) (tCons (tLst (tCons (tC (.str "drop")) (tCons (tC (.int 2)) (tCons (tC (.int 0)) tNil)))) (tCons (tTup (tCons (tC (.str "hears")) (tCons (tC (.str "a")) (tCons (tC (.str "a")) tNil)))) (tCons (tTup (tCons (tTup (tCons (tC (.str "drop")) (tCons (tC (.int 2)) (tCons (tC (.int 0)) tNil)))) tNil)) (tCons (tC (.str "drop")) tNil))))))))) (gName 5)
  (tIfS (tTest (tOp (rNeD K) (tCall (sp_l_refused K C S SL) [] E0 (tCons (tLamV T lam8) (tCons (tVar 5) (tCons (tC (.int 0)) (tCons (tC (.int 0)) tNil))))) (tLst (tCons (tC (.str "NoOne")) (tCons (tC (.bl true)) tNil))))) (tRet (tC (.bl false))) tNext))
  (tIfS (tTest (tOp (rNeD K) (tCall (sp_l_refused K C S SL) [] E0 (tCons (tLamV T lam9) (tCons (tCall (sp_l_counter K) [] E0 (tCons (tVar 1) tNil)) (tCons (tC (.int 0)) (tCons (tC (.int 0)) tNil))))) (tLst tNil))) (tRet (tC (.bl false))) tNext))))))))))
  (tRet (tOp (rEqD K) (tCall (sp_l_refused K C S SL) [] E0 (tCons (tLamV T lam10) (tCons (tTup tNil) (tCons (tOp rPowI (tC (.int 10)) (tC (.int 15))) (tCons (tC (.int 0)) tNil))))) (tLst tNil))))

section
variable (K : PySem.W.Frag)
theorem dpAll_rep {H : Hp} {x : V} {d : PyData} (h : Dp K H x d) : ∀ k, DpAll K H (List.replicate k x) (List.replicate k d)
  | 0 => .nil
  | k + 1 => .cons h (dpAll_rep h k)
theorem w_repD {H : Hp} {a : Addr} {x : V} {d : PyData} {k : Nat} {Q : VK} (h : SqT K H a [x]) (g : Dp K H x d) (h2 : 2 ≤ k) (hk : k ≤ 1000) (q : ∀ v H', Same H H' → Dp K H' v (.tuple (List.replicate k d)) → Q v H') : rRepT K (.ref a) (.int (k : Nat)) H Q := by
  refine ⟨a, (k : Int), [x], rfl, rfl, h, (fun e => by cases e), by omega, by omega, by show 1 ≤ 1000; decide, fun p np => ?_⟩
  rw [show (List.replicate (k : Int).toNat [x]).flatten = List.replicate k x from by rw [Int.toNat_natCast, List.flatten_replicate_singleton]]
  exact q _ _ (same_new np) (.tup sqT_new (dpAll_rep K ((same_new np).dat g) k))
end
section
variable {K : PySem.W.Frag} {T : List (Addr × Str)} {p b : Addr} {bs : List Addr} {hv v : V} {r : Row} {H H' : Hp}
structure F14 (K : PySem.W.Frag) (T : List (Addr × Str)) (p : Addr) (bs : List Addr) (hv : V) (r : Row) (H : Hp) : Prop where
  bg : H p = some (.lst (bs.map V.ref)) ∧ ∀ c ∈ bs, BagOk K H c ∧ p ≠ c
  tb : LamX.Tabs T H
  hr : RowAt K H hv r
theorem F14.same (F : F14 K T p bs hv r H) (s : Same H H') : F14 K T p bs hv r H' := ⟨⟨s _ _ F.bg.1, fun c hc => ⟨bag_same (F.bg.2 c hc).1 s, (F.bg.2 c hc).2⟩⟩, F.tb.ext s, F.hr.same s⟩
theorem F14.dr (F : F14 K T p bs hv r H) (d : Dr K b H H') (hb : b ∈ bs) : F14 K T p bs hv r H' := ⟨bags_dr K d F.bg hb, tabs_mv F.tb d.mv, ⟨d.row F.hr.1, F.hr.2⟩⟩
theorem F14.xt (F : F14 K T p bs hv r H) (x : Xt T H H') : F14 K T p bs hv r H' := ⟨bags_ext x.e F.bg, x.t, F.hr.xt x⟩
/-- what is no row, while bag b is drawn from -/
def BadQ (K : PySem.W.Frag) (hv : V) (b : Addr) (H : Hp) (v : V) : Prop := (∃ d, Dp K H v d ∧ fitD d = true ∧ isRowD d = false ∧ noL d = true) ∨ (∃ pl, v = .ref pl ∧ pl ≠ b ∧ H pl = some (.lst [hv]))
theorem BadQ.same (h : BadQ K hv b H v) (s : Same H H') : BadQ K hv b H' v := by
  rcases h with ⟨d, a, c⟩ | ⟨pl, a, c, e⟩
  · exact .inl ⟨d, s.dat a, c⟩
  · exact .inr ⟨pl, a, c, s _ _ e⟩
theorem BadQ.dr (h : BadQ K hv b H v) (s : Dr K b H H') : BadQ K hv b H' v := by
  rcases h with ⟨d, a, c, e, n⟩ | ⟨pl, a, c, e⟩
  · exact .inl ⟨d, s.dat n a, c, e, n⟩
  · exact .inr ⟨pl, a, c, s.at e c⟩
theorem BadQ.bad (h : BadQ K hv b H v) (hr : RowAt K H hv r) : BadR K H v := by
  rcases h with ⟨d, a, c, e, n⟩ | ⟨pl, rfl, c, e⟩
  · exact ⟨d, a, c, e⟩
  · exact ⟨.list [rowD r], .lst (sqL_at e) (.cons hr.1 .nil), by show (fitD (rowD r) && true) = true; rw [fit_row]; rfl, rfl⟩
theorem dpT3 {t : Addr} {s : Str} {i j : Int} (h : H t = some (.tup [.str s, .int i, .int j])) : Dp K H (.ref t) (.tuple [.str s, .int i, .int j]) := .tup (sqT_at h) (.cons (.str _) (.cons (.int _) (.cons (.int _) .nil)))
theorem dpT1 {t : Addr} {d : PyData} (h : H t = some (.tup [v])) (g : Dp K H v d) : Dp K H (.ref t) (.tuple [d]) := .tup (sqT_at h) (.cons g .nil)
theorem badN5a (j : Nat) (v : V) (h : [V.int (-1), .int (1000000000000000 + 1), .bl true, .non, .str "3"][j]? = some v) : BadN K H v 1000000000000000 := by
  match j, h with
  | 0, h => cases h; exact ⟨_, .int _, by decide⟩
  | 1, h => cases h; exact ⟨_, .int _, by decide⟩
  | 2, h => cases h; exact ⟨_, .bl _, rfl⟩
  | 3, h => cases h; exact ⟨_, .non, rfl⟩
  | 4, h => cases h; exact ⟨_, .str _, rfl⟩
  | j + 5, h => cases h
theorem badN5b (j : Nat) (v : V) (h : [V.int (-1), .int 201, .bl true, .non, .str "3"][j]? = some v) : BadN K H v 200 := by
  match j, h with
  | 0, h => cases h; exact ⟨_, .int _, by decide⟩
  | 1, h => cases h; exact ⟨_, .int _, by decide⟩
  | 2, h => cases h; exact ⟨_, .bl _, rfl⟩
  | 3, h => cases h; exact ⟨_, .non, rfl⟩
  | 4, h => cases h; exact ⟨_, .str _, rfl⟩
  | j + 5, h => cases h
end
section
variable (K : PySem.W.Frag) (C : XCls)
theorem sem_law (S : Addr → Option Sp) (SL : LamT → Sp → Prop) (T : List (Addr × Str)) (lam7 lam8 lam9 lam10 : LamT) (f_least_for f_come f_places : Addr) (TX : XOk K C) (hS_least_for : S f_least_for = some (sp_least_forX K C)) (hS_come : S f_come = some (sp_comeX K C)) (hS_places : S f_places = some (sp_placesX K C))
    {PP : Addr} (hT : (PP, ("law.<locals>.<lambda>" : Str)) ∈ T) (hSL7 : SL lam7 (sp_lam7 K S)) (hSL8 : SL lam8 (sp_lam8 K C)) (hSL9 : SL lam9 (sp_lam9 K C)) (hSL10 : SL lam10 (sp_lam10 K C)) (hk0 : C.ok 0 = true) (hk1 : C.ok 1 = true) (hk2 : C.ok 2 = true) (hk3 : C.ok 3 = true) (hk4 : C.ok 4 = true) :
    ∀ vs H Q E, sp_lawT K T vs H Q E → t_law K C S SL T lam7 lam8 lam9 lam10 f_least_for f_come f_places { nx := fun _ H' => Q .non H', rt := Q } (start ["script", "bag", "house", "some", "none", "odd", "door"] vs) H := by
  rintro vs H Q E ⟨a, ns, rfl, hs, hn, hTb, q⟩
  show t_law K C S SL T lam7 lam8 lam9 lam10 f_least_for f_come f_places _ [some (.ref a), none, none, none, none, none, none] H
  unfold t_law
  have vc : ∀ {v : V} {σ : L2.St} (H : Hp) (R : VK), R v H → tC v σ H R := fun H R k => k
  have vr : ∀ {j : Nat} {v : V} {σ : L2.St}, σ[j]? = some (some v) → ∀ (H : Hp) (R : VK), R v H → tVar j σ H R := fun h H R k => ⟨_, h, k⟩
  walk_at "v"
  refine ⟨a, ns, 6, rfl, hs, by decide, fun H1 p bs s1 hp hbl hbs => ?_⟩
  have tb1 : LamX.Tabs T H1 := LamX.Tabs.ext (fun q hq => LamX.TabS.nil (hTb q hq)) s1
  walk_at "v"
  refine for_list (xs := bs.map V.ref) (fun i σ H2 => ∃ y1 y2 y3 y4 y5 y6 : Option V, σ = [some (.ref a), y1, y2, y3, y4, y5, y6] ∧ (H2 p = some (.lst (bs.map V.ref)) ∧ ∀ c ∈ bs, BagOk K H2 c ∧ p ≠ c) ∧ LamX.Tabs T H2) ?_ ?_ ?_ ?_
  · exact ⟨_, _, _, _, _, _, rfl, ⟨hp, hbs⟩, tb1⟩
  · rintro i σ H2 hi ⟨y1, y2, y3, y4, y5, y6, rfl, bg2, tb2⟩
    exact sqL_at bg2.1
  · rintro i v σ H2 hv ⟨y1, y2, y3, y4, y5, y6, rfl, bg2, tb2⟩
    obtain ⟨b, hb, rfl⟩ : ∃ b, b ∈ bs ∧ V.ref b = v := by
      have := List.mem_of_getElem? hv
      obtain ⟨b, h1, h2⟩ := List.mem_map.mp this
      exact ⟨b, h1, h2⟩
    clear hp hbs tb1 s1
    walk_at "v"
    refine ⟨b, 4, 26, rfl, (bg2.2 b hb).1, by decide, by decide, by decide, fun hv r H3 d3 hl hok _ hd3 => ?_⟩
    have F3 : F14 K T p bs hv r H3 := ⟨bags_dr K d3 bg2 hb, tabs_mv tb2 d3.mv, hd3, hl, hok⟩
    clear bg2 tb2 d3 hd3
    walk_at "v"
    refine ⟨szOk 1, fun pl npl => ?_⟩
    walk_at "v"
    refine ⟨szOk 3, fun t1 m1 => ?_⟩
    walk_at "v"
    refine ⟨szOk 1, fun t2 m2 => ?_⟩
    walk_at "v"
    refine ⟨szOk 3, fun l1 nl1 => ?_⟩
    have neb : pl ≠ b := bag_ne (F3.bg.2 b hb).1 npl
    have z1 := same_new (o := .lst [hv]) npl
    have z2 := same_new (o := .tup [.str "drop", .int 1, .int 0]) m1
    have z3 := same_new (o := .tup [.ref t1]) m2
    have z4 := same_new (o := .lst [.non, .ref pl, .ref t2]) nl1
    have F4 := F3.same (z1.trans (z2.trans (z3.trans z4)))
    have hb4 : ∀ v ∈ [V.non, .ref pl, .ref t2], BadQ K hv b (upd (upd (upd (upd H3 pl (.lst [hv])) t1 (.tup [.str "drop", .int 1, .int 0])) t2 (.tup [.ref t1])) l1 (.lst [.non, .ref pl, .ref t2])) v := by
      intro v hv'
      simp only [List.mem_cons, List.not_mem_nil, or_false] at hv'
      rcases hv' with rfl | rfl | rfl
      · exact .inl ⟨_, .non, rfl, rfl, rfl⟩
      · exact .inr ⟨pl, rfl, neb, (z2.trans (z3.trans z4)) _ _ upd_same⟩
      · exact .inl ⟨_, z4.dat (dpT1 upd_same (z3.dat (dpT3 upd_same))), by decide +kernel, by decide +kernel, rfl⟩
    have hl4 : upd (upd (upd (upd H3 pl (.lst [hv])) t1 (.tup [.str "drop", .int 1, .int 0])) t2 (.tup [.ref t1])) l1 (.lst [.non, .ref pl, .ref t2]) l1 = some (.lst [.non, .ref pl, .ref t2]) := upd_same
    generalize upd (upd (upd (upd H3 pl (.lst [hv])) t1 (.tup [.str "drop", .int 1, .int 0])) t2 (.tup [.ref t1])) l1 (.lst [.non, .ref pl, .ref t2]) = H4 at F4 hb4 hl4 ⊢
    clear z1 z2 z3 z4 npl m1 m2 nl1 F3 neb
    walk_at "v"
    refine ⟨szOk 3, fun t3 m3 => ?_⟩
    walk_at "v"
    refine ⟨szOk 1, fun t4 m4 => ?_⟩
    walk_at "v"
    refine ⟨szOk 3, fun t5 m5 => ?_⟩
    walk_at "v"
    refine ⟨szOk 1, fun t6 m6 => ?_⟩
    walk_at "v"
    refine ⟨szOk 3, fun t7 m7 => ?_⟩
    walk_at "v"
    refine ⟨szOk 1, fun t8 m8 => ?_⟩
    have z3 := same_new (o := .tup [.str "twice", .int 7, .int 0]) m3
    have z4 := same_new (o := .tup [.ref t3]) m4
    have z5 := same_new (o := .tup [.str "hears", .str "a", .str "a"]) m5
    have z6 := same_new (o := .tup [.ref t5]) m6
    have z7 := same_new (o := .tup [.str "drop", .int 2, .int 0]) m7
    have z8 := same_new (o := .tup [.ref t7]) m8
    walk_at "v"
    refine w_repD K (k := 5) sqT_new (z8.dat (dpT3 upd_same)) (by decide) (by decide) fun v9 H5 s5 h9 => ?_
    have s45 := (z3.trans (z4.trans (z5.trans (z6.trans (z7.trans z8))))).trans s5
    have F5 := F4.same s45
    have hb5 : ∀ v ∈ [V.non, .ref pl, .ref t2], BadQ K hv b H5 v := fun v h => (hb4 v h).same s45
    have hl5 := s45 _ _ hl4
    have q4 : BadQ K hv b H5 (.ref t4) := .inl ⟨_, ((z5.trans (z6.trans (z7.trans z8))).trans s5).dat (dpT1 upd_same (z4.dat (dpT3 upd_same))), by decide +kernel, by decide +kernel, rfl⟩
    have q6 : BadQ K hv b H5 (.ref t6) := .inl ⟨.tuple [.tuple [.str "hears", .str "a", .str "a"]], ((z7.trans z8).trans s5).dat (dpT1 upd_same (z6.dat (.tup sqT_new (.cons (.str _) (.cons (.str _) (.cons (.str _) .nil)))))), by decide +kernel, by decide +kernel, rfl⟩
    have q9 : BadQ K hv b H5 v9 := .inl ⟨_, h9, by decide +kernel, by decide +kernel, rfl⟩
    clear z3 z4 z5 z6 z7 z8 m3 m4 m5 m6 m7 m8 h9 s5 s45 F4 hb4 hl4
    walk_at "v"
    refine ⟨szOk 3, fun l2 nl2 => ?_⟩
    have z1 := same_new (o := .lst [.ref t4, .ref t6, v9]) nl2
    refine w_cat (z1 _ _ hl5) upd_same (szOk 6) fun u1 nu1 => ?_
    have z2 := same_new (o := .lst ([.non, .ref pl, .ref t2] ++ [.ref t4, .ref t6, v9])) nu1
    have F6 := F5.same (z1.trans z2)
    have hb6 : ∀ v ∈ [V.non, .ref pl, .ref t2, .ref t4, .ref t6, v9], BadQ K hv b (upd (upd H5 l2 (.lst [.ref t4, .ref t6, v9])) u1 (.lst ([.non, .ref pl, .ref t2] ++ [.ref t4, .ref t6, v9]))) v := fun v h => by
      refine BadQ.same ?_ (z1.trans z2)
      simp only [List.mem_cons, List.not_mem_nil, or_false] at h
      rcases h with rfl | rfl | rfl | rfl | rfl | rfl
      · exact hb5 _ (by simp)
      · exact hb5 _ (by simp)
      · exact hb5 _ (by simp)
      · exact q4
      · exact q6
      · exact q9
    have hl6 : upd (upd H5 l2 (.lst [.ref t4, .ref t6, v9])) u1 (.lst ([.non, .ref pl, .ref t2] ++ [.ref t4, .ref t6, v9])) u1 = some (.lst [.non, .ref pl, .ref t2, .ref t4, .ref t6, v9]) := upd_same
    generalize upd (upd H5 l2 (.lst [.ref t4, .ref t6, v9])) u1 (.lst ([.non, .ref pl, .ref t2] ++ [.ref t4, .ref t6, v9])) = H6 at F6 hb6 hl6 ⊢
    clear z1 z2 nl2 nu1 F5 hb5 hl5 q4 q6 q9
    walk_at "v"
    refine ⟨szOk 3, fun t10 m10 => ?_⟩
    walk_at "v"
    refine ⟨szOk 1, fun t11 m11 => ?_⟩
    walk_at "v"
    refine ⟨szOk 2, fun l3 nl3 => ?_⟩
    have z1 := same_new (o := .tup [.str "drop", .int 2, .int 2]) m10
    have z2 := same_new (o := .tup [.ref t10]) m11
    have z3 := same_new (o := .lst [.str "drop", .ref t11]) nl3
    refine w_cat ((z1.trans (z2.trans z3)) _ _ hl6) upd_same (szOk 8) fun u2 nu2 => ?_
    have z4 := same_new (o := .lst ([.non, .ref pl, .ref t2, .ref t4, .ref t6, v9] ++ [.str "drop", .ref t11])) nu2
    have F7 := F6.same (z1.trans (z2.trans (z3.trans z4)))
    have hb7 : ∀ v ∈ [V.non, .ref pl, .ref t2, .ref t4, .ref t6, v9, .str "drop", .ref t11], BadQ K hv b (upd (upd (upd (upd H6 t10 (.tup [.str "drop", .int 2, .int 2])) t11 (.tup [.ref t10])) l3 (.lst [.str "drop", .ref t11])) u2 (.lst ([.non, .ref pl, .ref t2, .ref t4, .ref t6, v9] ++ [.str "drop", .ref t11]))) v := fun v h => by
      by_cases h6 : v ∈ [V.non, .ref pl, .ref t2, .ref t4, .ref t6, v9]
      · exact (hb6 v h6).same (z1.trans (z2.trans (z3.trans z4)))
      · have h' : v = .str "drop" ∨ v = .ref t11 := by
          simp only [List.mem_cons, List.not_mem_nil, or_false] at h h6
          rcases h with h | h | h | h | h | h | h | h
          · exact absurd (.inl h) h6
          · exact absurd (.inr (.inl h)) h6
          · exact absurd (.inr (.inr (.inl h))) h6
          · exact absurd (.inr (.inr (.inr (.inl h)))) h6
          · exact absurd (.inr (.inr (.inr (.inr (.inl h))))) h6
          · exact absurd (.inr (.inr (.inr (.inr (.inr h))))) h6
          · exact .inl h
          · exact .inr h
        rcases h' with rfl | rfl
        · exact .inl ⟨_, .str _, by decide +kernel, rfl, rfl⟩
        · exact .inl ⟨_, (z3.trans z4).dat (dpT1 upd_same (z2.dat (dpT3 upd_same))), by decide +kernel, by decide +kernel, rfl⟩
    have hl7 : upd (upd (upd (upd H6 t10 (.tup [.str "drop", .int 2, .int 2])) t11 (.tup [.ref t10])) l3 (.lst [.str "drop", .ref t11])) u2 (.lst ([.non, .ref pl, .ref t2, .ref t4, .ref t6, v9] ++ [.str "drop", .ref t11])) u2 = some (.lst [.non, .ref pl, .ref t2, .ref t4, .ref t6, v9, .str "drop", .ref t11]) := upd_same
    have neu2 : u2 ≠ b := bag_ne (F6.same (z1.trans (z2.trans z3)) |>.bg.2 b hb).1 nu2
    generalize upd (upd (upd (upd H6 t10 (.tup [.str "drop", .int 2, .int 2])) t11 (.tup [.ref t10])) l3 (.lst [.str "drop", .ref t11])) u2 (.lst ([.non, .ref pl, .ref t2, .ref t4, .ref t6, v9] ++ [.str "drop", .ref t11])) = H7 at F7 hb7 hl7 ⊢
    clear z1 z2 z3 z4 m10 m11 nl3 nu2 F6 hb6 hl6
    have hll : [V.non, .ref pl, .ref t2, .ref t4, .ref t6, v9, .str "drop", .ref t11].length = 8 := rfl
    generalize [V.non, .ref pl, .ref t2, .ref t4, .ref t6, v9, .str "drop", .ref t11] = L7 at hb7 hl7 hll
    walk_at "v"
    refine ⟨b, 8, rfl, (F7.bg.2 b hb).1, by decide, fun k8 H8 hk8 d8 => ?_⟩
    have F8 := F7.dr d8 hb
    have hl8 := d8.at hl7 neu2
    have hk : k8 < L7.length := by omega
    have hbad : BadR K H8 L7[k8] := ((hb7 _ (List.getElem_mem hk)).dr d8).bad F8.hr
    clear F7 hb7 hl7 d8 neu2
    walk_at "v"
    refine w_ixL (sqL_at hl8) (at_of (j := k8) rfl (List.getElem?_eq_getElem hk)) ?_
    generalize L7[k8] = nv at hbad ⊢
    walk_at "v"
    refine w_ifNo (fun H' => Xt T H8 H') (fun QT k => ?_) (fun H9 x9 => ?_)
    · walk_at "v"
      refine ⟨hv, nv, r, rfl, F8.hr, hbad, F8.tb, fun H9 x9 => ?_⟩
      walk_at "v"
      refine iteF ?_
      walk_at "v"
      refine ⟨hv, r, rfl, F8.hr.xt x9, x9.t, fun H10 x10 => ?_⟩
      walk_at "v"
      exact k _ (x9.trans x10)
    have F9 := F8.xt x9
    clear F8 hbad hl8 x9
    walk_at "v"
    refine ⟨1, rfl, ?_⟩
    walk_at "v"
    refine ⟨szOk 5, fun p1 n1 => ?_⟩
    have F10 := F9.same (same_new (o := .tup [V.int (-1), .int (1000000000000000 + 1), .bl true, .non, .str "3"]) n1)
    have h10 : upd H9 p1 (.tup [V.int (-1), .int (1000000000000000 + 1), .bl true, .non, .str "3"]) p1 = some (.tup [V.int (-1), .int (1000000000000000 + 1), .bl true, .non, .str "3"]) := upd_same
    replace h10 := h10
    generalize upd H9 p1 (.tup [V.int (-1), .int (1000000000000000 + 1), .bl true, .non, .str "3"]) = H10 at F10 h10 ⊢
    clear n1 F9
    walk_at "v"
    refine for_tup (xs := [V.int (-1), .int (1000000000000000 + 1), .bl true, .non, .str "3"]) (fun j σ H' => ∃ y5 y6, σ = [some (.ref a), some (.ref b), some hv, some (.ref u1), some nv, y5, y6] ∧ Xt T H10 H' ∧ H' p1 = some (.tup [V.int (-1), .int (1000000000000000 + 1), .bl true, .non, .str "3"])) ?_ ?_ ?_ ?_
    · exact ⟨_, _, rfl, Xt.refl F10.tb, h10⟩
    · rintro j σ H' hj ⟨y5, y6, rfl, x2, h2⟩
      exact sqT_at h2
    · rintro j v σ H11 hv' ⟨y5, y6, rfl, x11, h11⟩
      have hbad : BadN K H11 v 1000000000000000 := badN5a j v hv'
      walk_at "v"
      refine ⟨szOk 2, fun p2 n2 => ?_⟩
      have s12 := same_new (o := .tup [.ref f_come, .ref f_least_for]) n2
      have x12 := x11.same s12
      have hb12 := hbad.same s12
      have h12 := s12 _ _ h11
      have g12 : upd H11 p2 (.tup [.ref f_come, .ref f_least_for]) p2 = some (.tup [.ref f_come, .ref f_least_for]) := upd_same
      generalize upd H11 p2 (.tup [.ref f_come, .ref f_least_for]) = H12 at x12 hb12 h12 g12 ⊢
      clear s12 n2 hbad h11 x11
      walk_at "v"
      refine for_tup (xs := [.ref f_come, .ref f_least_for]) (fun j σ H' => ∃ y6, σ = [some (.ref a), some (.ref b), some hv, some (.ref u1), some nv, some v, y6] ∧ Xt T H12 H' ∧ H' p2 = some (.tup [.ref f_come, .ref f_least_for])) ?_ ?_ ?_ ?_
      · exact ⟨_, rfl, Xt.refl x12.t, g12⟩
      · rintro j σ H' hj ⟨y6, rfl, x2, h2⟩
        exact sqT_at h2
      · rintro j v' σ H13 hv4 ⟨y6, rfl, x13, g13⟩
        obtain ⟨f, sp, rfl, hS, g1⟩ : ∃ f sp, v' = V.ref f ∧ S f = some sp ∧ (∀ x y r (H1 : Hp) (Q' : VK) (E' : XK), RowAt K H1 x r → BadN K H1 y 1000000000000000 → Rf C 3 H1 E' → sp [x, y] H1 Q' E') := by
          match j, hv4 with
          | 0, h => cases h; exact ⟨_, _, rfl, hS_come, fun x y r H1 Q' E' c a b => ⟨x, y, rfl, .inr (.inl ⟨r, c, a, b⟩)⟩⟩
          | 1, h => cases h; exact ⟨_, _, rfl, hS_least_for, fun x y r H1 Q' E' c a b => ⟨x, y, rfl, .inr ⟨r, c, a, b⟩⟩⟩
          | j + 2, h => cases h
        walk_at "v"
        refine if_lam (i := 3) (o1 := .ref f) (o2 := hv) (o3 := v) hSL7 hk3 x13.t (vr rfl) (vr rfl) (vr rfl) (fun H5 Q1 E1 x5 hE => ⟨f, hv, _, sp, rfl, hS, g1 _ _ r _ _ _ (F10.hr.xt (x12.trans (x13.trans x5))) (hb12.xt (x13.trans x5)) hE⟩) (fun H5 x5 => ?_)
        exact ⟨_, rfl, x13.trans x5, x5.at g13⟩
      rintro σ H13 ⟨y6, rfl, x13, _⟩
      exact ⟨_, _, rfl, x12.trans x13, x13.at h12⟩
    rintro σ H11 ⟨y5, y6, rfl, x11, _⟩
    have F11 := F10.xt x11
    clear F10 h10 x11
    walk_at "v"
    refine ⟨1, rfl, ?_⟩
    walk_at "v"
    refine ⟨szOk 5, fun p1 n1 => ?_⟩
    have F12 := F11.same (same_new (o := .tup [V.int (-1), .int 201, .bl true, .non, .str "3"]) n1)
    have h12 : upd H11 p1 (.tup [V.int (-1), .int 201, .bl true, .non, .str "3"]) p1 = some (.tup [V.int (-1), .int 201, .bl true, .non, .str "3"]) := upd_same
    generalize upd H11 p1 (.tup [V.int (-1), .int 201, .bl true, .non, .str "3"]) = H12 at F12 h12 ⊢
    clear n1 F11
    walk_at "v"
    refine for_tup (xs := [V.int (-1), .int 201, .bl true, .non, .str "3"]) (fun j σ H' => ∃ y5 y6, σ = [some (.ref a), some (.ref b), some hv, some (.ref u1), some nv, y5, y6] ∧ Xt T H12 H' ∧ H' p1 = some (.tup [V.int (-1), .int 201, .bl true, .non, .str "3"])) ?_ ?_ ?_ ?_
    · exact ⟨_, _, rfl, Xt.refl F12.tb, h12⟩
    · rintro j σ H' hj ⟨y5, y6, rfl, x2, h2⟩
      exact sqT_at h2
    · rintro j v σ H13 hv' ⟨y5, y6, rfl, x13, h13⟩
      have hbad : BadN K H13 v 200 := badN5b j v hv'
      walk_at "v"
      refine if_door (i := 3) (f0 := f_places) (o1 := hv) (o2 := v) (o3 := .non) hS_places hk3 x13.t vc (vr rfl) (vr rfl) vc (fun H5 Q1 E1 x5 hE => ⟨hv, v, _, rfl, .inr (.inl ⟨r, F12.hr.xt (x13.trans x5), hbad.xt x5, hE⟩)⟩) (fun H5 x5 => ?_)
      exact ⟨_, _, rfl, x13.trans x5, x5.at h13⟩
    rintro σ H13 ⟨y5, y6, rfl, x13, _⟩
    have F13 := F12.xt x13
    clear F12 h12 x13
    walk_at "v"
    refine ⟨szOk 0, fun q1 n1 => ?_⟩
    walk_at "v"
    refine ⟨szOk 3, fun q2 n2 => ?_⟩
    walk_at "v"
    refine ⟨szOk 3, fun q3 n3 => ?_⟩
    walk_at "v"
    refine ⟨szOk 3, fun q4 n4 => ?_⟩
    walk_at "v"
    refine ⟨szOk 3, fun q5 n5 => ?_⟩
    walk_at "v"
    refine ⟨szOk 1, fun q6 n6 => ?_⟩
    walk_at "v"
    refine ⟨szOk 7, fun p1 np1 => ?_⟩
    have z1 := same_new (o := .tup []) n1
    have z2 := same_new (o := .tup [.str "drop", .int 1, .int 0]) n2
    have z3 := same_new (o := .lst [.str "drop", .int 2, .int 0]) n3
    have z4 := same_new (o := .tup [.str "hears", .str "a", .str "a"]) n4
    have z5 := same_new (o := .tup [.str "drop", .int 2, .int 0]) n5
    have z6 := same_new (o := .tup [.ref q5]) n6
    have z7 := same_new (o := .tup [.non, .ref q1, .ref q2, .ref q3, .ref q4, .ref q6, .str "drop"]) np1
    have F14' := F13.same (z1.trans (z2.trans (z3.trans (z4.trans (z5.trans (z6.trans z7))))))
    have hb14 : ∀ v ∈ [V.non, .ref q1, .ref q2, .ref q3, .ref q4, .ref q6, .str "drop"], BadO K (upd (upd (upd (upd (upd (upd (upd H13 q1 (.tup [])) q2 (.tup [.str "drop", .int 1, .int 0])) q3 (.lst [.str "drop", .int 2, .int 0])) q4 (.tup [.str "hears", .str "a", .str "a"])) q5 (.tup [.str "drop", .int 2, .int 0])) q6 (.tup [.ref q5])) p1 (.tup [.non, .ref q1, .ref q2, .ref q3, .ref q4, .ref q6, .str "drop"])) v := fun v h => by
      simp only [List.mem_cons, List.not_mem_nil, or_false] at h
      rcases h with rfl | rfl | rfl | rfl | rfl | rfl | rfl
      · exact ⟨_, .non, rfl, rfl⟩
      · exact ⟨.tuple [], (z2.trans (z3.trans (z4.trans (z5.trans (z6.trans z7))))).dat (.tup sqT_new .nil), rfl, rfl⟩
      · exact ⟨_, (z3.trans (z4.trans (z5.trans (z6.trans z7)))).dat (dpT3 upd_same), by decide +kernel, by decide +kernel⟩
      · exact ⟨.list [.str "drop", .int 2, .int 0], (z4.trans (z5.trans (z6.trans z7))).dat (.lst (sqL_at upd_same) (.cons (.str _) (.cons (.int _) (.cons (.int _) .nil)))), by decide +kernel, rfl⟩
      · exact ⟨.tuple [.str "hears", .str "a", .str "a"], (z5.trans (z6.trans z7)).dat (.tup sqT_new (.cons (.str _) (.cons (.str _) (.cons (.str _) .nil)))), by decide +kernel, by decide +kernel⟩
      · exact ⟨_, z7.dat (dpT1 upd_same (z6.dat (dpT3 upd_same))), by decide +kernel, by decide +kernel⟩
      · exact ⟨_, .str _, by decide +kernel, rfl⟩
    have h14 : upd (upd (upd (upd (upd (upd (upd H13 q1 (.tup [])) q2 (.tup [.str "drop", .int 1, .int 0])) q3 (.lst [.str "drop", .int 2, .int 0])) q4 (.tup [.str "hears", .str "a", .str "a"])) q5 (.tup [.str "drop", .int 2, .int 0])) q6 (.tup [.ref q5])) p1 (.tup [.non, .ref q1, .ref q2, .ref q3, .ref q4, .ref q6, .str "drop"]) p1 = some (.tup [.non, .ref q1, .ref q2, .ref q3, .ref q4, .ref q6, .str "drop"]) := upd_same
    generalize upd (upd (upd (upd (upd (upd (upd H13 q1 (.tup [])) q2 (.tup [.str "drop", .int 1, .int 0])) q3 (.lst [.str "drop", .int 2, .int 0])) q4 (.tup [.str "hears", .str "a", .str "a"])) q5 (.tup [.str "drop", .int 2, .int 0])) q6 (.tup [.ref q5])) p1 (.tup [.non, .ref q1, .ref q2, .ref q3, .ref q4, .ref q6, .str "drop"]) = H14 at F14' hb14 h14 ⊢
    clear z1 z2 z3 z4 z5 z6 z7 n1 n2 n3 n4 n5 n6 np1 F13
    generalize [V.non, .ref q1, .ref q2, .ref q3, .ref q4, .ref q6, .str "drop"] = L14 at hb14 h14 ⊢
    walk_at "v"
    refine for_tup (xs := L14) (fun j σ H' => ∃ y5 y6, σ = [some (.ref a), some (.ref b), some hv, some (.ref u1), some nv, y5, y6] ∧ Xt T H14 H' ∧ H' p1 = some (.tup L14)) ?_ ?_ ?_ ?_
    · exact ⟨_, _, rfl, Xt.refl F14'.tb, h14⟩
    · rintro j σ H' hj ⟨y5, y6, rfl, x2, h2⟩
      exact sqT_at h2
    · rintro j v σ H15 hv' ⟨y5, y6, rfl, x15, h15⟩
      have hbad : BadO K H15 v := (hb14 v (List.mem_of_getElem? hv')).xt x15
      walk_at "v"
      refine if_lam (i := 4) (o1 := v) (o2 := .int 0) (o3 := .int 0) hSL8 hk4 x15.t (vr rfl) vc vc (fun H5 Q1 E1 x5 hE => ⟨v, _, _, rfl, v, rfl, .inl ⟨hbad.xt x5, hE⟩⟩) (fun H5 x5 => ?_)
      exact ⟨_, _, rfl, x15.trans x5, x5.at h15⟩
    rintro σ H15 ⟨y5, y6, rfl, x15, _⟩
    have F15 := F14'.xt x15
    clear F14' h14 hb14 x15
    walk_at "v"
    refine w_ifNo (fun H' => F14 K T p bs hv r H') (fun QT k => ?_) (fun H16 F16 => ?_)
    · walk_at "v"
      refine ⟨F15.tb, fun f c H16 eN t16 nf hf hc => ?_⟩
      have F16 := F15.xt (⟨eN, t16⟩ : Xt T H15 H16)
      walk_at "v"
      refine ⟨b, rfl, (F16.bg.2 b hb).1, fun v1 f1 H17 d17 _ hf1 hd1 => ?_⟩
      have F17 := F16.dr d17 hb
      have nb : ∀ {z : Addr} {o : HO}, H16 z = some o → (∀ xs, o ≠ .lst xs) → H17 z = some o := fun {z o} e n => d17.at e fun w => by
        obtain ⟨dd, ii, nn, g1, _⟩ := d17.b0
        rw [w, g1] at e
        exact n _ (Option.some.inj e).symm
      have hf17 := nb hf (fun xs z => by unfold LamO at z; cases z)
      have hc17 := nb hc (fun xs z => by unfold LamX.CodeO at z; cases z)
      walk_at "v"
      refine w_fine (.inr ⟨lam9, c, hSL9, hf17, hc17⟩) (fun H18 Q1 E1 s18 hE => ⟨v1, _, _, rfl, v1, rfl, .inr ⟨f1, s18.dat hd1, hf1, hE⟩⟩) fun pk H18 s18 hpk => ?_
      walk_at "v"
      refine ⟨szOk 0, fun pl' nl' => ?_⟩
      have sl := same_new (o := .lst []) nl'
      refine w_neNone K (sl _ _ hpk) upd_same ?_
      walk_at "v"
      exact k _ (F17.same (s18.trans sl))
    walk_at "v"
    exact ⟨_, _, _, _, _, _, rfl, F16.bg, F16.tb⟩
  · rintro σ H2 ⟨y1, y2, y3, y4, y5, y6, rfl, bg2, tb2⟩
    walk_at "v"
    refine ⟨tb2, fun f c H3 eN t3 nf hf hc => ?_⟩
    walk_at "v"
    refine ⟨szOk 0, fun t nt => ?_⟩
    have st := same_new (o := .tup []) nt
    have hf3 := st _ _ hf
    have hc3 := st _ _ hc
    have hd3 : Dp K (upd H3 t (.tup [])) (.ref t) (rowD []) := .tup sqT_new .nil
    generalize upd H3 t (.tup []) = H4 at hf3 hc3 hd3 ⊢
    walk_at "v"
    refine w_fine (.inr ⟨lam10, c, hSL10, hf3, hc3⟩) (fun H18 Q1 E1 s18 hE => ⟨.ref t, _, _, rfl, .ref t, _, rfl, .inr (.inr ⟨[], 1000000000000000, ⟨s18.dat hd3, by decide, fun f hf => by cases hf⟩, rfl, Nat.le_refl _, hE⟩)⟩) fun pk H18 s18 hpk => ?_
    walk_at "v"
    refine ⟨szOk 0, fun pl' nl' => ?_⟩
    have sl := same_new (o := .lst []) nl'
    refine w_eqNone K (sl _ _ hpk) upd_same ?_
    exact q _
end
end HH

namespace HH
open PySem PySem.Spec L2
def topS (i : Nat) : Stmt := PySem.Challenge.pw_halfheard_k14_who_is_refused.main.body.getD i (.Pass ⟨0, 0, 0, 0⟩)
section
variable {P : Program} {w : World} {K : PySem.W.Frag} {mg : Str → Option Value} {base : Heap} {tS tF tM tN tT : Tok}
abbrev s_is_within : Stmt := topS 13
abbrev s_is_letter : Stmt := topS 14
abbrev s_is_word : Stmt := topS 15
abbrev s_is_one : Stmt := topS 16
abbrev s_is_row : Stmt := topS 17
abbrev s_need_row : Stmt := topS 18
abbrev s_need_word : Stmt := topS 19
abbrev s_said_by : Stmt := topS 20
abbrev s_comes_out : Stmt := topS 21
abbrev s_out : Stmt := topS 22
abbrev s_passed : Stmt := topS 25
abbrev s_wanted : Stmt := topS 26
abbrev s_all_come : Stmt := topS 27
abbrev s_fewest_signs : Stmt := topS 28
abbrev s_need_many : Stmt := topS 29
abbrev s_come : Stmt := topS 30
abbrev s_least_for : Stmt := topS 31
abbrev s_heard_as : Stmt := topS 32
abbrev s_letter_out : Stmt := topS 33
abbrev s_common : Stmt := topS 34
abbrev s_whole_round : Stmt := topS 35
abbrev s_steps : Stmt := topS 36
abbrev s_least_round : Stmt := topS 37
abbrev s_round_of : Stmt := topS 38
abbrev s_all_lengths : Stmt := topS 41
abbrev s_lengths : Stmt := topS 42
abbrev s_letters_at : Stmt := topS 43
abbrev s_places : Stmt := topS 44
abbrev s_all_places : Stmt := topS 45
abbrev s_how_many : Stmt := topS 46
abbrev s_first_said : Stmt := topS 47
abbrev s_come_alike : Stmt := topS 48
abbrev s_parted : Stmt := topS 50
abbrev s_are_alike : Stmt := topS 51
abbrev s_parting : Stmt := topS 52
abbrev s_does_nothing : Stmt := topS 53
abbrev s_undone_by : Stmt := topS 54
abbrev s_all_counters : Stmt := topS 56
abbrev s_is_pair : Stmt := topS 57
abbrev s_who_can : Stmt := topS 58
abbrev s_l_cell_at : Stmt := topS 60
abbrev s_l_draws : Stmt := topS 61
abbrev s_l_bag : Stmt := topS 62
abbrev s_l_bags : Stmt := topS 63
abbrev s_l_take : Stmt := topS 64
abbrev s_l_counter : Stmt := topS 65
abbrev s_l_mouths : Stmt := topS 66
abbrev s_l_refused : Stmt := topS 67
abbrev s_l_rows_refused : Stmt := topS 68
abbrev s_l_words_refused : Stmt := topS 69
abbrev s_law : Stmt := topS 70
abbrev N_is_within : List Str := ["thing", "low", "high"]
theorem sc_is_within : FnScope N_is_within ["thing", "low", "high"] (defScope s_is_within) := ⟨rfl, rfl, rfl, by decide +kernel, rfl, by decide +kernel, by decide +kernel⟩
theorem ok_is_within {f : Addr} {fd : FuncData} (F : Fun K "is_within" "is_within" s_is_within f fd) (gf : mg "is_within" = some (.ref f)) (nb_isinstance : mg "isinstance" = none) (nb_bool : mg "bool" = none) (nb_int : mg "int" = none) :
    DefOk P w K mg base CX0 1 "is_within" ["thing", "low", "high"] (sp_is_within K) := by
  refine DefOk.of F gf (fun _ _ _ _ _ _ us hl => match us, hl with | [_, _, _], _ => rfl) (F.ok sc_is_within (len_is_within K) (fun cdv A outer s H vs Q E hr h => ⟨t_is_within K, ?_, sem_is_within K vs H Q E h⟩))
  exact (pss_one (ps_ret (pe_and (pe_callB call_isi rfl nb_isinstance (by decide +kernel) (pa_cons (pv 0) (pa_cons (pe_bltn (v := .ty "int") rfl nb_int (by decide +kernel) rfl) pa_nil))) (pe_and (pe_not (pe_callB call_isi rfl nb_isinstance (by decide +kernel) (pa_cons (pv 0) (pa_cons (pe_bltn (v := .ty "bool") rfl nb_bool (by decide +kernel) rfl) pa_nil)))) (pe_one (pe_chain op_leI op_leI (pv 1) (pv 0) (pv 2)))))))

abbrev N_is_letter : List Str := ["thing"]
theorem sc_is_letter : FnScope N_is_letter ["thing"] (defScope s_is_letter) := ⟨rfl, rfl, rfl, by decide +kernel, rfl, by decide +kernel, by decide +kernel⟩
theorem ok_is_letter {f : Addr} {fd : FuncData} (F : Fun K "is_letter" "is_letter" s_is_letter f fd) (gf : mg "is_letter" = some (.ref f)) (nb_len : mg "len" = none) (nb_isinstance : mg "isinstance" = none) (nb_str : mg "str" = none) (nc_SMALL : mg "SMALL" = some (.str "abcdefghijklmnopqrstuvwxyz" tS)) :
    DefOk P w K mg base CX0 1 "is_letter" ["thing"] (sp_is_letter K) := by
  refine DefOk.of F gf (fun _ _ _ _ _ _ us hl => match us, hl with | [_], _ => rfl) (F.ok sc_is_letter (len_is_letter K) (fun cdv A outer s H vs Q E hr h => ⟨t_is_letter K, ?_, sem_is_letter K vs H Q E h⟩))
  exact (pss_one (ps_ret (pe_and (pe_callB call_isi rfl nb_isinstance (by decide +kernel) (pa_cons (pv 0) (pa_cons (pe_bltn (v := .ty "str") rfl nb_str (by decide +kernel) rfl) pa_nil))) (pe_and (pe_cmpR op_eq (pe_callB cr_lenT rfl nb_len (by decide +kernel) (pa_cons (pv 0) pa_nil)) pe_int (nomark _)) (pe_one (pe_cmpR op_inC (pv 0) (pe_glob rfl nc_SMALL ⟨_, rfl⟩) (by rfl)))))))

abbrev N_is_word : List Str := ["thing", "sign"]
theorem sc_is_word : FnScope N_is_word ["thing"] (defScope s_is_word) := ⟨rfl, rfl, rfl, by decide +kernel, rfl, by decide +kernel, by decide +kernel⟩
theorem ok_is_word {f : Addr} {fd : FuncData} (F : Fun K "is_word" "is_word" s_is_word f fd) (gf : mg "is_word" = some (.ref f)) (nb_all : mg "all" = none) (nb_len : mg "len" = none) (nb_isinstance : mg "isinstance" = none) (nb_str : mg "str" = none) (nc_SMALL : mg "SMALL" = some (.str "abcdefghijklmnopqrstuvwxyz" tS)) :
    DefOk P w K mg base CX0 1 "is_word" ["thing"] (sp_is_word K) := by
  refine DefOk.of F gf (fun _ _ _ _ _ _ us hl => match us, hl with | [_], _ => rfl) (F.ok sc_is_word (len_is_word K) (fun cdv A outer s H vs Q E hr h => ⟨t_is_word K, ?_, sem_is_word K vs H Q E h⟩))
  exact (pss_one (ps_ret (pe_and (pe_callB call_isi rfl nb_isinstance (by decide +kernel) (pa_cons (pv 0) (pa_cons (pe_bltn (v := .ty "str") rfl nb_str (by decide +kernel) rfl) pa_nil))) (pe_and (pe_cmpR op_leI (pe_callB cr_lenT rfl nb_len (by decide +kernel) (pa_cons (pv 0) pa_nil)) pe_int (nomark _)) (pe_one (pe_callB (cr_all rfl) rfl nb_all (by decide +kernel) (pa_cons (pe_lc (own := [("sign", 1)]) rfl sc_is_word.nd (pi_str (pv 0)) (blkOk_by (own := [("sign", 1)]) (N := N_is_word) (sc := defScope s_is_word) (by decide +kernel))
    (fun _ _ _ _ _ => (pg_name (i := 1) sc_is_word.nd rfl (Or.inl rfl))) (fun _ _ _ _ _ => pts_nil)
    (fun _ _ _ _ _ => (pe_cmpR op_inC (pv 1) (pe_glob rfl nc_SMALL ⟨_, rfl⟩) (by rfl)))) pa_nil)))))))

abbrev N_is_one : List Str := ["thing"]
theorem sc_is_one : FnScope N_is_one ["thing"] (defScope s_is_one) := ⟨rfl, rfl, rfl, by decide +kernel, rfl, by decide +kernel, by decide +kernel⟩
theorem ok_is_one {f : Addr} {fd : FuncData} (F : Fun K "is_one" "is_one" s_is_one f fd) (gf : mg "is_one" = some (.ref f)) (nb_isinstance : mg "isinstance" = none) (nb_str : mg "str" = none) (nb_len : mg "len" = none) (nb_tuple : mg "tuple" = none) (D_is_letter : DefOk P w K mg base CX0 1 "is_letter" ["thing"] (sp_is_letter K)) (D_is_within : DefOk P w K mg base CX0 1 "is_within" ["thing", "low", "high"] (sp_is_within K)) :
    DefOk P w K mg base CX0 2 "is_one" ["thing"] (sp_is_one K) := by
  refine DefOk.of F gf (fun _ _ _ _ _ _ us hl => match us, hl with | [_], _ => rfl) (F.ok sc_is_one (len_is_one K) (fun cdv A outer s H vs Q E hr h => ⟨t_is_one K, ?_, sem_is_one K vs H Q E h⟩))
  exact (pss_cons (ps_if (PW.pt (pw_or (pt_not (pt_val (pe_callB call_isi rfl nb_isinstance (by decide +kernel) (pa_cons (pv 0) (pa_cons (pe_bltn (v := .ty "tuple") rfl nb_tuple (by decide +kernel) rfl) pa_nil))))) (pw_or (pt_cmpR op_ne (pe_callB cr_lenQ rfl nb_len (by decide +kernel) (pa_cons (pv 0) pa_nil)) pe_int (nomark _)) (pw_or1 (pt_not (pt_val (pe_callB call_isi rfl nb_isinstance (by decide +kernel) (pa_cons (pe_ix ix_tup (pv 0) pe_int (fun _ _ => rfl)) (pa_cons (pe_bltn (v := .ty "str") rfl nb_str (by decide +kernel) rfl) pa_nil))))))))) (pss_one (ps_ret pe_bl)) pss_nil)
  (pss_cons (ps_if (pt_cmpR op_eq (pe_ix ix_tup (pv 0) pe_int (fun _ _ => rfl)) pe_str (nomark _)) (pss_one (ps_ret (pe_and (pe_d D_is_letter (hr.mono (by decide)) rfl (pa_cons (pe_ix ix_tup (pv 0) pe_int (fun _ _ => rfl)) pa_nil)) (pe_and (pe_d D_is_letter (hr.mono (by decide)) rfl (pa_cons (pe_ix ix_tup (pv 0) pe_int (fun _ _ => rfl)) pa_nil)) (pe_one (pe_cmpR op_ne (pe_ix ix_tup (pv 0) pe_int (fun _ _ => rfl)) (pe_ix ix_tup (pv 0) pe_int (fun _ _ => rfl)) (nomark _))))))) pss_nil)
  (pss_cons (ps_if (PW.pt (pw_or (pt_cmpR op_notIn_seq (pe_ix ix_tup (pv 0) pe_int (fun _ _ => rfl)) (pe_tup (pa_cons pe_str (pa_cons pe_str pa_nil))) (by rfl)) (pw_or1 (pt_not (pt_val (pe_d D_is_within (hr.mono (by decide)) rfl (pa_cons (pe_ix ix_tup (pv 0) pe_int (fun _ _ => rfl)) (pa_cons pe_int (pa_cons pe_int pa_nil))))))))) (pss_one (ps_ret pe_bl)) pss_nil)
  (pss_one (ps_ret (pe_d D_is_within (hr.mono (by decide)) rfl (pa_cons (pe_ix ix_tup (pv 0) pe_int (fun _ _ => rfl)) (pa_cons pe_int (pa_cons (pe_op op_subI (pe_ix ix_tup (pv 0) pe_int (fun _ _ => rfl)) pe_int) pa_nil)))))))))

abbrev N_is_row : List Str := ["thing", "one"]
theorem sc_is_row : FnScope N_is_row ["thing"] (defScope s_is_row) := ⟨rfl, rfl, rfl, by decide +kernel, rfl, by decide +kernel, by decide +kernel⟩
theorem ok_is_row {f : Addr} {fd : FuncData} (F : Fun K "is_row" "is_row" s_is_row f fd) (gf : mg "is_row" = some (.ref f)) (nb_all : mg "all" = none) (nb_len : mg "len" = none) (nb_isinstance : mg "isinstance" = none) (nb_tuple : mg "tuple" = none) (D_is_one : DefOk P w K mg base CX0 2 "is_one" ["thing"] (sp_is_one K)) :
    DefOk P w K mg base CX0 3 "is_row" ["thing"] (sp_is_row K) := by
  refine DefOk.of F gf (fun _ _ _ _ _ _ us hl => match us, hl with | [_], _ => rfl) (F.ok sc_is_row (len_is_row K) (fun cdv A outer s H vs Q E hr h => ⟨t_is_row K, ?_, sem_is_row K vs H Q E h⟩))
  exact (pss_one (ps_ret (pe_and (pe_callB call_isi rfl nb_isinstance (by decide +kernel) (pa_cons (pv 0) (pa_cons (pe_bltn (v := .ty "tuple") rfl nb_tuple (by decide +kernel) rfl) pa_nil))) (pe_and (pe_cmpR op_leI (pe_callB cr_lenQ rfl nb_len (by decide +kernel) (pa_cons (pv 0) pa_nil)) pe_int (nomark _)) (pe_one (pe_callB (cr_all rfl) rfl nb_all (by decide +kernel) (pa_cons (pe_lc (own := [("one", 1)]) rfl sc_is_row.nd (pi_tup (pv 0)) (blkOk_by (own := [("one", 1)]) (N := N_is_row) (sc := defScope s_is_row) (by decide +kernel))
    (fun _ _ _ _ _ => (pg_name (i := 1) sc_is_row.nd rfl (Or.inl rfl))) (fun _ _ _ _ _ => pts_nil)
    (fun _ _ _ _ _ => (pe_d D_is_one (hr.mono (by decide)) rfl (pa_cons (pv 1) pa_nil)))) pa_nil)))))))

abbrev N_said_by : List Str := ["one", "word", "kind", "every", "counted", "found", "sign"]
theorem sc_said_by : FnScope N_said_by ["one", "word"] (defScope s_said_by) := ⟨rfl, rfl, rfl, by decide +kernel, rfl, by decide +kernel, by decide +kernel⟩
theorem ok_said_by {f : Addr} {fd : FuncData} (F : Fun K "said_by" "said_by" s_said_by f fd) (gf : mg "said_by" = some (.ref f))  :
    DefOk P w K mg base CX0 1 "said_by" ["one", "word"] (sp_said_by K) := by
  refine DefOk.of F gf (fun _ _ _ _ _ _ us hl => match us, hl with | [_, _], _ => rfl) (F.ok sc_said_by (len_said_by K) (fun cdv A outer s H vs Q E hr h => ⟨t_said_by K, ?_, sem_said_by K vs H Q E h⟩))
  exact (pss_cons (ps_asg (pv 0) (pg_tup rfl (pgs_cons (pg_name (i := 2) sc_said_by.nd rfl (Or.inl rfl)) (pgs_cons (pg_name (i := 3) sc_said_by.nd rfl (Or.inl rfl)) (pgs_cons (pg_name (i := 4) sc_said_by.nd rfl (Or.inl rfl)) pgs_nil)))))
  (pss_cons (ps_asg (pe_lst pa_nil) (pg_name (i := 5) sc_said_by.nd rfl (Or.inl rfl)))
  (pss_cons (ps_for PassesOwn.never rfl (pi_str (pv 1)) (pg_name (i := 6) sc_said_by.nd rfl (Or.inl rfl))
  (pss_one (ps_if (pt_cmpR op_eq (pv 2) pe_str (nomark _)) (pss_one (ps_expr (pe_bm PySem.F.plainAttrs_list PySem.F.slot_list_append PySem.F.type_list_append mt_append (pv 5) (pa_cons (pe_ifExp (pt_cmpR op_eq (pv 6) (pv 3) (nomark _)) (pv 4) (pv 6)) pa_nil)))) (pss_cons (ps_asg (pe_op op_modI (pe_op op_addI (pv 4) pe_int) (pv 3)) (pg_name (i := 4) sc_said_by.nd rfl (Or.inl rfl)))
  (pss_one (ps_if (pt_cmpR op_gtI (pv 4) pe_int (nomark _)) (pss_one (ps_expr (pe_bm PySem.F.plainAttrs_list PySem.F.slot_list_append PySem.F.type_list_append mt_append (pv 5) (pa_cons (pv 6) pa_nil)))) (pss_one (ps_if (pt_cmpR op_eq (pv 2) pe_str (nomark _)) (pss_one (ps_expr (pe_bm PySem.F.plainAttrs_list PySem.F.slot_list_append PySem.F.type_list_append mt_append (pv 5) (pa_cons (pe_op op_addS (pv 6) (pv 6)) pa_nil)))) pss_nil))))))))
  (pss_one (ps_ret (pe_joinQ pe_str (pv 5)))))))

abbrev N_comes_out : List Str := ["row", "word", "one"]
theorem sc_comes_out : FnScope N_comes_out ["row", "word"] (defScope s_comes_out) := ⟨rfl, rfl, rfl, by decide +kernel, rfl, by decide +kernel, by decide +kernel⟩
theorem ok_comes_out {f : Addr} {fd : FuncData} (F : Fun K "comes_out" "comes_out" s_comes_out f fd) (gf : mg "comes_out" = some (.ref f)) (D_said_by : DefOk P w K mg base CX0 1 "said_by" ["one", "word"] (sp_said_by K)) :
    DefOk P w K mg base CX0 2 "comes_out" ["row", "word"] (sp_comes_out K) := by
  refine DefOk.of F gf (fun _ _ _ _ _ _ us hl => match us, hl with | [_, _], _ => rfl) (F.ok sc_comes_out (len_comes_out K) (fun cdv A outer s H vs Q E hr h => ⟨t_comes_out K, ?_, sem_comes_out K vs H Q E h⟩))
  exact (pss_cons (ps_for PassesOwn.never rfl (pi_tup (pv 0)) (pg_name (i := 2) sc_comes_out.nd rfl (Or.inl rfl))
  (pss_one (ps_asg (pe_d D_said_by (hr.mono (by decide)) rfl (pa_cons (pv 2) (pa_cons (pv 1) pa_nil))) (pg_name (i := 1) sc_comes_out.nd rfl (Or.inl rfl)))))
  (pss_one (ps_ret (pv 1))))

abbrev N_passed : List Str := ["one", "many", "kind", "every", "counted", "some"]
theorem sc_passed : FnScope N_passed ["one", "many"] (defScope s_passed) := ⟨rfl, rfl, rfl, by decide +kernel, rfl, by decide +kernel, by decide +kernel⟩
theorem ok_passed {f : Addr} {fd : FuncData} (F : Fun K "passed" "passed" s_passed f fd) (gf : mg "passed" = some (.ref f))  :
    DefOk P w K mg base CX0 1 "passed" ["one", "many"] (sp_passed K) := by
  refine DefOk.of F gf (fun _ _ _ _ _ _ us hl => match us, hl with | [_, _], _ => rfl) (F.ok sc_passed (len_passed K) (fun cdv A outer s H vs Q E hr h => ⟨t_passed K, ?_, sem_passed K vs H Q E h⟩))
  exact (pss_cons (ps_asg (pv 0) (pg_tup rfl (pgs_cons (pg_name (i := 2) sc_passed.nd rfl (Or.inl rfl)) (pgs_cons (pg_name (i := 3) sc_passed.nd rfl (Or.inl rfl)) (pgs_cons (pg_name (i := 4) sc_passed.nd rfl (Or.inl rfl)) pgs_nil)))))
  (pss_cons (ps_if (pt_cmpR op_eq (pv 2) pe_str (nomark _)) (pss_one (ps_ret (pv 1))) pss_nil)
  (pss_cons (ps_asg (pe_op op_divI (pe_op op_addI (pv 1) (pv 4)) (pv 3)) (pg_name (i := 5) sc_passed.nd rfl (Or.inl rfl)))
  (pss_one (ps_ret (pe_ifExp (pt_cmpR op_eq (pv 2) pe_str (nomark _)) (pe_op op_subI (pv 1) (pv 5)) (pe_op op_addI (pv 1) (pv 5))))))))

abbrev N_wanted : List Str := ["one", "many", "kind", "every", "counted", "among"]
theorem sc_wanted : FnScope N_wanted ["one", "many"] (defScope s_wanted) := ⟨rfl, rfl, rfl, by decide +kernel, rfl, by decide +kernel, by decide +kernel⟩
theorem ok_wanted {f : Addr} {fd : FuncData} (F : Fun K "wanted" "wanted" s_wanted f fd) (gf : mg "wanted" = some (.ref f))  :
    DefOk P w K mg base CX0 1 "wanted" ["one", "many"] (sp_wanted K) := by
  refine DefOk.of F gf (fun _ _ _ _ _ _ us hl => match us, hl with | [_, _], _ => rfl) (F.ok sc_wanted (len_wanted K) (fun cdv A outer s H vs Q E hr h => ⟨t_wanted K, ?_, sem_wanted K vs H Q E h⟩))
  exact (pss_cons (ps_asg (pv 0) (pg_tup rfl (pgs_cons (pg_name (i := 2) sc_wanted.nd rfl (Or.inl rfl)) (pgs_cons (pg_name (i := 3) sc_wanted.nd rfl (Or.inl rfl)) (pgs_cons (pg_name (i := 4) sc_wanted.nd rfl (Or.inl rfl)) pgs_nil)))))
  (pss_cons (ps_if (PW.pt (pw_or (pt_cmpR op_eq (pv 2) pe_str (nomark _)) (pw_or1 (pt_cmpR op_eq (pv 1) pe_int (nomark _))))) (pss_one (ps_ret (pv 1))) pss_nil)
  (pss_cons (ps_asg (pe_op op_addI (pv 1) (pv 4)) (pg_name (i := 5) sc_wanted.nd rfl (Or.inl rfl)))
  (pss_cons (ps_if (pt_cmpR op_eq (pv 2) pe_str (nomark _)) (pss_one (ps_ret (pe_op op_subI (pe_op op_addI (pv 5) (pe_op op_divI (pe_op op_subI (pv 5) pe_int) (pe_op op_subI (pv 3) pe_int))) (pv 4)))) pss_nil)
  (pss_one (ps_ret (pe_op op_subI (pe_op op_subI (pv 5) (pe_op op_divI (pv 5) (pe_op op_addI (pv 3) pe_int))) (pv 4))))))))

abbrev N_all_come : List Str := ["row", "many", "one"]
theorem sc_all_come : FnScope N_all_come ["row", "many"] (defScope s_all_come) := ⟨rfl, rfl, rfl, by decide +kernel, rfl, by decide +kernel, by decide +kernel⟩
theorem ok_all_come {f : Addr} {fd : FuncData} (F : Fun K "all_come" "all_come" s_all_come f fd) (gf : mg "all_come" = some (.ref f)) (D_passed : DefOk P w K mg base CX0 1 "passed" ["one", "many"] (sp_passed K)) :
    DefOk P w K mg base CX0 2 "all_come" ["row", "many"] (sp_all_come K) := by
  refine DefOk.of F gf (fun _ _ _ _ _ _ us hl => match us, hl with | [_, _], _ => rfl) (F.ok sc_all_come (len_all_come K) (fun cdv A outer s H vs Q E hr h => ⟨t_all_come K, ?_, sem_all_come K vs H Q E h⟩))
  exact (pss_cons (ps_for PassesOwn.never rfl (pi_tup (pv 0)) (pg_name (i := 2) sc_all_come.nd rfl (Or.inl rfl))
  (pss_one (ps_asg (pe_d D_passed (hr.mono (by decide)) rfl (pa_cons (pv 2) (pa_cons (pv 1) pa_nil))) (pg_name (i := 1) sc_all_come.nd rfl (Or.inl rfl)))))
  (pss_one (ps_ret (pv 1))))

abbrev N_fewest_signs : List Str := ["row", "many", "one"]
theorem sc_fewest_signs : FnScope N_fewest_signs ["row", "many"] (defScope s_fewest_signs) := ⟨rfl, rfl, rfl, by decide +kernel, rfl, by decide +kernel, by decide +kernel⟩
theorem ok_fewest_signs {f : Addr} {fd : FuncData} (F : Fun K "fewest_signs" "fewest_signs" s_fewest_signs f fd) (gf : mg "fewest_signs" = some (.ref f)) (D_wanted : DefOk P w K mg base CX0 1 "wanted" ["one", "many"] (sp_wanted K)) :
    DefOk P w K mg base CX0 2 "fewest_signs" ["row", "many"] (sp_fewest_signs K) := by
  refine DefOk.of F gf (fun _ _ _ _ _ _ us hl => match us, hl with | [_, _], _ => rfl) (F.ok sc_fewest_signs (len_fewest_signs K) (fun cdv A outer s H vs Q E hr h => ⟨t_fewest_signs K, ?_, sem_fewest_signs K vs H Q E h⟩))
  exact (pss_cons (ps_for PassesOwn.never rfl (pi_tup (pe_revT (pv 0))) (pg_name (i := 2) sc_fewest_signs.nd rfl (Or.inl rfl))
  (pss_one (ps_asg (pe_d D_wanted (hr.mono (by decide)) rfl (pa_cons (pv 2) (pa_cons (pv 1) pa_nil))) (pg_name (i := 1) sc_fewest_signs.nd rfl (Or.inl rfl)))))
  (pss_one (ps_ret (pv 1))))

abbrev N_heard_as : List Str := ["row", "letter", "kind", "one", "other"]
theorem sc_heard_as : FnScope N_heard_as ["row", "letter"] (defScope s_heard_as) := ⟨rfl, rfl, rfl, by decide +kernel, rfl, by decide +kernel, by decide +kernel⟩
theorem ok_heard_as {f : Addr} {fd : FuncData} (F : Fun K "heard_as" "heard_as" s_heard_as f fd) (gf : mg "heard_as" = some (.ref f))  :
    DefOk P w K mg base CX0 1 "heard_as" ["row", "letter"] (sp_heard_as K) := by
  refine DefOk.of F gf (fun _ _ _ _ _ _ us hl => match us, hl with | [_, _], _ => rfl) (F.ok sc_heard_as (len_heard_as K) (fun cdv A outer s H vs Q E hr h => ⟨t_heard_as K, ?_, sem_heard_as K vs H Q E h⟩))
  exact (pss_cons (ps_for PassesOwn.never rfl (pi_tup (pv 0)) (pg_tup rfl (pgs_cons (pg_name (i := 2) sc_heard_as.nd rfl (Or.inl rfl)) (pgs_cons (pg_name (i := 3) sc_heard_as.nd rfl (Or.inl rfl)) (pgs_cons (pg_name (i := 4) sc_heard_as.nd rfl (Or.inl rfl)) pgs_nil))))
  (pss_one (ps_if (PW.pt (pw_and (pt_cmpR op_eq (pv 2) pe_str (nomark _)) (pw_and1 (pt_cmpR op_eq (pv 1) (pv 3) (nomark _))))) (pss_one (ps_asg (pv 4) (pg_name (i := 1) sc_heard_as.nd rfl (Or.inl rfl)))) pss_nil)))
  (pss_one (ps_ret (pv 1))))

abbrev N_common : List Str := ["one", "other"]
theorem sc_common : FnScope N_common ["one", "other"] (defScope s_common) := ⟨rfl, rfl, rfl, by decide +kernel, rfl, by decide +kernel, by decide +kernel⟩
theorem ok_common {f : Addr} {fd : FuncData} (F : Fun K "common" "common" s_common f fd) (gf : mg "common" = some (.ref f))  :
    DefOk P w K mg base CX0 1 "common" ["one", "other"] (sp_common K) := by
  refine DefOk.of F gf (fun _ _ _ _ _ _ us hl => match us, hl with | [_, _], _ => rfl) (F.ok sc_common (len_common K) (fun cdv A outer s H vs Q E hr h => ⟨t_common K, ?_, sem_common K vs H Q E h⟩))
  exact (pss_cons (ps_while PassesOwn.never (pt_cmpR op_ne (pv 1) pe_int (nomark _)) (pss_one (ps_par (i := 0) (j := 1) rfl sc_common.nd rfl rfl (by decide) rfl rfl (pa_cons (pv 1) (pa_cons (pe_op op_modI (pv 0) (pv 1)) pa_nil)) (by rfl))))
  (pss_one (ps_ret (pv 0))))

abbrev N_whole_round : List Str := ["row", "signs", "there", "one", "times"]
theorem sc_whole_round : FnScope N_whole_round ["row"] (defScope s_whole_round) := ⟨rfl, rfl, rfl, by decide +kernel, rfl, by decide +kernel, by decide +kernel⟩
theorem ok_whole_round {f : Addr} {fd : FuncData} (F : Fun K "whole_round" "whole_round" s_whole_round f fd) (gf : mg "whole_round" = some (.ref f)) (D_common : DefOk P w K mg base CX0 1 "common" ["one", "other"] (sp_common K)) (D_passed : DefOk P w K mg base CX0 1 "passed" ["one", "many"] (sp_passed K)) :
    DefOk P w K mg base CX0 2 "whole_round" ["row"] (sp_whole_round K) := by
  refine DefOk.of F gf (fun _ _ _ _ _ _ us hl => match us, hl with | [_], _ => rfl) (F.ok sc_whole_round (len_whole_round K) (fun cdv A outer s H vs Q E hr h => ⟨t_whole_round K, ?_, sem_whole_round K vs H Q E h⟩))
  exact (pss_cons (ps_asg (pe_tup (pa_cons pe_int (pa_cons pe_int pa_nil))) (pg_tup rfl (pgs_cons (pg_name (i := 1) sc_whole_round.nd rfl (Or.inl rfl)) (pgs_cons (pg_name (i := 2) sc_whole_round.nd rfl (Or.inl rfl)) pgs_nil))))
  (pss_cons (ps_for PassesOwn.never rfl (pi_tup (pv 0)) (pg_name (i := 3) sc_whole_round.nd rfl (Or.inl rfl))
  (pss_one (ps_if (pt_cmpR op_ne (pe_ix ix_tup (pv 3) pe_int (fun _ _ => rfl)) pe_str (nomark _)) (pss_cons (ps_asg (pe_op op_divI (pe_ix ix_tup (pv 3) pe_int (fun _ _ => rfl)) (pe_d D_common (hr.mono (by decide)) rfl (pa_cons (pv 2) (pa_cons (pe_ix ix_tup (pv 3) pe_int (fun _ _ => rfl)) pa_nil)))) (pg_name (i := 4) sc_whole_round.nd rfl (Or.inl rfl)))
  (pss_cons (ps_par (i := 1) (j := 2) rfl sc_whole_round.nd rfl rfl (by decide) rfl rfl (pa_cons (pe_op op_mulI (pv 1) (pv 4)) (pa_cons (pe_op op_mulI (pv 2) (pv 4)) pa_nil)) (by rfl))
  (pss_one (ps_asg (pe_d D_passed (hr.mono (by decide)) rfl (pa_cons (pe_tup (pa_cons (pe_ix ix_tup (pv 3) pe_int (fun _ _ => rfl)) (pa_cons (pe_ix ix_tup (pv 3) pe_int (fun _ _ => rfl)) (pa_cons pe_int pa_nil)))) (pa_cons (pv 2) pa_nil))) (pg_name (i := 2) sc_whole_round.nd rfl (Or.inl rfl)))))) pss_nil)))
  (pss_one (ps_ret (pv 1)))))

abbrev N_steps : List Str := ["row", "many", "counts", "number", "ahead", "later"]
theorem sc_steps : FnScope N_steps ["row", "many"] (defScope s_steps) := ⟨rfl, rfl, rfl, by decide +kernel, rfl, by decide +kernel, by decide +kernel⟩
theorem ok_steps {f : Addr} {fd : FuncData} (F : Fun K "steps" "steps" s_steps f fd) (gf : mg "steps" = some (.ref f)) (nb_range : mg "range" = none) (nb_zip : mg "zip" = none) (D_all_come : DefOk P w K mg base CX0 2 "all_come" ["row", "many"] (sp_all_come K)) :
    DefOk P w K mg base CX0 3 "steps" ["row", "many"] (sp_steps K) := by
  refine DefOk.of F gf (fun _ _ _ _ _ _ us hl => match us, hl with | [_, _], _ => rfl) (F.ok sc_steps (len_steps K) (fun cdv A outer s H vs Q E hr h => ⟨t_steps K, ?_, sem_steps K vs H Q E h⟩))
  exact (pss_cons (ps_setLc (i := 2) (own := [("number", 3)]) rfl sc_steps.nd rfl rfl (sw_true rfl rfl rfl (by decide +kernel)) (pi_range1 rfl nb_range (pa_cons (pe_op op_addI (pv 1) pe_int) pa_nil)) (blkOk_by (own := [("number", 3)]) (N := N_steps) (sc := defScope s_steps) (by decide +kernel))
    (fun _ _ _ _ _ => (pg_name (i := 3) sc_steps.nd rfl (Or.inl rfl))) (fun _ _ _ _ _ => pts_nil)
    (fun _ _ _ _ _ => (pe_d D_all_come (hr.mono (by decide)) rfl (pa_cons (pv 0) (pa_cons (pv 3) pa_nil)))))
  (pss_one (ps_ret (pe_lc (own := [("ahead", 4), ("later", 5)]) rfl sc_steps.nd (pi_zip rfl nb_zip (pa_cons (pv 2) (pa_cons (pe_slice sl_list (pv 2) (po_some pe_int) po_none) pa_nil))) (blkOk_by (own := [("ahead", 4), ("later", 5)]) (N := N_steps) (sc := defScope s_steps) (by decide +kernel))
    (fun _ _ _ _ _ => (pg_tup rfl (pgs_cons (pg_name (i := 4) sc_steps.nd rfl (Or.inl rfl)) (pgs_cons (pg_name (i := 5) sc_steps.nd rfl (Or.inl rfl)) pgs_nil)))) (fun _ _ _ _ _ => pts_nil)
    (fun _ _ _ _ _ => (pe_op op_subI (pv 5) (pv 4)))))))

abbrev N_least_round : List Str := ["row", "signs", "some", "many"]
theorem sc_least_round : FnScope N_least_round ["row"] (defScope s_least_round) := ⟨rfl, rfl, rfl, by decide +kernel, rfl, by decide +kernel, by decide +kernel⟩
theorem ok_least_round {f : Addr} {fd : FuncData} (F : Fun K "least_round" "least_round" s_least_round f fd) (gf : mg "least_round" = some (.ref f)) (nb_range : mg "range" = none) (D_whole_round : DefOk P w K mg base CX0 2 "whole_round" ["row"] (sp_whole_round K)) (D_steps : DefOk P w K mg base CX0 3 "steps" ["row", "many"] (sp_steps K)) :
    DefOk P w K mg base CX0 4 "least_round" ["row"] (sp_least_round K) := by
  refine DefOk.of F gf (fun _ _ _ _ _ _ us hl => match us, hl with | [_], _ => rfl) (F.ok sc_least_round (len_least_round K) (fun cdv A outer s H vs Q E hr h => ⟨t_least_round K, ?_, sem_least_round K vs H Q E h⟩))
  exact (pss_cons (ps_asg (pe_d D_whole_round (hr.mono (by decide)) rfl (pa_cons (pv 0) pa_nil)) (pg_name (i := 1) sc_least_round.nd rfl (Or.inl rfl)))
  (pss_cons (ps_asg (pe_d D_steps (hr.mono (by decide)) rfl (pa_cons (pv 0) (pa_cons (pv 1) pa_nil))) (pg_name (i := 2) sc_least_round.nd rfl (Or.inl rfl)))
  (pss_cons (ps_for PassesOwn.never rfl (pi_range2 rfl nb_range (pa_cons pe_int (pa_cons (pe_op op_addI (pv 1) pe_int) pa_nil))) (pg_name (i := 3) sc_least_round.nd rfl (Or.inl rfl))
  (pss_one (ps_if (PW.pt (pw_and (pt_cmpR op_eq (pe_op op_modI (pv 1) (pv 3)) pe_int (nomark _)) (pw_and1 (pt_cmpR (op_eqD hr.units) (pe_op op_cat (pe_slice sl_list (pv 2) (po_some (pv 3)) po_none) (pe_slice sl_list (pv 2) po_none (po_some (pv 3)))) (pv 2) (nomark _))))) (pss_one (ps_ret (pv 3))) pss_nil)))
  (pss_one (ps_ret (pv 1))))))

abbrev N_all_lengths : List Str := ["row", "many", "low", "high"]
theorem sc_all_lengths : FnScope N_all_lengths ["row", "many"] (defScope s_all_lengths) := ⟨rfl, rfl, rfl, by decide +kernel, rfl, by decide +kernel, by decide +kernel⟩
theorem ok_all_lengths {f : Addr} {fd : FuncData} (F : Fun K "all_lengths" "all_lengths" s_all_lengths f fd) (gf : mg "all_lengths" = some (.ref f)) (nb_min : mg "min" = none) (nc_MOST : mg "MOST" = some (.int 200 tM)) (D_fewest_signs : DefOk P w K mg base CX0 2 "fewest_signs" ["row", "many"] (sp_fewest_signs K)) (D_all_come : DefOk P w K mg base CX0 2 "all_come" ["row", "many"] (sp_all_come K)) :
    DefOk P w K mg base CX0 3 "all_lengths" ["row", "many"] (sp_all_lengths K) := by
  refine DefOk.of F gf (fun _ _ _ _ _ _ us hl => match us, hl with | [_, _], _ => rfl) (F.ok sc_all_lengths (len_all_lengths K) (fun cdv A outer s H vs Q E hr h => ⟨t_all_lengths K, ?_, sem_all_lengths K vs H Q E h⟩))
  exact (pss_cons (ps_par (i := 2) (j := 3) rfl sc_all_lengths.nd rfl rfl (by decide) rfl rfl (pa_cons (pe_d D_fewest_signs (hr.mono (by decide)) rfl (pa_cons (pv 0) (pa_cons (pv 1) pa_nil))) (pa_cons (pe_callB (cr_min2 rfl) rfl nb_min (by decide +kernel) (pa_cons (pe_glob rfl nc_MOST ⟨_, rfl⟩) (pa_cons (pe_op op_subI (pe_d D_fewest_signs (hr.mono (by decide)) rfl (pa_cons (pv 0) (pa_cons (pe_op op_addI (pv 1) pe_int) pa_nil))) pe_int) pa_nil))) pa_nil)) (by rfl))
  (pss_one (ps_ret (pe_ifExp (PW.pt (pw_and (pt_cmpR op_eq (pe_d D_all_come (hr.mono (by decide)) rfl (pa_cons (pv 0) (pa_cons (pv 2) pa_nil))) (pv 1) (nomark _)) (pw_and1 (pt_cmpR op_leI (pv 2) (pe_glob rfl nc_MOST ⟨_, rfl⟩) (nomark _))))) (pe_tup (pa_cons (pv 2) (pa_cons (pv 3) pa_nil))) pe_non))))

abbrev N_letters_at : List Str := ["row", "length", "heard", "found", "at", "many", "some", "good", "letter"]
theorem sc_letters_at : FnScope N_letters_at ["row", "length", "heard"] (defScope s_letters_at) := ⟨rfl, rfl, rfl, by decide +kernel, rfl, by decide +kernel, by decide +kernel⟩
theorem ok_letters_at {f : Addr} {fd : FuncData} (F : Fun K "letters_at" "letters_at" s_letters_at f fd) (gf : mg "letters_at" = some (.ref f)) (nb_len : mg "len" = none) (nc_SMALL : mg "SMALL" = some (.str "abcdefghijklmnopqrstuvwxyz" tS)) (D_all_come : DefOk P w K mg base CX0 2 "all_come" ["row", "many"] (sp_all_come K)) (D_steps : DefOk P w K mg base CX0 3 "steps" ["row", "many"] (sp_steps K)) (D_heard_as : DefOk P w K mg base CX0 1 "heard_as" ["row", "letter"] (sp_heard_as K)) :
    DefOk P w K mg base CX0 4 "letters_at" ["row", "length", "heard"] (sp_letters_at K) := by
  refine DefOk.of F gf (fun _ _ _ _ _ _ us hl => match us, hl with | [_, _, _], _ => rfl) (F.ok sc_letters_at (len_letters_at K) (fun cdv A outer s H vs Q E hr h => ⟨t_letters_at K, ?_, sem_letters_at K vs H Q E h⟩))
  exact (pss_cons (ps_if (pt_cmpR op_ne (pe_d D_all_come (hr.mono (by decide)) rfl (pa_cons (pv 0) (pa_cons (pv 1) pa_nil))) (pe_callB cr_lenT rfl nb_len (by decide +kernel) (pa_cons (pv 2) pa_nil)) (nomark _)) (pss_one (ps_ret pe_non)) pss_nil)
  (pss_cons (ps_par (i := 3) (j := 4) rfl sc_letters_at.nd rfl rfl (by decide) rfl rfl (pa_cons (pe_lst pa_nil) (pa_cons pe_int pa_nil)) (by rfl))
  (pss_cons (ps_for PassesOwn.never rfl (pi_list (pe_d D_steps (hr.mono (by decide)) rfl (pa_cons (pv 0) (pa_cons (pv 1) pa_nil)))) (pg_name (i := 5) sc_letters_at.nd rfl (Or.inr rfl))
  (pss_cons (ps_asg (pe_slice sl_str (pv 2) (po_some (pv 4)) (po_some (pe_op op_addI (pv 4) (pv 5)))) (pg_name (i := 6) sc_letters_at.nd rfl (Or.inr rfl)))
  (pss_cons (ps_asg (pe_joinQ pe_str (pe_lc (own := [("letter", 8)]) rfl sc_letters_at.nd (pi_str (pe_glob rfl nc_SMALL ⟨_, rfl⟩)) (blkOk_by (own := [("letter", 8)]) (N := N_letters_at) (sc := defScope s_letters_at) (by decide +kernel))
    (fun _ _ _ _ _ => (pg_name (i := 8) sc_letters_at.nd rfl (Or.inl rfl))) (fun _ _ _ _ _ => (pts_one (pt_cmpR op_eq (pv 6) (pe_op op_mulS (pe_d D_heard_as (hr.mono (by decide)) rfl (pa_cons (pv 0) (pa_cons (pv 8) pa_nil))) (pv 5)) (nomark _))))
    (fun _ _ _ _ _ => (pv 8)))) (pg_name (i := 7) sc_letters_at.nd rfl (Or.inl rfl)))
  (pss_cons (ps_if (pt_cmpR op_eq (pv 7) pe_str (nomark _)) (pss_one (ps_ret pe_non)) pss_nil)
  (pss_cons (ps_expr (pe_bm PySem.F.plainAttrs_list PySem.F.slot_list_append PySem.F.type_list_append mt_append (pv 3) (pa_cons (pv 7) pa_nil)))
  (pss_one (ps_asg (pe_op op_addI (pv 4) (pv 5)) (pg_name (i := 4) sc_letters_at.nd rfl (Or.inl rfl)))))))))
  (pss_one (ps_ret (pv 3))))))

abbrev N_all_places : List Str := ["row", "heard", "ends", "rows", "length", "some"]
theorem sc_all_places : FnScope N_all_places ["row", "heard"] (defScope s_all_places) := ⟨rfl, rfl, rfl, by decide +kernel, rfl, by decide +kernel, by decide +kernel⟩
theorem ok_all_places {f : Addr} {fd : FuncData} (F : Fun K "all_places" "all_places" s_all_places f fd) (gf : mg "all_places" = some (.ref f)) (nb_len : mg "len" = none) (nb_range : mg "range" = none) (D_all_lengths : DefOk P w K mg base CX0 3 "all_lengths" ["row", "many"] (sp_all_lengths K)) (D_letters_at : DefOk P w K mg base CX0 4 "letters_at" ["row", "length", "heard"] (sp_letters_at K)) :
    DefOk P w K mg base CX0 5 "all_places" ["row", "heard"] (sp_all_places K) := by
  refine DefOk.of F gf (fun _ _ _ _ _ _ us hl => match us, hl with | [_, _], _ => rfl) (F.ok sc_all_places (len_all_places K) (fun cdv A outer s H vs Q E hr h => ⟨t_all_places K, ?_, sem_all_places K vs H Q E h⟩))
  exact (pss_cons (ps_asg (pe_d D_all_lengths (hr.mono (by decide)) rfl (pa_cons (pv 0) (pa_cons (pe_callB cr_lenT rfl nb_len (by decide +kernel) (pa_cons (pv 1) pa_nil)) pa_nil))) (pg_name (i := 2) sc_all_places.nd rfl (Or.inl rfl)))
  (pss_cons (ps_if (pt_cmpR op_isNon (pv 2) pe_non (nomark _)) (pss_one (ps_ret (pe_lst pa_nil))) pss_nil)
  (pss_cons (ps_setLc (i := 3) (own := [("length", 4)]) rfl sc_all_places.nd rfl rfl (sw_true rfl rfl rfl (by decide +kernel)) (pi_range2 rfl nb_range (pa_cons (pe_ix ix_tup (pv 2) pe_int (fun _ _ => rfl)) (pa_cons (pe_op op_addI (pe_ix ix_tup (pv 2) pe_int (fun _ _ => rfl)) pe_int) pa_nil))) (blkOk_by (own := [("length", 4)]) (N := N_all_places) (sc := defScope s_all_places) (by decide +kernel))
    (fun _ _ _ _ _ => (pg_name (i := 4) sc_all_places.nd rfl (Or.inl rfl))) (fun _ _ _ _ _ => pts_nil)
    (fun _ _ _ _ _ => (pe_d D_letters_at (hr.mono (by decide)) rfl (pa_cons (pv 0) (pa_cons (pv 4) (pa_cons (pv 1) pa_nil))))))
  (pss_one (ps_ret (pe_lc (own := [("some", 5)]) rfl sc_all_places.nd (pi_list (pv 3)) (blkOk_by (own := [("some", 5)]) (N := N_all_places) (sc := defScope s_all_places) (by decide +kernel))
    (fun _ _ _ _ _ => (pg_name (i := 5) sc_all_places.nd rfl (Or.inl rfl))) (fun _ _ _ _ _ => (pts_one (pt_cmpR op_notNon (pv 5) pe_non (nomark _))))
    (fun _ _ _ _ _ => (pv 5))))))))

abbrev N_parted : List Str := ["row", "other", "many", "one", "two", "unlike", "place", "letter"]
theorem sc_parted : FnScope N_parted ["row", "other"] (defScope s_parted) := ⟨rfl, rfl, rfl, by decide +kernel, rfl, by decide +kernel, by decide +kernel⟩
theorem ok_parted {f : Addr} {fd : FuncData} (F : Fun K "parted" "parted" s_parted f fd) (gf : mg "parted" = some (.ref f)) (nb_range : mg "range" = none) (nc_SMALL : mg "SMALL" = some (.str "abcdefghijklmnopqrstuvwxyz" tS)) (D_least_round : DefOk P w K mg base CX0 4 "least_round" ["row"] (sp_least_round K)) (D_steps : DefOk P w K mg base CX0 3 "steps" ["row", "many"] (sp_steps K)) (D_heard_as : DefOk P w K mg base CX0 1 "heard_as" ["row", "letter"] (sp_heard_as K)) :
    DefOk P w K mg base CX0 5 "parted" ["row", "other"] (sp_parted K) := by
  refine DefOk.of F gf (fun _ _ _ _ _ _ us hl => match us, hl with | [_, _], _ => rfl) (F.ok sc_parted (len_parted K) (fun cdv A outer s H vs Q E hr h => ⟨t_parted K, ?_, sem_parted K vs H Q E h⟩))
  exact (pss_cons (ps_asg (pe_op op_addI (pe_d D_least_round (hr.mono (by decide)) rfl (pa_cons (pv 0) pa_nil)) (pe_d D_least_round (hr.mono (by decide)) rfl (pa_cons (pv 1) pa_nil))) (pg_name (i := 2) sc_parted.nd rfl (Or.inl rfl)))
  (pss_cons (ps_par (i := 3) (j := 4) rfl sc_parted.nd rfl rfl (by decide) rfl rfl (pa_cons (pe_d D_steps (hr.mono (by decide)) rfl (pa_cons (pv 0) (pa_cons (pv 2) pa_nil))) (pa_cons (pe_d D_steps (hr.mono (by decide)) rfl (pa_cons (pv 1) (pa_cons (pv 2) pa_nil))) pa_nil)) (by rfl))
  (pss_cons (ps_setLc (i := 5) (own := [("letter", 7)]) rfl sc_parted.nd rfl rfl (sw_true rfl rfl rfl (by decide +kernel)) (pi_str (pe_glob rfl nc_SMALL ⟨_, rfl⟩)) (blkOk_by (own := [("letter", 7)]) (N := N_parted) (sc := defScope s_parted) (by decide +kernel))
    (fun _ _ _ _ _ => (pg_name (i := 7) sc_parted.nd rfl (Or.inl rfl))) (fun _ _ _ _ _ => (pts_one (pt_cmpR op_ne (pe_d D_heard_as (hr.mono (by decide)) rfl (pa_cons (pv 0) (pa_cons (pv 7) pa_nil))) (pe_d D_heard_as (hr.mono (by decide)) rfl (pa_cons (pv 1) (pa_cons (pv 7) pa_nil))) (nomark _))))
    (fun _ _ _ _ _ => (pv 7)))
  (pss_cons (ps_for PassesOwn.never rfl (pi_range1 rfl nb_range (pa_cons (pv 2) pa_nil)) (pg_name (i := 6) sc_parted.nd rfl (Or.inl rfl))
  (pss_cons (ps_if (pt_cmpR op_ne (pe_ix ix_list (pv 3) (pv 6) (fun _ _ => rfl)) (pe_ix ix_list (pv 4) (pv 6) (fun _ _ => rfl)) (nomark _)) (pss_one (ps_ret (pe_op op_mulS pe_str (pe_op op_addI (pv 6) pe_int)))) pss_nil)
  (pss_one (ps_if (PW.pt (pw_and (pt_cmpR op_gtI (pe_ix ix_list (pv 3) (pv 6) (fun _ _ => rfl)) pe_int (nomark _)) (pw_and1 (pt_cmpR (op_neD hr.units) (pv 5) (pe_lst pa_nil) (nomark _))))) (pss_one (ps_ret (pe_op op_addS (pe_op op_mulS pe_str (pv 6)) (pe_ix ix_list (pv 5) pe_int (fun _ _ => rfl))))) pss_nil))))
  (pss_one (ps_ret pe_non))))))

abbrev N_all_counters : List Str := ["found", "kind", "every", "counted"]
theorem sc_all_counters : FnScope N_all_counters [] (defScope s_all_counters) := ⟨rfl, rfl, rfl, by decide +kernel, rfl, by decide +kernel, by decide +kernel⟩
theorem ok_all_counters {f : Addr} {fd : FuncData} (F : Fun K "all_counters" "all_counters" s_all_counters f fd) (gf : mg "all_counters" = some (.ref f)) (nb_range : mg "range" = none) :
    DefOk P w K mg base CX0 1 "all_counters" [] (sp_all_counters K) := by
  refine DefOk.of F gf (fun _ _ _ _ _ _ us hl => match us, hl with | [], _ => rfl) (F.ok sc_all_counters (len_all_counters K) (fun cdv A outer s H vs Q E hr h => ⟨t_all_counters K, ?_, sem_all_counters K vs H Q E h⟩))
  exact (pss_cons (ps_asg (pe_lst pa_nil) (pg_name (i := 0) sc_all_counters.nd rfl (Or.inl rfl)))
  (pss_cons (ps_for PassesOwn.never rfl (pi_tup (pe_tup (pa_cons pe_str (pa_cons pe_str pa_nil)))) (pg_name (i := 1) sc_all_counters.nd rfl (Or.inr rfl))
  (pss_one (ps_for PassesOwn.never rfl (pi_range2 rfl nb_range (pa_cons pe_int (pa_cons pe_int pa_nil))) (pg_name (i := 2) sc_all_counters.nd rfl (Or.inr rfl))
  (pss_one (ps_asg (pe_op op_cat (pv 0) (pe_lc (own := [("counted", 3)]) rfl sc_all_counters.nd (pi_range1 rfl nb_range (pa_cons (pv 2) pa_nil)) (blkOk_by (own := [("counted", 3)]) (N := N_all_counters) (sc := defScope s_all_counters) (by decide +kernel))
    (fun _ _ _ _ _ => (pg_name (i := 3) sc_all_counters.nd rfl (Or.inl rfl))) (fun _ _ _ _ _ => pts_nil)
    (fun _ _ _ _ _ => (pe_tup (pa_cons (pv 1) (pa_cons (pv 2) (pa_cons (pv 3) pa_nil))))))) (pg_name (i := 0) sc_all_counters.nd rfl (Or.inl rfl)))))))
  (pss_one (ps_ret (pv 0)))))

abbrev N_is_pair : List Str := ["thing"]
theorem sc_is_pair : FnScope N_is_pair ["thing"] (defScope s_is_pair) := ⟨rfl, rfl, rfl, by decide +kernel, rfl, by decide +kernel, by decide +kernel⟩
theorem ok_is_pair {f : Addr} {fd : FuncData} (F : Fun K "is_pair" "is_pair" s_is_pair f fd) (gf : mg "is_pair" = some (.ref f)) (nb_len : mg "len" = none) (nb_isinstance : mg "isinstance" = none) (nb_tuple : mg "tuple" = none) (D_is_word : DefOk P w K mg base CX0 1 "is_word" ["thing"] (sp_is_word K)) :
    DefOk P w K mg base CX0 2 "is_pair" ["thing"] (sp_is_pair K) := by
  refine DefOk.of F gf (fun _ _ _ _ _ _ us hl => match us, hl with | [_], _ => rfl) (F.ok sc_is_pair (len_is_pair K) (fun cdv A outer s H vs Q E hr h => ⟨t_is_pair K, ?_, sem_is_pair K vs H Q E h⟩))
  exact (pss_one (ps_ret (pe_and (pe_callB call_isi rfl nb_isinstance (by decide +kernel) (pa_cons (pv 0) (pa_cons (pe_bltn (v := .ty "tuple") rfl nb_tuple (by decide +kernel) rfl) pa_nil))) (pe_and (pe_cmpR op_eq (pe_callB cr_lenQ rfl nb_len (by decide +kernel) (pa_cons (pv 0) pa_nil)) pe_int (nomark _)) (pe_and (pe_d D_is_word (hr.mono (by decide)) rfl (pa_cons (pe_ix ix_tup (pv 0) pe_int (fun _ _ => rfl)) pa_nil)) (pe_one (pe_d D_is_word (hr.mono (by decide)) rfl (pa_cons (pe_ix ix_tup (pv 0) pe_int (fun _ _ => rfl)) pa_nil))))))))

abbrev N_l_cell_at : List Str := ["script", "k"]
theorem sc_l_cell_at : FnScope N_l_cell_at ["script", "k"] (defScope s_l_cell_at) := ⟨rfl, rfl, rfl, by decide +kernel, rfl, by decide +kernel, by decide +kernel⟩
theorem ok_l_cell_at {f : Addr} {fd : FuncData} (F : Fun K "_law_cell_at" "_law_cell_at" s_l_cell_at f fd) (gf : mg "_law_cell_at" = some (.ref f)) (nb_len : mg "len" = none) :
    DefOk P w K mg base CX0 1 "_law_cell_at" ["script", "k"] (sp_l_cell_at K) := by
  refine DefOk.of F gf (fun _ _ _ _ _ _ us hl => match us, hl with | [_, _], _ => rfl) (F.ok sc_l_cell_at (len_l_cell_at K) (fun cdv A outer s H vs Q E hr h => ⟨t_l_cell_at K, ?_, sem_l_cell_at K vs H Q E h⟩))
  exact (pss_cons (ps_if (pt_cmpR op_ltI (pv 1) (pe_callB cr_lenQ rfl nb_len (by decide +kernel) (pa_cons (pv 0) pa_nil)) (nomark _)) (pss_one (ps_ret (pe_ix ix_list (pv 0) (pv 1) (fun _ _ => rfl)))) pss_nil)
  (pss_one (ps_ret pe_int)))

abbrev N_l_draws : List Str := ["cell", "many", "size", "found", "rest", "stirred", "k"]
theorem sc_l_draws : FnScope N_l_draws ["cell", "many", "size"] (defScope s_l_draws) := ⟨rfl, rfl, rfl, by decide +kernel, rfl, by decide +kernel, by decide +kernel⟩
theorem ok_l_draws {f : Addr} {fd : FuncData} (F : Fun K "_law_draws" "_law_draws" s_l_draws f fd) (gf : mg "_law_draws" = some (.ref f)) (nb_int : mg "int" = none) (nb_range : mg "range" = none) :
    DefOk P w K mg base CX0 1 "_law_draws" ["cell", "many", "size"] (sp_l_draws K) := by
  refine DefOk.of F gf (fun _ _ _ _ _ _ us hl => match us, hl with | [_, _, _], _ => rfl) (F.ok sc_l_draws (len_l_draws K) (fun cdv A outer s H vs Q E hr h => ⟨t_l_draws K, ?_, sem_l_draws K vs H Q E h⟩))
  exact (pss_cons (ps_asg (pe_lst pa_nil) (pg_name (i := 3) sc_l_draws.nd rfl (Or.inl rfl)))
  (pss_cons (ps_asg (pe_op op_mulI (pv 0) (pe_callTy cr_intQ rfl nb_int (by decide +kernel) (pa_cons (pe_cmpR op_geI (pv 0) (pe_op op_powI pe_int pe_int) (nomark _)) pa_nil))) (pg_name (i := 4) sc_l_draws.nd rfl (Or.inl rfl)))
  (pss_cons (ps_asg (pe_op op_modI (pv 0) pe_int) (pg_name (i := 5) sc_l_draws.nd rfl (Or.inl rfl)))
  (pss_cons (ps_for PassesOwn.never rfl (pi_range1 rfl nb_range (pa_cons (pe_op op_addI (pv 1) pe_int) pa_nil)) (pg_name (i := 6) sc_l_draws.nd rfl (Or.inl rfl))
  (pss_cons (ps_asg (pe_op op_modI (pe_op op_addI (pe_op op_addI (pe_op op_addI (pe_op op_mulI (pv 5) (pv 5)) (pe_op op_mulI pe_int (pv 5))) (pv 6)) pe_int) pe_int) (pg_name (i := 5) sc_l_draws.nd rfl (Or.inl rfl)))
  (pss_one (ps_if (PW.pt (pw_and (pt_cmpR op_gtI (pv 6) pe_int (nomark _)) (pw_and1 (pt_cmpR op_gtI (pv 4) pe_int (nomark _))))) (pss_cons (ps_expr (pe_bm PySem.F.plainAttrs_list PySem.F.slot_list_append PySem.F.type_list_append mt_append (pv 3) (pa_cons (pe_op op_modI (pv 4) (pv 2)) pa_nil)))
  (pss_one (ps_asg (pe_op op_divI (pv 4) (pv 2)) (pg_name (i := 4) sc_l_draws.nd rfl (Or.inl rfl))))) (pss_one (ps_if (pt_cmpR op_gtI (pv 6) pe_int (nomark _)) (pss_one (ps_expr (pe_bm PySem.F.plainAttrs_list PySem.F.slot_list_append PySem.F.type_list_append mt_append (pv 3) (pa_cons (pe_op op_modI (pe_op op_divI (pv 5) pe_int) (pv 2)) pa_nil)))) pss_nil))))))
  (pss_one (ps_ret (pv 3)))))))

abbrev N_l_bag : List Str := ["script", "k"]
theorem sc_l_bag : FnScope N_l_bag ["script", "k"] (defScope s_l_bag) := ⟨rfl, rfl, rfl, by decide +kernel, rfl, by decide +kernel, by decide +kernel⟩
theorem ok_l_bag {f : Addr} {fd : FuncData} (F : Fun K "_law_bag" "_law_bag" s_l_bag f fd) (gf : mg "_law_bag" = some (.ref f)) (D_l_draws : DefOk P w K mg base CX0 1 "_law_draws" ["cell", "many", "size"] (sp_l_draws K)) (D_l_cell_at : DefOk P w K mg base CX0 1 "_law_cell_at" ["script", "k"] (sp_l_cell_at K)) :
    DefOk P w K mg base CX0 2 "_law_bag" ["script", "k"] (sp_l_bag K) := by
  refine DefOk.of F gf (fun _ _ _ _ _ _ us hl => match us, hl with | [_, _], _ => rfl) (F.ok sc_l_bag (len_l_bag K) (fun cdv A outer s H vs Q E hr h => ⟨t_l_bag K, ?_, sem_l_bag K vs H Q E h⟩))
  exact (pss_one (ps_ret (pe_lst (pa_cons (pe_d D_l_draws (hr.mono (by decide)) rfl (pa_cons (pe_d D_l_cell_at (hr.mono (by decide)) rfl (pa_cons (pv 0) (pa_cons (pv 1) pa_nil))) (pa_cons pe_int (pa_cons pe_int pa_nil)))) (pa_cons pe_int pa_nil)))))

abbrev N_l_bags : List Str := ["script", "limit", "k"]
theorem sc_l_bags : FnScope N_l_bags ["script", "limit"] (defScope s_l_bags) := ⟨rfl, rfl, rfl, by decide +kernel, rfl, by decide +kernel, by decide +kernel⟩
theorem ok_l_bags {f : Addr} {fd : FuncData} (F : Fun K "_law_bags" "_law_bags" s_l_bags f fd) (gf : mg "_law_bags" = some (.ref f)) (nb_range : mg "range" = none) (nb_max : mg "max" = none) (nb_min : mg "min" = none) (nb_len : mg "len" = none) (D_l_bag : DefOk P w K mg base CX0 2 "_law_bag" ["script", "k"] (sp_l_bag K)) :
    DefOk P w K mg base CX0 3 "_law_bags" ["script", "limit"] (sp_l_bags K) := by
  refine DefOk.of F gf (fun _ _ _ _ _ _ us hl => match us, hl with | [_, _], _ => rfl) (F.ok sc_l_bags (len_l_bags K) (fun cdv A outer s H vs Q E hr h => ⟨t_l_bags K, ?_, sem_l_bags K vs H Q E h⟩))
  exact (pss_one (ps_ret (pe_lc (own := [("k", 2)]) rfl sc_l_bags.nd (pi_range1 rfl nb_range (pa_cons (pe_callB (cr_max2 rfl) rfl nb_max (by decide +kernel) (pa_cons pe_int (pa_cons (pe_callB (cr_min2 rfl) rfl nb_min (by decide +kernel) (pa_cons (pv 1) (pa_cons (pe_callB cr_lenQ rfl nb_len (by decide +kernel) (pa_cons (pv 0) pa_nil)) pa_nil))) pa_nil))) pa_nil)) (blkOk_by (own := [("k", 2)]) (N := N_l_bags) (sc := defScope s_l_bags) (by decide +kernel))
    (fun _ _ _ _ _ => (pg_name (i := 2) sc_l_bags.nd rfl (Or.inl rfl))) (fun _ _ _ _ _ => pts_nil)
    (fun _ _ _ _ _ => (pe_d D_l_bag (hr.mono (by decide)) rfl (pa_cons (pv 0) (pa_cons (pv 2) pa_nil)))))))

abbrev N_l_take : List Str := ["bag", "many"]
theorem sc_l_take : FnScope N_l_take ["bag", "many"] (defScope s_l_take) := ⟨rfl, rfl, rfl, by decide +kernel, rfl, by decide +kernel, by decide +kernel⟩
theorem ok_l_take {f : Addr} {fd : FuncData} (F : Fun K "_law_take" "_law_take" s_l_take f fd) (gf : mg "_law_take" = some (.ref f)) (nb_len : mg "len" = none) :
    DefOk P w K mg base CX0 1 "_law_take" ["bag", "many"] (sp_l_take K) := by
  refine DefOk.of F gf (fun _ _ _ _ _ _ us hl => match us, hl with | [_, _], _ => rfl) (F.ok sc_l_take (len_l_take K) (fun cdv A outer s H vs Q E hr h => ⟨t_l_take K, ?_, sem_l_take K vs H Q E h⟩))
  exact (pss_cons (ps_asg (pe_op op_addI (pe_ix ix_list (pv 0) pe_int (fun _ _ => rfl)) pe_int) (pg_sub (pv 0) pe_int set_list))
  (pss_one (ps_ret (pe_op op_modI (pe_ix ix_list (pe_ix ix_list (pv 0) pe_int (fun _ _ => rfl)) (pe_op op_modI (pe_ix ix_list (pv 0) pe_int (fun _ _ => rfl)) (pe_callB cr_lenQ rfl nb_len (by decide +kernel) (pa_cons (pe_ix ix_list (pv 0) pe_int (fun _ _ => rfl)) pa_nil))) (fun _ _ => rfl)) (pv 1)))))

abbrev N_l_counter : List Str := ["bag", "every"]
theorem sc_l_counter : FnScope N_l_counter ["bag"] (defScope s_l_counter) := ⟨rfl, rfl, rfl, by decide +kernel, rfl, by decide +kernel, by decide +kernel⟩
theorem ok_l_counter {f : Addr} {fd : FuncData} (F : Fun K "_law_counter" "_law_counter" s_l_counter f fd) (gf : mg "_law_counter" = some (.ref f)) (D_l_take : DefOk P w K mg base CX0 1 "_law_take" ["bag", "many"] (sp_l_take K)) :
    DefOk P w K mg base CX0 2 "_law_counter" ["bag"] (sp_l_counter K) := by
  refine DefOk.of F gf (fun _ _ _ _ _ _ us hl => match us, hl with | [_], _ => rfl) (F.ok sc_l_counter (len_l_counter K) (fun cdv A outer s H vs Q E hr h => ⟨t_l_counter K, ?_, sem_l_counter K vs H Q E h⟩))
  exact (pss_cons (ps_asg (pe_op op_addI pe_int (pe_d D_l_take (hr.mono (by decide)) rfl (pa_cons (pv 0) (pa_cons pe_int pa_nil)))) (pg_name (i := 1) sc_l_counter.nd rfl (Or.inl rfl)))
  (pss_one (ps_ret (pe_tup (pa_cons (pe_ix ix_list (pe_lst (pa_cons pe_str (pa_cons pe_str pa_nil))) (pe_d D_l_take (hr.mono (by decide)) rfl (pa_cons (pv 0) (pa_cons pe_int pa_nil))) (fun _ _ => rfl)) (pa_cons (pv 1) (pa_cons (pe_d D_l_take (hr.mono (by decide)) rfl (pa_cons (pv 0) (pa_cons (pv 1) pa_nil))) pa_nil)))))))

abbrev N_l_mouths : List Str := ["bag", "most", "wide", "found", "turn", "one", "other", "letters"]
theorem sc_l_mouths : FnScope N_l_mouths ["bag", "most", "wide"] (defScope s_l_mouths) := ⟨rfl, rfl, rfl, by decide +kernel, rfl, by decide +kernel, by decide +kernel⟩
theorem ok_l_mouths {f : Addr} {fd : FuncData} (F : Fun K "_law_mouths" "_law_mouths" s_l_mouths f fd) (gf : mg "_law_mouths" = some (.ref f)) (nb_range : mg "range" = none) (nb_tuple : mg "tuple" = none) (D_l_take : DefOk P w K mg base CX0 1 "_law_take" ["bag", "many"] (sp_l_take K)) (D_l_counter : DefOk P w K mg base CX0 2 "_law_counter" ["bag"] (sp_l_counter K)) :
    DefOk P w K mg base CX0 3 "_law_mouths" ["bag", "most", "wide"] (sp_l_mouths K) := by
  refine DefOk.of F gf (fun _ _ _ _ _ _ us hl => match us, hl with | [_, _, _], _ => rfl) (F.ok sc_l_mouths (len_l_mouths K) (fun cdv A outer s H vs Q E hr h => ⟨t_l_mouths K, ?_, sem_l_mouths K vs H Q E h⟩))
  exact (pss_cons (ps_asg (pe_lst pa_nil) (pg_name (i := 3) sc_l_mouths.nd rfl (Or.inl rfl)))
  (pss_cons (ps_for PassesOwn.never rfl (pi_range1 rfl nb_range (pa_cons (pe_d D_l_take (hr.mono (by decide)) rfl (pa_cons (pv 0) (pa_cons (pe_op op_addI (pv 1) pe_int) pa_nil))) pa_nil)) (pg_name (i := 4) sc_l_mouths.nd rfl (Or.inl rfl))
  (pss_one (ps_if (pt_cmpR op_eq (pe_d D_l_take (hr.mono (by decide)) rfl (pa_cons (pv 0) (pa_cons pe_int pa_nil))) pe_int (nomark _)) (pss_cons (ps_asg (pe_d D_l_take (hr.mono (by decide)) rfl (pa_cons (pv 0) (pa_cons (pv 2) pa_nil))) (pg_name (i := 5) sc_l_mouths.nd rfl (Or.inl rfl)))
  (pss_cons (ps_asg (pe_op op_modI (pe_op op_addI (pe_op op_addI (pv 5) pe_int) (pe_d D_l_take (hr.mono (by decide)) rfl (pa_cons (pv 0) (pa_cons (pe_op op_subI (pv 2) pe_int) pa_nil)))) (pv 2)) (pg_name (i := 6) sc_l_mouths.nd rfl (Or.inl rfl)))
  (pss_cons (ps_asg pe_str (pg_name (i := 7) sc_l_mouths.nd rfl (Or.inl rfl)))
  (pss_one (ps_expr (pe_bm PySem.F.plainAttrs_list PySem.F.slot_list_append PySem.F.type_list_append mt_append (pv 3) (pa_cons (pe_tup (pa_cons pe_str (pa_cons (pe_ix ix_str (pv 7) (pv 5) (fun _ _ => rfl)) (pa_cons (pe_ix ix_str (pv 7) (pv 6) (fun _ _ => rfl)) pa_nil)))) pa_nil))))))) (pss_one (ps_expr (pe_bm PySem.F.plainAttrs_list PySem.F.slot_list_append PySem.F.type_list_append mt_append (pv 3) (pa_cons (pe_d D_l_counter (hr.mono (by decide)) rfl (pa_cons (pv 0) pa_nil)) pa_nil)))))))
  (pss_one (ps_ret (pe_callTy cr_tupQ rfl nb_tuple (by decide +kernel) (pa_cons (pv 3) pa_nil))))))

abbrev N_l_refused : List Str := ["call", "one", "two", "three", "kin", "e", "words", "word", "there"]
theorem sc_l_refused : FnScope N_l_refused ["call", "one", "two", "three"] (defScope s_l_refused) := ⟨rfl, rfl, rfl, by decide +kernel, rfl, by decide +kernel, by decide +kernel⟩
theorem ok_l_refused {f : Addr} {fd : FuncData} (F : Fun K "_law_refused" "_law_refused" s_l_refused f fd) (gf : mg "_law_refused" = some (.ref f)) {C : XCls} {S : Addr → Option Sp} {SL : LamT → Sp → Prop} (gx_TalkError : mg "TalkError" = some (.ref C.talk)) (gx_NoWord : mg "NoWord" = some (.ref (C.c 1))) (gx_NoRow : mg "NoRow" = some (.ref (C.c 0))) (gx_NoLetter : mg "NoLetter" = some (.ref (C.c 2))) (gx_NoOne : mg "NoOne" = some (.ref (C.c 4))) (gx_NoMany : mg "NoMany" = some (.ref (C.c 3))) (gx_NoPairs : mg "NoPairs" = some (.ref (C.c 6))) (gx_NoPlace : mg "NoPlace" = some (.ref (C.c 5))) (gx_NothingLeft : mg "NothingLeft" = some (.ref (C.c 8))) (gx_TooLong : mg "TooLong" = some (.ref (C.c 7))) (TX : XOk K C) (AL : ∀ lt sp, SL lt sp → LamOk P w K mg base 6 lt sp) (AS : ∀ f sp, S f = some sp → HeldN P w K mg base 6 f sp) (nb_isinstance : mg "isinstance" = none) (nb_ValueError : mg "ValueError" = none) :
    DefOk P w K mg base CX0 8 "_law_refused" ["call", "one", "two", "three"] (sp_l_refused K C S SL) := by
  refine DefOk.of F gf (fun _ _ _ _ _ _ us hl => match us, hl with | [_, _, _, _], _ => rfl) (F.ok sc_l_refused (len_l_refused K C S SL) (fun cdv A outer s H vs Q E hr h => ⟨t_l_refused K C S SL, ?_, sem_l_refused K C S SL TX vs H Q E h⟩))
  exact (pss_cons (ps_asg (pe_lst pa_nil) (pg_name (i := 4) sc_l_refused.nd rfl (Or.inl rfl)))
  (pss_cons (L2N.ps_try_as (i := 5) rfl rfl sc_l_refused.nd rfl rfl (by exact ⟨rfl, by decide, .inl gx_TalkError⟩) takesN0 (fun W pn xe tk _ => (pss_one (ps_expr (pe_callL2 AS AL (hr.mono (by decide)) tk (pa_cons (pv 1) (pa_cons (pv 2) (pa_cons (pv 3) pa_nil)))))))
    (fun a oe cls d pn hz hf => (pss_cons (ps_asg (pe_lst (pa_cons (pe_tup (pa_cons pe_str (pa_cons (pe_callB (call_isN TX.ecIn hz hf) rfl nb_isinstance (by decide +kernel) (pa_cons (pv 5) (pa_cons (pe_glob rfl gx_NoRow rfl) pa_nil))) pa_nil))) (pa_cons (pe_tup (pa_cons pe_str (pa_cons (pe_callB (call_isN TX.ecIn hz hf) rfl nb_isinstance (by decide +kernel) (pa_cons (pv 5) (pa_cons (pe_glob rfl gx_NoWord rfl) pa_nil))) pa_nil))) pa_nil))) (pg_name (i := 6) sc_l_refused.nd rfl (Or.inl rfl)))
  (pss_cons (ps_asg (pe_op op_cat (pv 6) (pe_lst (pa_cons (pe_tup (pa_cons pe_str (pa_cons (pe_callB (call_isN TX.ecIn hz hf) rfl nb_isinstance (by decide +kernel) (pa_cons (pv 5) (pa_cons (pe_glob rfl gx_NoLetter rfl) pa_nil))) pa_nil))) pa_nil))) (pg_name (i := 6) sc_l_refused.nd rfl (Or.inl rfl)))
  (pss_cons (ps_asg (pe_op op_cat (pv 6) (pe_lst (pa_cons (pe_tup (pa_cons pe_str (pa_cons (pe_callB (call_isN TX.ecIn hz hf) rfl nb_isinstance (by decide +kernel) (pa_cons (pv 5) (pa_cons (pe_glob rfl gx_NoMany rfl) pa_nil))) pa_nil))) (pa_cons (pe_tup (pa_cons pe_str (pa_cons (pe_callB (call_isN TX.ecIn hz hf) rfl nb_isinstance (by decide +kernel) (pa_cons (pv 5) (pa_cons (pe_glob rfl gx_NoOne rfl) pa_nil))) pa_nil))) pa_nil)))) (pg_name (i := 6) sc_l_refused.nd rfl (Or.inl rfl)))
  (pss_cons (ps_asg (pe_op op_cat (pv 6) (pe_lst (pa_cons (pe_tup (pa_cons pe_str (pa_cons (pe_callB (call_isN TX.ecIn hz hf) rfl nb_isinstance (by decide +kernel) (pa_cons (pv 5) (pa_cons (pe_glob rfl gx_NoPlace rfl) pa_nil))) pa_nil))) (pa_cons (pe_tup (pa_cons pe_str (pa_cons (pe_callB (call_isN TX.ecIn hz hf) rfl nb_isinstance (by decide +kernel) (pa_cons (pv 5) (pa_cons (pe_glob rfl gx_NoPairs rfl) pa_nil))) pa_nil))) pa_nil)))) (pg_name (i := 6) sc_l_refused.nd rfl (Or.inl rfl)))
  (pss_cons (ps_asg (pe_op op_cat (pv 6) (pe_lst (pa_cons (pe_tup (pa_cons pe_str (pa_cons (pe_callB (call_isN TX.ecIn hz hf) rfl nb_isinstance (by decide +kernel) (pa_cons (pv 5) (pa_cons (pe_glob rfl gx_TooLong rfl) pa_nil))) pa_nil))) (pa_cons (pe_tup (pa_cons pe_str (pa_cons (pe_callB (call_isN TX.ecIn hz hf) rfl nb_isinstance (by decide +kernel) (pa_cons (pv 5) (pa_cons (pe_glob rfl gx_NothingLeft rfl) pa_nil))) pa_nil))) pa_nil)))) (pg_name (i := 6) sc_l_refused.nd rfl (Or.inl rfl)))
  (pss_one (ps_asg (pe_op op_cat (lc_hot (own := [("word", 7), ("there", 8)]) (hot1_suite hz hf) List.mem_cons_self rfl rfl sc_l_refused.nd ((pv 6)) (blkOk_by (own := [("word", 7), ("there", 8)]) (N := N_l_refused) (sc := defScope s_l_refused) (by decide +kernel))
    (fun _ _ _ _ _ => (pg_tupH (hot1_suite hz hf) List.mem_cons_self (pgs_cons (pg_name (i := 7) sc_l_refused.nd rfl (Or.inl rfl)) (pgs_cons (pg_name (i := 8) sc_l_refused.nd rfl (Or.inl rfl)) pgs_nil)))) (fun _ _ _ _ _ => (pts_one (pt_val (pv 8))))
    (fun _ _ _ _ _ => (pv 7))) (pe_lst (pa_cons (pe_callB (call_isN TX.ecIn hz hf) rfl nb_isinstance (by decide +kernel) (pa_cons (pv 5) (pa_cons (pe_bltn (v := .ty "ValueError") rfl nb_ValueError (by decide +kernel) rfl) pa_nil))) pa_nil))) (pg_name (i := 4) sc_l_refused.nd rfl (Or.inl rfl)))))))))))
  (pss_one (ps_ret (pv 4)))))

abbrev s_need_rowX : Stmt := topS 18
abbrev N_need_rowX : List Str := ["row"]
theorem sc_need_rowX : FnScope N_need_rowX ["row"] (defScope s_need_rowX) := ⟨rfl, rfl, rfl, by decide +kernel, rfl, by decide +kernel, by decide +kernel⟩
theorem ok_need_rowX {f : Addr} {fd : FuncData} (F : Fun K "need_row" "need_row" s_need_rowX f fd) {C : XCls} (gx_NoRow : mg "NoRow" = some (.ref (C.c 0))) (TX : XOk K C) (hk_0 : C.ok 0 = true) (D_is_row : DefOk P w K mg base CX0 3 "is_row" ["thing"] (sp_is_row K)) :
    HeldN P w K mg base 4 f (sp_need_rowX K C) := by
  refine HeldN.of F (fun _ _ _ _ _ _ us hl => match us, hl with | [_], _ => rfl) (okN F sc_need_rowX (len_need_rowX K C) (fun cdv A outer s H vs Q E hr h => ⟨t_need_rowX K C E, ?_, sem_need_rowX K C vs H Q E h⟩))
  exact (pss_one (ps_if (pt_not (pt_val (pe_d D_is_row (hr.mono (by decide)) rfl (pa_cons (pv 0) pa_nil)))) (pss_one (L2N.ps_raise rfl (L2N.takes_of rfl rfl rfl rfl) (TX.made hk_0 gx_NoRow (by rfl)))) pss_nil))

abbrev s_need_wordX : Stmt := topS 19
abbrev N_need_wordX : List Str := ["word"]
theorem sc_need_wordX : FnScope N_need_wordX ["word"] (defScope s_need_wordX) := ⟨rfl, rfl, rfl, by decide +kernel, rfl, by decide +kernel, by decide +kernel⟩
theorem ok_need_wordX {f : Addr} {fd : FuncData} (F : Fun K "need_word" "need_word" s_need_wordX f fd) {C : XCls} (gx_NoWord : mg "NoWord" = some (.ref (C.c 1))) (TX : XOk K C) (hk_1 : C.ok 1 = true) (D_is_word : DefOk P w K mg base CX0 1 "is_word" ["thing"] (sp_is_word K)) :
    HeldN P w K mg base 2 f (sp_need_wordX K C) := by
  refine HeldN.of F (fun _ _ _ _ _ _ us hl => match us, hl with | [_], _ => rfl) (okN F sc_need_wordX (len_need_wordX K C) (fun cdv A outer s H vs Q E hr h => ⟨t_need_wordX K C E, ?_, sem_need_wordX K C vs H Q E h⟩))
  exact (pss_one (ps_if (pt_not (pt_val (pe_d D_is_word (hr.mono (by decide)) rfl (pa_cons (pv 0) pa_nil)))) (pss_one (L2N.ps_raise rfl (L2N.takes_of rfl rfl rfl rfl) (TX.made hk_1 gx_NoWord (by rfl)))) pss_nil))

abbrev s_need_manyX : Stmt := topS 29
abbrev N_need_manyX : List Str := ["many", "most"]
theorem sc_need_manyX : FnScope N_need_manyX ["many", "most"] (defScope s_need_manyX) := ⟨rfl, rfl, rfl, by decide +kernel, rfl, by decide +kernel, by decide +kernel⟩
theorem ok_need_manyX {f : Addr} {fd : FuncData} (F : Fun K "need_many" "need_many" s_need_manyX f fd) {C : XCls} (gx_NoMany : mg "NoMany" = some (.ref (C.c 3))) (TX : XOk K C) (hk_3 : C.ok 3 = true) (D_is_within : DefOk P w K mg base CX0 1 "is_within" ["thing", "low", "high"] (sp_is_within K)) :
    HeldN P w K mg base 2 f (sp_need_manyX K C) := by
  refine HeldN.of F (fun _ _ _ _ _ _ us hl => match us, hl with | [_, _], _ => rfl) (okN F sc_need_manyX (len_need_manyX K C) (fun cdv A outer s H vs Q E hr h => ⟨t_need_manyX K C E, ?_, sem_need_manyX K C vs H Q E h⟩))
  exact (pss_one (ps_if (pt_not (pt_val (pe_d D_is_within (hr.mono (by decide)) rfl (pa_cons (pv 0) (pa_cons pe_int (pa_cons (pv 1) pa_nil)))))) (pss_one (L2N.ps_raise rfl (L2N.takes_of rfl rfl rfl rfl) (TX.made hk_3 gx_NoMany (by rfl)))) pss_nil))

abbrev s_outX : Stmt := topS 22
abbrev N_outX : List Str := ["row", "word"]
theorem sc_outX : FnScope N_outX ["row", "word"] (defScope s_outX) := ⟨rfl, rfl, rfl, by decide +kernel, rfl, by decide +kernel, by decide +kernel⟩
theorem ok_outX {f : Addr} {fd : FuncData} (F : Fun K "out" "out" s_outX f fd) {C : XCls} (TX : XOk K C) {fx_need_row : Addr} (gm_need_row : mg "need_row" = some (.ref fx_need_row)) (A_need_rowX : HeldN P w K mg base 4 fx_need_row (sp_need_rowX K C)) {fx_need_word : Addr} (gm_need_word : mg "need_word" = some (.ref fx_need_word)) (A_need_wordX : HeldN P w K mg base 2 fx_need_word (sp_need_wordX K C)) (D_comes_out : DefOk P w K mg base CX0 2 "comes_out" ["row", "word"] (sp_comes_out K)) :
    HeldN P w K mg base 5 f (sp_outX K C) := by
  refine HeldN.of F (fun _ _ _ _ _ _ us hl => match us, hl with | [_, _], _ => rfl) (okN F sc_outX (len_outX K C) (fun cdv A outer s H vs Q E hr h => ⟨t_outX K C E, ?_, sem_outX K C vs H Q E h⟩))
  exact (pss_cons (ps_expr (pe_dN A_need_rowX gm_need_row (hr.mono (by decide)) (L2N.takes_of rfl rfl rfl rfl) rfl (pa_cons (pv 0) pa_nil)))
  (pss_cons (ps_expr (pe_dN A_need_wordX gm_need_word (hr.mono (by decide)) (L2N.takes_of rfl rfl rfl rfl) rfl (pa_cons (pv 1) pa_nil)))
  (pss_one (ps_ret (pe_d D_comes_out (hr.mono (by decide)) rfl (pa_cons (pv 0) (pa_cons (pv 1) pa_nil)))))))

abbrev s_comeX : Stmt := topS 30
abbrev N_comeX : List Str := ["row", "many"]
theorem sc_comeX : FnScope N_comeX ["row", "many"] (defScope s_comeX) := ⟨rfl, rfl, rfl, by decide +kernel, rfl, by decide +kernel, by decide +kernel⟩
theorem ok_comeX {f : Addr} {fd : FuncData} (F : Fun K "come" "come" s_comeX f fd) {C : XCls} (TX : XOk K C) (nc_FAR : mg "FAR" = some (.int 1000000000000000 tF)) {fx_need_row : Addr} (gm_need_row : mg "need_row" = some (.ref fx_need_row)) (A_need_rowX : HeldN P w K mg base 4 fx_need_row (sp_need_rowX K C)) {fx_need_many : Addr} (gm_need_many : mg "need_many" = some (.ref fx_need_many)) (A_need_manyX : HeldN P w K mg base 2 fx_need_many (sp_need_manyX K C)) (D_all_come : DefOk P w K mg base CX0 2 "all_come" ["row", "many"] (sp_all_come K)) :
    HeldN P w K mg base 5 f (sp_comeX K C) := by
  refine HeldN.of F (fun _ _ _ _ _ _ us hl => match us, hl with | [_, _], _ => rfl) (okN F sc_comeX (len_comeX K C) (fun cdv A outer s H vs Q E hr h => ⟨t_comeX K C E, ?_, sem_comeX K C vs H Q E h⟩))
  exact (pss_cons (ps_expr (pe_dN A_need_rowX gm_need_row (hr.mono (by decide)) (L2N.takes_of rfl rfl rfl rfl) rfl (pa_cons (pv 0) pa_nil)))
  (pss_cons (ps_expr (pe_dN A_need_manyX gm_need_many (hr.mono (by decide)) (L2N.takes_of rfl rfl rfl rfl) rfl (pa_cons (pv 1) (pa_cons (pe_glob rfl nc_FAR ⟨_, rfl⟩) pa_nil))))
  (pss_one (ps_ret (pe_d D_all_come (hr.mono (by decide)) rfl (pa_cons (pv 0) (pa_cons (pv 1) pa_nil)))))))

abbrev s_least_forX : Stmt := topS 31
abbrev N_least_forX : List Str := ["row", "many"]
theorem sc_least_forX : FnScope N_least_forX ["row", "many"] (defScope s_least_forX) := ⟨rfl, rfl, rfl, by decide +kernel, rfl, by decide +kernel, by decide +kernel⟩
theorem ok_least_forX {f : Addr} {fd : FuncData} (F : Fun K "least_for" "least_for" s_least_forX f fd) {C : XCls} (TX : XOk K C) (nc_FAR : mg "FAR" = some (.int 1000000000000000 tF)) {fx_need_row : Addr} (gm_need_row : mg "need_row" = some (.ref fx_need_row)) (A_need_rowX : HeldN P w K mg base 4 fx_need_row (sp_need_rowX K C)) {fx_need_many : Addr} (gm_need_many : mg "need_many" = some (.ref fx_need_many)) (A_need_manyX : HeldN P w K mg base 2 fx_need_many (sp_need_manyX K C)) (D_fewest_signs : DefOk P w K mg base CX0 2 "fewest_signs" ["row", "many"] (sp_fewest_signs K)) :
    HeldN P w K mg base 5 f (sp_least_forX K C) := by
  refine HeldN.of F (fun _ _ _ _ _ _ us hl => match us, hl with | [_, _], _ => rfl) (okN F sc_least_forX (len_least_forX K C) (fun cdv A outer s H vs Q E hr h => ⟨t_least_forX K C E, ?_, sem_least_forX K C vs H Q E h⟩))
  exact (pss_cons (ps_expr (pe_dN A_need_rowX gm_need_row (hr.mono (by decide)) (L2N.takes_of rfl rfl rfl rfl) rfl (pa_cons (pv 0) pa_nil)))
  (pss_cons (ps_expr (pe_dN A_need_manyX gm_need_many (hr.mono (by decide)) (L2N.takes_of rfl rfl rfl rfl) rfl (pa_cons (pv 1) (pa_cons (pe_glob rfl nc_FAR ⟨_, rfl⟩) pa_nil))))
  (pss_one (ps_ret (pe_d D_fewest_signs (hr.mono (by decide)) rfl (pa_cons (pv 0) (pa_cons (pv 1) pa_nil)))))))

abbrev s_letter_outX : Stmt := topS 33
abbrev N_letter_outX : List Str := ["row", "letter"]
theorem sc_letter_outX : FnScope N_letter_outX ["row", "letter"] (defScope s_letter_outX) := ⟨rfl, rfl, rfl, by decide +kernel, rfl, by decide +kernel, by decide +kernel⟩
theorem ok_letter_outX {f : Addr} {fd : FuncData} (F : Fun K "letter_out" "letter_out" s_letter_outX f fd) {C : XCls} (gx_NoLetter : mg "NoLetter" = some (.ref (C.c 2))) (TX : XOk K C) (hk_2 : C.ok 2 = true) {fx_need_row : Addr} (gm_need_row : mg "need_row" = some (.ref fx_need_row)) (A_need_rowX : HeldN P w K mg base 4 fx_need_row (sp_need_rowX K C)) (D_is_letter : DefOk P w K mg base CX0 1 "is_letter" ["thing"] (sp_is_letter K)) (D_heard_as : DefOk P w K mg base CX0 1 "heard_as" ["row", "letter"] (sp_heard_as K)) :
    HeldN P w K mg base 5 f (sp_letter_outX K C) := by
  refine HeldN.of F (fun _ _ _ _ _ _ us hl => match us, hl with | [_, _], _ => rfl) (okN F sc_letter_outX (len_letter_outX K C) (fun cdv A outer s H vs Q E hr h => ⟨t_letter_outX K C E, ?_, sem_letter_outX K C vs H Q E h⟩))
  exact (pss_cons (ps_expr (pe_dN A_need_rowX gm_need_row (hr.mono (by decide)) (L2N.takes_of rfl rfl rfl rfl) rfl (pa_cons (pv 0) pa_nil)))
  (pss_cons (ps_if (pt_not (pt_val (pe_d D_is_letter (hr.mono (by decide)) rfl (pa_cons (pv 1) pa_nil)))) (pss_one (L2N.ps_raise rfl (L2N.takes_of rfl rfl rfl rfl) (TX.made hk_2 gx_NoLetter (by rfl)))) pss_nil)
  (pss_one (ps_ret (pe_d D_heard_as (hr.mono (by decide)) rfl (pa_cons (pv 0) (pa_cons (pv 1) pa_nil)))))))

abbrev s_round_ofX : Stmt := topS 38
abbrev N_round_ofX : List Str := ["row", "many"]
theorem sc_round_ofX : FnScope N_round_ofX ["row"] (defScope s_round_ofX) := ⟨rfl, rfl, rfl, by decide +kernel, rfl, by decide +kernel, by decide +kernel⟩
theorem ok_round_ofX {f : Addr} {fd : FuncData} (F : Fun K "round_of" "round_of" s_round_ofX f fd) {C : XCls} (TX : XOk K C) {fx_need_row : Addr} (gm_need_row : mg "need_row" = some (.ref fx_need_row)) (A_need_rowX : HeldN P w K mg base 4 fx_need_row (sp_need_rowX K C)) (D_least_round : DefOk P w K mg base CX0 4 "least_round" ["row"] (sp_least_round K)) (D_all_come : DefOk P w K mg base CX0 2 "all_come" ["row", "many"] (sp_all_come K)) :
    HeldN P w K mg base 5 f (sp_round_ofX K C) := by
  refine HeldN.of F (fun _ _ _ _ _ _ us hl => match us, hl with | [_], _ => rfl) (okN F sc_round_ofX (len_round_ofX K C) (fun cdv A outer s H vs Q E hr h => ⟨t_round_ofX K C E, ?_, sem_round_ofX K C vs H Q E h⟩))
  exact (pss_cons (ps_expr (pe_dN A_need_rowX gm_need_row (hr.mono (by decide)) (L2N.takes_of rfl rfl rfl rfl) rfl (pa_cons (pv 0) pa_nil)))
  (pss_cons (ps_asg (pe_d D_least_round (hr.mono (by decide)) rfl (pa_cons (pv 0) pa_nil)) (pg_name (i := 1) sc_round_ofX.nd rfl (Or.inl rfl)))
  (pss_one (ps_ret (pe_tup (pa_cons (pv 1) (pa_cons (pe_d D_all_come (hr.mono (by decide)) rfl (pa_cons (pv 0) (pa_cons (pv 1) pa_nil))) pa_nil)))))))

abbrev s_lengthsX : Stmt := topS 42
abbrev N_lengthsX : List Str := ["row", "heard"]
theorem sc_lengthsX : FnScope N_lengthsX ["row", "heard"] (defScope s_lengthsX) := ⟨rfl, rfl, rfl, by decide +kernel, rfl, by decide +kernel, by decide +kernel⟩
theorem ok_lengthsX {f : Addr} {fd : FuncData} (F : Fun K "lengths" "lengths" s_lengthsX f fd) {C : XCls} (TX : XOk K C) (nb_len : mg "len" = none) {fx_need_row : Addr} (gm_need_row : mg "need_row" = some (.ref fx_need_row)) (A_need_rowX : HeldN P w K mg base 4 fx_need_row (sp_need_rowX K C)) {fx_need_word : Addr} (gm_need_word : mg "need_word" = some (.ref fx_need_word)) (A_need_wordX : HeldN P w K mg base 2 fx_need_word (sp_need_wordX K C)) (D_all_lengths : DefOk P w K mg base CX0 3 "all_lengths" ["row", "many"] (sp_all_lengths K)) :
    HeldN P w K mg base 5 f (sp_lengthsX K C) := by
  refine HeldN.of F (fun _ _ _ _ _ _ us hl => match us, hl with | [_, _], _ => rfl) (okN F sc_lengthsX (len_lengthsX K C) (fun cdv A outer s H vs Q E hr h => ⟨t_lengthsX K C E, ?_, sem_lengthsX K C vs H Q E h⟩))
  exact (pss_cons (ps_expr (pe_dN A_need_rowX gm_need_row (hr.mono (by decide)) (L2N.takes_of rfl rfl rfl rfl) rfl (pa_cons (pv 0) pa_nil)))
  (pss_cons (ps_expr (pe_dN A_need_wordX gm_need_word (hr.mono (by decide)) (L2N.takes_of rfl rfl rfl rfl) rfl (pa_cons (pv 1) pa_nil)))
  (pss_one (ps_ret (pe_d D_all_lengths (hr.mono (by decide)) rfl (pa_cons (pv 0) (pa_cons (pe_callB cr_lenT rfl nb_len (by decide +kernel) (pa_cons (pv 1) pa_nil)) pa_nil)))))))

abbrev s_placesX : Stmt := topS 44
abbrev N_placesX : List Str := ["row", "length", "heard"]
theorem sc_placesX : FnScope N_placesX ["row", "length", "heard"] (defScope s_placesX) := ⟨rfl, rfl, rfl, by decide +kernel, rfl, by decide +kernel, by decide +kernel⟩
theorem ok_placesX {f : Addr} {fd : FuncData} (F : Fun K "places" "places" s_placesX f fd) {C : XCls} (gx_NoMany : mg "NoMany" = some (.ref (C.c 3))) (TX : XOk K C) (hk_3 : C.ok 3 = true) (nc_MOST : mg "MOST" = some (.int 200 tM)) {fx_need_row : Addr} (gm_need_row : mg "need_row" = some (.ref fx_need_row)) (A_need_rowX : HeldN P w K mg base 4 fx_need_row (sp_need_rowX K C)) (D_is_within : DefOk P w K mg base CX0 1 "is_within" ["thing", "low", "high"] (sp_is_within K)) {fx_need_word : Addr} (gm_need_word : mg "need_word" = some (.ref fx_need_word)) (A_need_wordX : HeldN P w K mg base 2 fx_need_word (sp_need_wordX K C)) (D_letters_at : DefOk P w K mg base CX0 4 "letters_at" ["row", "length", "heard"] (sp_letters_at K)) :
    HeldN P w K mg base 5 f (sp_placesX K C) := by
  refine HeldN.of F (fun _ _ _ _ _ _ us hl => match us, hl with | [_, _, _], _ => rfl) (okN F sc_placesX (len_placesX K C) (fun cdv A outer s H vs Q E hr h => ⟨t_placesX K C E, ?_, sem_placesX K C vs H Q E h⟩))
  exact (pss_cons (ps_expr (pe_dN A_need_rowX gm_need_row (hr.mono (by decide)) (L2N.takes_of rfl rfl rfl rfl) rfl (pa_cons (pv 0) pa_nil)))
  (pss_cons (ps_if (pt_not (pt_val (pe_d D_is_within (hr.mono (by decide)) rfl (pa_cons (pv 1) (pa_cons pe_int (pa_cons (pe_glob rfl nc_MOST ⟨_, rfl⟩) pa_nil)))))) (pss_one (L2N.ps_raise rfl (L2N.takes_of rfl rfl rfl rfl) (TX.made hk_3 gx_NoMany (by rfl)))) pss_nil)
  (pss_cons (ps_expr (pe_dN A_need_wordX gm_need_word (hr.mono (by decide)) (L2N.takes_of rfl rfl rfl rfl) rfl (pa_cons (pv 2) pa_nil)))
  (pss_one (ps_ret (pe_d D_letters_at (hr.mono (by decide)) rfl (pa_cons (pv 0) (pa_cons (pv 1) (pa_cons (pv 2) pa_nil)))))))))

abbrev s_how_manyX : Stmt := topS 46
abbrev N_how_manyX : List Str := ["row", "heard", "total", "some", "ways", "letters"]
theorem sc_how_manyX : FnScope N_how_manyX ["row", "heard"] (defScope s_how_manyX) := ⟨rfl, rfl, rfl, by decide +kernel, rfl, by decide +kernel, by decide +kernel⟩
theorem ok_how_manyX {f : Addr} {fd : FuncData} (F : Fun K "how_many" "how_many" s_how_manyX f fd) {C : XCls} (TX : XOk K C) (nb_len : mg "len" = none) {fx_need_row : Addr} (gm_need_row : mg "need_row" = some (.ref fx_need_row)) (A_need_rowX : HeldN P w K mg base 4 fx_need_row (sp_need_rowX K C)) {fx_need_word : Addr} (gm_need_word : mg "need_word" = some (.ref fx_need_word)) (A_need_wordX : HeldN P w K mg base 2 fx_need_word (sp_need_wordX K C)) (D_all_places : DefOk P w K mg base CX0 5 "all_places" ["row", "heard"] (sp_all_places K)) :
    HeldN P w K mg base 6 f (sp_how_manyX K C) := by
  refine HeldN.of F (fun _ _ _ _ _ _ us hl => match us, hl with | [_, _], _ => rfl) (okN F sc_how_manyX (len_how_manyX K C) (fun cdv A outer s H vs Q E hr h => ⟨t_how_manyX K C E, ?_, sem_how_manyX K C vs H Q E h⟩))
  exact (pss_cons (ps_expr (pe_dN A_need_rowX gm_need_row (hr.mono (by decide)) (L2N.takes_of rfl rfl rfl rfl) rfl (pa_cons (pv 0) pa_nil)))
  (pss_cons (ps_expr (pe_dN A_need_wordX gm_need_word (hr.mono (by decide)) (L2N.takes_of rfl rfl rfl rfl) rfl (pa_cons (pv 1) pa_nil)))
  (pss_cons (ps_asg pe_int (pg_name (i := 2) sc_how_manyX.nd rfl (Or.inl rfl)))
  (pss_cons (ps_for (passes_of rfl) rfl (pi_list (pe_d D_all_places (hr.mono (by decide)) rfl (pa_cons (pv 0) (pa_cons (pv 1) pa_nil)))) (pg_name (i := 3) sc_how_manyX.nd rfl (Or.inl rfl))
  (pss_cons (ps_asg pe_int (pg_name (i := 4) sc_how_manyX.nd rfl (Or.inl rfl)))
  (pss_cons (ps_for (passes_of rfl) rfl (pi_list (pv 3)) (pg_name (i := 5) sc_how_manyX.nd rfl (Or.inl rfl))
  (pss_one (ps_asg (pe_op op_mulI (pv 4) (pe_callB cr_lenT rfl nb_len (by decide +kernel) (pa_cons (pv 5) pa_nil))) (pg_name (i := 4) sc_how_manyX.nd rfl (Or.inl rfl)))))
  (pss_one (ps_asg (pe_op op_addI (pv 2) (pv 4)) (pg_name (i := 2) sc_how_manyX.nd rfl (Or.inl rfl)))))))
  (pss_one (ps_ret (pv 2)))))))

abbrev s_first_saidX : Stmt := topS 47
abbrev N_first_saidX : List Str := ["row", "heard", "some", "letters"]
theorem sc_first_saidX : FnScope N_first_saidX ["row", "heard"] (defScope s_first_saidX) := ⟨rfl, rfl, rfl, by decide +kernel, rfl, by decide +kernel, by decide +kernel⟩
theorem ok_first_saidX {f : Addr} {fd : FuncData} (F : Fun K "first_said" "first_said" s_first_saidX f fd) {C : XCls} (TX : XOk K C) {fx_need_row : Addr} (gm_need_row : mg "need_row" = some (.ref fx_need_row)) (A_need_rowX : HeldN P w K mg base 4 fx_need_row (sp_need_rowX K C)) {fx_need_word : Addr} (gm_need_word : mg "need_word" = some (.ref fx_need_word)) (A_need_wordX : HeldN P w K mg base 2 fx_need_word (sp_need_wordX K C)) (D_all_places : DefOk P w K mg base CX0 5 "all_places" ["row", "heard"] (sp_all_places K)) :
    HeldN P w K mg base 6 f (sp_first_saidX K C) := by
  refine HeldN.of F (fun _ _ _ _ _ _ us hl => match us, hl with | [_, _], _ => rfl) (okN F sc_first_saidX (len_first_saidX K C) (fun cdv A outer s H vs Q E hr h => ⟨t_first_saidX K C E, ?_, sem_first_saidX K C vs H Q E h⟩))
  exact (pss_cons (ps_expr (pe_dN A_need_rowX gm_need_row (hr.mono (by decide)) (L2N.takes_of rfl rfl rfl rfl) rfl (pa_cons (pv 0) pa_nil)))
  (pss_cons (ps_expr (pe_dN A_need_wordX gm_need_word (hr.mono (by decide)) (L2N.takes_of rfl rfl rfl rfl) rfl (pa_cons (pv 1) pa_nil)))
  (pss_cons (ps_for (passes_of rfl) rfl (pi_list (pe_d D_all_places (hr.mono (by decide)) rfl (pa_cons (pv 0) (pa_cons (pv 1) pa_nil)))) (pg_name (i := 2) sc_first_saidX.nd rfl (Or.inl rfl))
  (pss_one (ps_ret (pe_joinQ pe_str (pe_lc (own := [("letters", 3)]) rfl sc_first_saidX.nd (pi_list (pv 2)) (blkOk_by (own := [("letters", 3)]) (N := N_first_saidX) (sc := defScope s_first_saidX) (by decide +kernel))
    (fun _ _ _ _ _ => (pg_name (i := 3) sc_first_saidX.nd rfl (Or.inl rfl))) (fun _ _ _ _ _ => pts_nil)
    (fun _ _ _ _ _ => (pe_ix ix_str (pv 3) pe_int (fun _ _ => rfl))))))))
  (pss_one (ps_ret pe_non)))))

abbrev s_come_alikeX : Stmt := topS 48
abbrev N_come_alikeX : List Str := ["row", "word", "other"]
theorem sc_come_alikeX : FnScope N_come_alikeX ["row", "word", "other"] (defScope s_come_alikeX) := ⟨rfl, rfl, rfl, by decide +kernel, rfl, by decide +kernel, by decide +kernel⟩
theorem ok_come_alikeX {f : Addr} {fd : FuncData} (F : Fun K "come_alike" "come_alike" s_come_alikeX f fd) {C : XCls} (TX : XOk K C) {fx_need_row : Addr} (gm_need_row : mg "need_row" = some (.ref fx_need_row)) (A_need_rowX : HeldN P w K mg base 4 fx_need_row (sp_need_rowX K C)) {fx_need_word : Addr} (gm_need_word : mg "need_word" = some (.ref fx_need_word)) (A_need_wordX : HeldN P w K mg base 2 fx_need_word (sp_need_wordX K C)) (D_comes_out : DefOk P w K mg base CX0 2 "comes_out" ["row", "word"] (sp_comes_out K)) :
    HeldN P w K mg base 5 f (sp_come_alikeX K C) := by
  refine HeldN.of F (fun _ _ _ _ _ _ us hl => match us, hl with | [_, _, _], _ => rfl) (okN F sc_come_alikeX (len_come_alikeX K C) (fun cdv A outer s H vs Q E hr h => ⟨t_come_alikeX K C E, ?_, sem_come_alikeX K C vs H Q E h⟩))
  exact (pss_cons (ps_expr (pe_dN A_need_rowX gm_need_row (hr.mono (by decide)) (L2N.takes_of rfl rfl rfl rfl) rfl (pa_cons (pv 0) pa_nil)))
  (pss_cons (ps_expr (pe_dN A_need_wordX gm_need_word (hr.mono (by decide)) (L2N.takes_of rfl rfl rfl rfl) rfl (pa_cons (pv 1) pa_nil)))
  (pss_cons (ps_expr (pe_dN A_need_wordX gm_need_word (hr.mono (by decide)) (L2N.takes_of rfl rfl rfl rfl) rfl (pa_cons (pv 2) pa_nil)))
  (pss_one (ps_ret (pe_cmpR op_eq (pe_d D_comes_out (hr.mono (by decide)) rfl (pa_cons (pv 0) (pa_cons (pv 1) pa_nil))) (pe_d D_comes_out (hr.mono (by decide)) rfl (pa_cons (pv 0) (pa_cons (pv 2) pa_nil))) (nomark _)))))))

abbrev s_are_alikeX : Stmt := topS 51
abbrev N_are_alikeX : List Str := ["row", "other"]
theorem sc_are_alikeX : FnScope N_are_alikeX ["row", "other"] (defScope s_are_alikeX) := ⟨rfl, rfl, rfl, by decide +kernel, rfl, by decide +kernel, by decide +kernel⟩
theorem ok_are_alikeX {f : Addr} {fd : FuncData} (F : Fun K "are_alike" "are_alike" s_are_alikeX f fd) {C : XCls} (TX : XOk K C) {fx_need_row : Addr} (gm_need_row : mg "need_row" = some (.ref fx_need_row)) (A_need_rowX : HeldN P w K mg base 4 fx_need_row (sp_need_rowX K C)) (D_parted : DefOk P w K mg base CX0 5 "parted" ["row", "other"] (sp_parted K)) :
    HeldN P w K mg base 6 f (sp_are_alikeX K C) := by
  refine HeldN.of F (fun _ _ _ _ _ _ us hl => match us, hl with | [_, _], _ => rfl) (okN F sc_are_alikeX (len_are_alikeX K C) (fun cdv A outer s H vs Q E hr h => ⟨t_are_alikeX K C E, ?_, sem_are_alikeX K C vs H Q E h⟩))
  exact (pss_cons (ps_expr (pe_dN A_need_rowX gm_need_row (hr.mono (by decide)) (L2N.takes_of rfl rfl rfl rfl) rfl (pa_cons (pv 0) pa_nil)))
  (pss_cons (ps_expr (pe_dN A_need_rowX gm_need_row (hr.mono (by decide)) (L2N.takes_of rfl rfl rfl rfl) rfl (pa_cons (pv 1) pa_nil)))
  (pss_one (ps_ret (pe_cmpR op_isNon (pe_d D_parted (hr.mono (by decide)) rfl (pa_cons (pv 0) (pa_cons (pv 1) pa_nil))) pe_non (nomark _))))))

abbrev s_partingX : Stmt := topS 52
abbrev N_partingX : List Str := ["row", "other"]
theorem sc_partingX : FnScope N_partingX ["row", "other"] (defScope s_partingX) := ⟨rfl, rfl, rfl, by decide +kernel, rfl, by decide +kernel, by decide +kernel⟩
theorem ok_partingX {f : Addr} {fd : FuncData} (F : Fun K "parting" "parting" s_partingX f fd) {C : XCls} (TX : XOk K C) {fx_need_row : Addr} (gm_need_row : mg "need_row" = some (.ref fx_need_row)) (A_need_rowX : HeldN P w K mg base 4 fx_need_row (sp_need_rowX K C)) (D_parted : DefOk P w K mg base CX0 5 "parted" ["row", "other"] (sp_parted K)) :
    HeldN P w K mg base 6 f (sp_partingX K C) := by
  refine HeldN.of F (fun _ _ _ _ _ _ us hl => match us, hl with | [_, _], _ => rfl) (okN F sc_partingX (len_partingX K C) (fun cdv A outer s H vs Q E hr h => ⟨t_partingX K C E, ?_, sem_partingX K C vs H Q E h⟩))
  exact (pss_cons (ps_expr (pe_dN A_need_rowX gm_need_row (hr.mono (by decide)) (L2N.takes_of rfl rfl rfl rfl) rfl (pa_cons (pv 0) pa_nil)))
  (pss_cons (ps_expr (pe_dN A_need_rowX gm_need_row (hr.mono (by decide)) (L2N.takes_of rfl rfl rfl rfl) rfl (pa_cons (pv 1) pa_nil)))
  (pss_one (ps_ret (pe_d D_parted (hr.mono (by decide)) rfl (pa_cons (pv 0) (pa_cons (pv 1) pa_nil)))))))

abbrev s_does_nothingX : Stmt := topS 53
abbrev N_does_nothingX : List Str := ["row"]
theorem sc_does_nothingX : FnScope N_does_nothingX ["row"] (defScope s_does_nothingX) := ⟨rfl, rfl, rfl, by decide +kernel, rfl, by decide +kernel, by decide +kernel⟩
theorem ok_does_nothingX {f : Addr} {fd : FuncData} (F : Fun K "does_nothing" "does_nothing" s_does_nothingX f fd) {C : XCls} (TX : XOk K C) {fx_need_row : Addr} (gm_need_row : mg "need_row" = some (.ref fx_need_row)) (A_need_rowX : HeldN P w K mg base 4 fx_need_row (sp_need_rowX K C)) (D_parted : DefOk P w K mg base CX0 5 "parted" ["row", "other"] (sp_parted K)) :
    HeldN P w K mg base 6 f (sp_does_nothingX K C) := by
  refine HeldN.of F (fun _ _ _ _ _ _ us hl => match us, hl with | [_], _ => rfl) (okN F sc_does_nothingX (len_does_nothingX K C) (fun cdv A outer s H vs Q E hr h => ⟨t_does_nothingX K C E, ?_, sem_does_nothingX K C vs H Q E h⟩))
  exact (pss_cons (ps_expr (pe_dN A_need_rowX gm_need_row (hr.mono (by decide)) (L2N.takes_of rfl rfl rfl rfl) rfl (pa_cons (pv 0) pa_nil)))
  (pss_one (ps_ret (pe_cmpR op_isNon (pe_d D_parted (hr.mono (by decide)) rfl (pa_cons (pv 0) (pa_cons (pe_tup pa_nil) pa_nil))) pe_non (nomark _)))))

abbrev s_undone_byX : Stmt := topS 54
abbrev N_undone_byX : List Str := ["one", "kind", "every", "counted"]
theorem sc_undone_byX : FnScope N_undone_byX ["one"] (defScope s_undone_byX) := ⟨rfl, rfl, rfl, by decide +kernel, rfl, by decide +kernel, by decide +kernel⟩
theorem ok_undone_byX {f : Addr} {fd : FuncData} (F : Fun K "undone_by" "undone_by" s_undone_byX f fd) {C : XCls} (gx_NoOne : mg "NoOne" = some (.ref (C.c 4))) (TX : XOk K C) (hk_4 : C.ok 4 = true) (D_is_one : DefOk P w K mg base CX0 2 "is_one" ["thing"] (sp_is_one K)) :
    HeldN P w K mg base 3 f (sp_undone_byX K C) := by
  refine HeldN.of F (fun _ _ _ _ _ _ us hl => match us, hl with | [_], _ => rfl) (okN F sc_undone_byX (len_undone_byX K C) (fun cdv A outer s H vs Q E hr h => ⟨t_undone_byX K C E, ?_, sem_undone_byX K C vs H Q E h⟩))
  exact (pss_cons (ps_if (pt_not (pt_val (pe_d D_is_one (hr.mono (by decide)) rfl (pa_cons (pv 0) pa_nil)))) (pss_one (L2N.ps_raise rfl (L2N.takes_of rfl rfl rfl rfl) (TX.made hk_4 gx_NoOne (by rfl)))) pss_nil)
  (pss_cons (ps_asg (pv 0) (pg_tup rfl (pgs_cons (pg_name (i := 1) sc_undone_byX.nd rfl (Or.inl rfl)) (pgs_cons (pg_name (i := 2) sc_undone_byX.nd rfl (Or.inl rfl)) (pgs_cons (pg_name (i := 3) sc_undone_byX.nd rfl (Or.inl rfl)) pgs_nil)))))
  (pss_cons (ps_if (PW.pt (pw_or (pt_cmpR op_ne (pv 1) pe_str (nomark _)) (pw_or1 (pt_cmpR op_gtI (pv 2) pe_int (nomark _))))) (pss_one (ps_ret (pe_tup pa_nil))) pss_nil)
  (pss_one (ps_ret (pe_tup (pa_cons (pe_tup (pa_cons pe_str (pa_cons (pe_op op_addI (pv 2) pe_int) (pa_cons (pv 3) pa_nil)))) (pa_cons (pe_tup (pa_cons pe_str (pa_cons (pe_op op_addI (pv 2) pe_int) (pa_cons (pe_op op_addI (pv 3) pe_int) pa_nil)))) pa_nil))))))))

abbrev s_who_canX : Stmt := topS 58
abbrev N_who_canX : List Str := ["row", "place", "pairs", "found", "one", "other", "pair", "said", "heard"]
theorem sc_who_canX : FnScope N_who_canX ["row", "place", "pairs"] (defScope s_who_canX) := ⟨rfl, rfl, rfl, by decide +kernel, rfl, by decide +kernel, by decide +kernel⟩
theorem ok_who_canX {f : Addr} {fd : FuncData} (F : Fun K "who_can" "who_can" s_who_canX f fd) {C : XCls} (gx_NoPlace : mg "NoPlace" = some (.ref (C.c 5))) (gx_NoPairs : mg "NoPairs" = some (.ref (C.c 6))) (TX : XOk K C) (hk_5 : C.ok 5 = true) (hk_6 : C.ok 6 = true) (nb_len : mg "len" = none) (nb_all : mg "all" = none) (nb_isinstance : mg "isinstance" = none) (nb_tuple : mg "tuple" = none) {fx_need_row : Addr} (gm_need_row : mg "need_row" = some (.ref fx_need_row)) (A_need_rowX : HeldN P w K mg base 4 fx_need_row (sp_need_rowX K C)) (D_is_within : DefOk P w K mg base CX0 1 "is_within" ["thing", "low", "high"] (sp_is_within K)) (D_is_pair : DefOk P w K mg base CX0 2 "is_pair" ["thing"] (sp_is_pair K)) (D_all_counters : DefOk P w K mg base CX0 1 "all_counters" [] (sp_all_counters K)) (D_comes_out : DefOk P w K mg base CX0 2 "comes_out" ["row", "word"] (sp_comes_out K)) :
    HeldN P w K mg base 5 f (sp_who_canX K C) := by
  refine HeldN.of F (fun _ _ _ _ _ _ us hl => match us, hl with | [_, _, _], _ => rfl) (okN F sc_who_canX (len_who_canX K C) (fun cdv A outer s H vs Q E hr h => ⟨t_who_canX K C E, ?_, sem_who_canX K C vs H Q E h⟩))
  exact (pss_cons (ps_expr (pe_dN A_need_rowX gm_need_row (hr.mono (by decide)) (L2N.takes_of rfl rfl rfl rfl) rfl (pa_cons (pv 0) pa_nil)))
  (pss_cons (ps_if (pt_not (pt_val (pe_d D_is_within (hr.mono (by decide)) rfl (pa_cons (pv 1) (pa_cons pe_int (pa_cons (pe_op op_subI (pe_callB cr_lenQ rfl nb_len (by decide +kernel) (pa_cons (pv 0) pa_nil)) pe_int) pa_nil)))))) (pss_one (L2N.ps_raise rfl (L2N.takes_of rfl rfl rfl rfl) (TX.made hk_5 gx_NoPlace (by rfl)))) pss_nil)
  (pss_cons (ps_if (PW.pt (pw_or (pt_not (pt_val (pe_callB call_isi rfl nb_isinstance (by decide +kernel) (pa_cons (pv 2) (pa_cons (pe_bltn (v := .ty "tuple") rfl nb_tuple (by decide +kernel) rfl) pa_nil))))) (pw_or (pt_not (pt_chain op_leI op_leI pe_int (pe_callB cr_lenQ rfl nb_len (by decide +kernel) (pa_cons (pv 2) pa_nil)) pe_int)) (pw_or1 (pt_not (pt_val (pe_callB (cr_all rfl) rfl nb_all (by decide +kernel) (pa_cons (pe_lc (own := [("pair", 6)]) rfl sc_who_canX.nd (pi_tup (pv 2)) (blkOk_by (own := [("pair", 6)]) (N := N_who_canX) (sc := defScope s_who_canX) (by decide +kernel))
    (fun _ _ _ _ _ => (pg_name (i := 6) sc_who_canX.nd rfl (Or.inl rfl))) (fun _ _ _ _ _ => pts_nil)
    (fun _ _ _ _ _ => (pe_d D_is_pair (hr.mono (by decide)) rfl (pa_cons (pv 6) pa_nil)))) pa_nil)))))))) (pss_one (L2N.ps_raise rfl (L2N.takes_of rfl rfl rfl rfl) (TX.made hk_6 gx_NoPairs (by rfl)))) pss_nil)
  (pss_cons (ps_asg (pe_lst pa_nil) (pg_name (i := 3) sc_who_canX.nd rfl (Or.inl rfl)))
  (pss_cons (ps_for (passes_of rfl) rfl (pi_list (pe_d0 D_all_counters (hr.mono (by decide)) rfl)) (pg_name (i := 4) sc_who_canX.nd rfl (Or.inl rfl))
  (pss_cons (ps_asg (pe_op op_catA (pe_op op_catA (pe_slice sl_tupA (pv 0) po_none (po_some (pv 1))) (pe_tup (pa_cons (pv 4) pa_nil))) (pe_slice sl_tupA (pv 0) (po_some (pe_op op_addI (pv 1) pe_int)) po_none)) (pg_name (i := 5) sc_who_canX.nd rfl (Or.inr rfl)))
  (pss_one (ps_if (pt_val (pe_callB (cr_all rfl) rfl nb_all (by decide +kernel) (pa_cons (pe_lc (own := [("said", 7), ("heard", 8)]) rfl sc_who_canX.nd (pi_tup (pv 2)) (blkOk_by (own := [("said", 7), ("heard", 8)]) (N := N_who_canX) (sc := defScope s_who_canX) (by decide +kernel))
    (fun _ _ _ _ _ => (pg_tup rfl (pgs_cons (pg_name (i := 7) sc_who_canX.nd rfl (Or.inl rfl)) (pgs_cons (pg_name (i := 8) sc_who_canX.nd rfl (Or.inl rfl)) pgs_nil)))) (fun _ _ _ _ _ => pts_nil)
    (fun _ _ _ _ _ => (pe_cmpR op_eq (pe_d D_comes_out (hr.mono (by decide)) rfl (pa_cons (pv 5) (pa_cons (pv 7) pa_nil))) (pv 8) (nomark _)))) pa_nil))) (pss_one (ps_expr (pe_bm PySem.F.plainAttrs_list PySem.F.slot_list_append PySem.F.type_list_append mt_append (pv 3) (pa_cons (pv 4) pa_nil)))) pss_nil))))
  (pss_one (ps_ret (pv 3))))))))

abbrev N_l_rows_refused : List Str := ["house", "none", "door"]
theorem sc_l_rows_refused : FnScope N_l_rows_refused ["house", "none"] (defScope s_l_rows_refused) := ⟨rfl, rfl, rfl, by decide +kernel, rfl, by decide +kernel, by decide +kernel⟩
def lamD0 : LamT := lamOf (defScope s_l_rows_refused) (xArg (xLeft (sTest (sIn ((defBody s_l_rows_refused).getD 0 s_l_rows_refused) 0))) 0) "_law_rows_refused.<locals>.<lambda>"
theorem sc_lam0 : FnScope ["a", "b", "c"] ["a", "b", "c"] (lamD0).scope := ⟨rfl, rfl, rfl, by decide +kernel, rfl, by decide +kernel, by decide +kernel⟩
theorem okL_lam0 {S : Addr → Option Sp} (AS : ∀ f sp, S f = some sp → HeldN P w K mg base 6 f sp) :
    LamOk P w K mg base 6 lamD0 (sp_lam0 K S) := by
  refine ⟨["a", "b", "c"], ["a", "b", "c"], sc_lam0, len_lam0 K S, (fun _ _ _ us hl => match us, hl with | [_, _, _], _ => rfl), fun f c A outer s H vs Q E hr h => ⟨t_lam0 K S E, ?_, sem_lam0 K S vs H Q E h⟩⟩
  exact (pe_callN AS (hr.mono (by decide)) (L2N.takes_of rfl rfl rfl rfl) (pa_cons (pv 1) pa_nil))

def lamD1 : LamT := lamOf (defScope s_l_rows_refused) (xArg (xLeft (sTest (sIn ((defBody s_l_rows_refused).getD 0 s_l_rows_refused) 1))) 0) "_law_rows_refused.<locals>.<lambda>"
theorem sc_lam1 : FnScope ["a", "b", "c"] ["a", "b", "c"] (lamD1).scope := ⟨rfl, rfl, rfl, by decide +kernel, rfl, by decide +kernel, by decide +kernel⟩
theorem okL_lam1 {S : Addr → Option Sp} (AS : ∀ f sp, S f = some sp → HeldN P w K mg base 6 f sp) :
    LamOk P w K mg base 6 lamD1 (sp_lam1 K S) := by
  refine ⟨["a", "b", "c"], ["a", "b", "c"], sc_lam1, len_lam1 K S, (fun _ _ _ us hl => match us, hl with | [_, _, _], _ => rfl), fun f c A outer s H vs Q E hr h => ⟨t_lam1 K S E, ?_, sem_lam1 K S vs H Q E h⟩⟩
  exact (pe_callN AS (hr.mono (by decide)) (L2N.takes_of rfl rfl rfl rfl) (pa_cons (pv 1) pa_nil))

def lamD2 : LamT := lamOf (defScope s_l_rows_refused) (xArg (xLeft (sTest (sIn ((defBody s_l_rows_refused).getD 1 s_l_rows_refused) 0))) 0) "_law_rows_refused.<locals>.<lambda>"
theorem sc_lam2 : FnScope ["a", "b", "c"] ["a", "b", "c"] (lamD2).scope := ⟨rfl, rfl, rfl, by decide +kernel, rfl, by decide +kernel, by decide +kernel⟩
theorem okL_lam2 {S : Addr → Option Sp} (AS : ∀ f sp, S f = some sp → HeldN P w K mg base 6 f sp) :
    LamOk P w K mg base 6 lamD2 (sp_lam2 K S) := by
  refine ⟨["a", "b", "c"], ["a", "b", "c"], sc_lam2, len_lam2 K S, (fun _ _ _ us hl => match us, hl with | [_, _, _], _ => rfl), fun f c A outer s H vs Q E hr h => ⟨t_lam2 K S E, ?_, sem_lam2 K S vs H Q E h⟩⟩
  exact (pe_callN AS (hr.mono (by decide)) (L2N.takes_of rfl rfl rfl rfl) (pa_cons (pv 1) (pa_cons (pv 2) pa_nil)))

def lamD3 : LamT := lamOf (defScope s_l_rows_refused) (xArg (xLeft (sTest (sIn ((defBody s_l_rows_refused).getD 3 s_l_rows_refused) 0))) 0) "_law_rows_refused.<locals>.<lambda>"
theorem sc_lam3 : FnScope ["a", "b", "c"] ["a", "b", "c"] (lamD3).scope := ⟨rfl, rfl, rfl, by decide +kernel, rfl, by decide +kernel, by decide +kernel⟩
theorem okL_lam3 {S : Addr → Option Sp} (AS : ∀ f sp, S f = some sp → HeldN P w K mg base 6 f sp) :
    LamOk P w K mg base 6 lamD3 (sp_lam3 K S) := by
  refine ⟨["a", "b", "c"], ["a", "b", "c"], sc_lam3, len_lam3 K S, (fun _ _ _ us hl => match us, hl with | [_, _, _], _ => rfl), fun f c A outer s H vs Q E hr h => ⟨t_lam3 K S E, ?_, sem_lam3 K S vs H Q E h⟩⟩
  exact (pe_callN AS (hr.mono (by decide)) (L2N.takes_of rfl rfl rfl rfl) (pa_cons (pv 1) (pa_cons (pv 2) pa_nil)))

theorem ok_l_rows_refused {f : Addr} {fd : FuncData} (F : Fun K "_law_rows_refused" "_law_rows_refused" s_l_rows_refused f fd) (gf : mg "_law_rows_refused" = some (.ref f)) {C : XCls} {S : Addr → Option Sp} {SL : LamT → Sp → Prop} {T : List (Addr × Str)} {f_does_nothing : Addr} {f_round_of : Addr} {f_first_said : Addr} {f_how_many : Addr} {f_lengths : Addr} {f_parting : Addr} {f_are_alike : Addr} {f_letter_out : Addr} {f_least_for : Addr} {f_come : Addr} {f_out : Addr} {f_who_can : Addr} {f_come_alike : Addr} {f_places : Addr} {cc : Addr} {PP : Addr} (TX : XOk K C) (gf_does_nothing : mg "does_nothing" = some (.ref f_does_nothing)) (hS_does_nothing : S f_does_nothing = some (sp_does_nothingX K C)) (gf_round_of : mg "round_of" = some (.ref f_round_of)) (hS_round_of : S f_round_of = some (sp_round_ofX K C)) (gf_first_said : mg "first_said" = some (.ref f_first_said)) (hS_first_said : S f_first_said = some (sp_first_saidX K C)) (gf_how_many : mg "how_many" = some (.ref f_how_many)) (hS_how_many : S f_how_many = some (sp_how_manyX K C)) (gf_lengths : mg "lengths" = some (.ref f_lengths)) (hS_lengths : S f_lengths = some (sp_lengthsX K C)) (gf_parting : mg "parting" = some (.ref f_parting)) (hS_parting : S f_parting = some (sp_partingX K C)) (gf_are_alike : mg "are_alike" = some (.ref f_are_alike)) (hS_are_alike : S f_are_alike = some (sp_are_alikeX K C)) (gf_letter_out : mg "letter_out" = some (.ref f_letter_out)) (hS_letter_out : S f_letter_out = some (sp_letter_outX K C)) (gf_least_for : mg "least_for" = some (.ref f_least_for)) (hS_least_for : S f_least_for = some (sp_least_forX K C)) (gf_come : mg "come" = some (.ref f_come)) (hS_come : S f_come = some (sp_comeX K C)) (gf_out : mg "out" = some (.ref f_out)) (hS_out : S f_out = some (sp_outX K C)) (gf_who_can : mg "who_can" = some (.ref f_who_can)) (hS_who_can : S f_who_can = some (sp_who_canX K C)) (gf_come_alike : mg "come_alike" = some (.ref f_come_alike)) (hS_come_alike : S f_come_alike = some (sp_come_alikeX K C)) (gf_places : mg "places" = some (.ref f_places)) (hS_places : S f_places = some (sp_placesX K C)) (TB : LamX.TabB base mg cc PP) (hT : (PP, ("_law_rows_refused.<locals>.<lambda>" : Str)) ∈ T) (hU : ∀ p ∈ T, p.1 = PP → p.2 = "_law_rows_refused.<locals>.<lambda>") (hSL0 : SL lamD0 (sp_lam0 K S)) (hSL1 : SL lamD1 (sp_lam1 K S)) (hSL2 : SL lamD2 (sp_lam2 K S)) (hSL3 : SL lamD3 (sp_lam3 K S)) (hk_0 : C.ok 0 = true) (D_l_refused : DefOk P w K mg base CX0 8 "_law_refused" ["call", "one", "two", "three"] (sp_l_refused K C S SL)) (hc : fd.code = .ref cc) :
    DefOk P w K mg base CX0 9 "_law_rows_refused" ["house", "none"] (sp_l_rows_refused K T) := by
  refine DefOk.of F gf (fun _ _ _ _ _ _ us hl => match us, hl with | [_, _], _ => rfl) (HH.Fun.okC F hc sc_l_rows_refused (len_l_rows_refused K T) (fun A outer s H vs Q E hr h => ⟨t_l_rows_refused K C S SL T lamD0 lamD1 lamD2 lamD3 f_does_nothing f_round_of f_first_said f_how_many f_lengths f_parting f_are_alike f_letter_out f_least_for f_come f_out f_who_can f_come_alike f_places, ?_, sem_l_rows_refused K C S SL T lamD0 lamD1 lamD2 lamD3 f_does_nothing f_round_of f_first_said f_how_many f_lengths f_parting f_are_alike f_letter_out f_least_for f_come f_out f_who_can f_come_alike f_places TX hS_does_nothing hS_round_of hS_first_said hS_how_many hS_lengths hS_parting hS_are_alike hS_letter_out hS_least_for hS_come hS_out hS_who_can hS_come_alike hS_places hT hSL0 hSL1 hSL2 hSL3 hk_0 vs H Q E h⟩))
  exact (pss_cons (ps_for PassesOwn.never rfl (pi_tup (pe_tup (pa_cons (pe_glob rfl gf_round_of rfl) (pa_cons (pe_glob rfl gf_does_nothing rfl) pa_nil)))) (pg_name (i := 2) sc_l_rows_refused.nd rfl (Or.inl rfl))
  (pss_cons (ps_if (pt_cmpR (op_neD hr.units) (pe_d D_l_refused (hr.mono (by decide)) rfl (pa_cons (pe_lamV (lt := lamD0) TB rfl hT (fun p hp e => hU p hp e) (by rfl) (by rfl) (by decide +kernel) (by rfl)) (pa_cons (pv 2) (pa_cons (pv 1) (pa_cons pe_int pa_nil))))) (pe_lst (pa_cons pe_str (pa_cons pe_bl pa_nil))) (nomark _)) (pss_one (ps_ret pe_bl)) pss_nil)
  (pss_one (ps_if (pt_cmpR (op_neD hr.units) (pe_d D_l_refused (hr.mono (by decide)) rfl (pa_cons (pe_lamV (lt := lamD1) TB rfl hT (fun p hp e => hU p hp e) (by rfl) (by rfl) (by decide +kernel) (by rfl)) (pa_cons (pv 2) (pa_cons (pv 0) (pa_cons pe_int pa_nil))))) (pe_lst pa_nil) (nomark _)) (pss_one (ps_ret pe_bl)) pss_nil))))
  (pss_cons (ps_for PassesOwn.never rfl (pi_tup (pe_tup (pa_cons (pe_glob rfl gf_out rfl) (pa_cons (pe_glob rfl gf_come rfl) (pa_cons (pe_glob rfl gf_least_for rfl) (pa_cons (pe_glob rfl gf_letter_out rfl) (pa_cons (pe_glob rfl gf_are_alike rfl) (pa_cons (pe_glob rfl gf_parting rfl) (pa_cons (pe_glob rfl gf_lengths rfl) (pa_cons (pe_glob rfl gf_how_many rfl) (pa_cons (pe_glob rfl gf_first_said rfl) pa_nil))))))))))) (pg_name (i := 2) sc_l_rows_refused.nd rfl (Or.inl rfl))
  (pss_one (ps_if (pt_cmpR (op_neD hr.units) (pe_d D_l_refused (hr.mono (by decide)) rfl (pa_cons (pe_lamV (lt := lamD2) TB rfl hT (fun p hp e => hU p hp e) (by rfl) (by rfl) (by decide +kernel) (by rfl)) (pa_cons (pv 2) (pa_cons (pv 1) (pa_cons pe_non pa_nil))))) (pe_lst (pa_cons pe_str (pa_cons pe_bl pa_nil))) (nomark _)) (pss_one (ps_ret pe_bl)) pss_nil)))
  (pss_cons (ps_for PassesOwn.never rfl (pi_tup (pe_tup (pa_cons (pe_glob rfl gf_places rfl) (pa_cons (pe_glob rfl gf_come_alike rfl) (pa_cons (pe_glob rfl gf_who_can rfl) pa_nil))))) (pg_name (i := 2) sc_l_rows_refused.nd rfl (Or.inl rfl))
  (pss_one (ps_if (pt_cmpR (op_neD hr.units) (pe_d D_l_refused (hr.mono (by decide)) rfl (pa_cons (pv 2) (pa_cons (pv 1) (pa_cons pe_non (pa_cons pe_non pa_nil))))) (pe_lst (pa_cons pe_str (pa_cons pe_bl pa_nil))) (nomark _)) (pss_one (ps_ret pe_bl)) pss_nil)))
  (pss_cons (ps_for PassesOwn.never rfl (pi_tup (pe_tup (pa_cons (pe_glob rfl gf_are_alike rfl) (pa_cons (pe_glob rfl gf_parting rfl) pa_nil)))) (pg_name (i := 2) sc_l_rows_refused.nd rfl (Or.inl rfl))
  (pss_one (ps_if (pt_cmpR (op_neD hr.units) (pe_d D_l_refused (hr.mono (by decide)) rfl (pa_cons (pe_lamV (lt := lamD3) TB rfl hT (fun p hp e => hU p hp e) (by rfl) (by rfl) (by decide +kernel) (by rfl)) (pa_cons (pv 2) (pa_cons (pv 0) (pa_cons (pv 1) pa_nil))))) (pe_lst (pa_cons pe_str (pa_cons pe_bl pa_nil))) (nomark _)) (pss_one (ps_ret pe_bl)) pss_nil)))
  (pss_one (ps_ret pe_bl))))))

abbrev N_l_words_refused : List Str := ["house", "odd", "door"]
theorem sc_l_words_refused : FnScope N_l_words_refused ["house"] (defScope s_l_words_refused) := ⟨rfl, rfl, rfl, by decide +kernel, rfl, by decide +kernel, by decide +kernel⟩
def lamD4 : LamT := lamOf (defScope s_l_words_refused) (xArg (xLeft (sTest (sIn (sIn ((defBody s_l_words_refused).getD 0 s_l_words_refused) 0) 0))) 0) "_law_words_refused.<locals>.<lambda>"
theorem sc_lam4 : FnScope ["a", "b", "c"] ["a", "b", "c"] (lamD4).scope := ⟨rfl, rfl, rfl, by decide +kernel, rfl, by decide +kernel, by decide +kernel⟩
theorem okL_lam4 {S : Addr → Option Sp} (AS : ∀ f sp, S f = some sp → HeldN P w K mg base 6 f sp) :
    LamOk P w K mg base 6 lamD4 (sp_lam4 K S) := by
  refine ⟨["a", "b", "c"], ["a", "b", "c"], sc_lam4, len_lam4 K S, (fun _ _ _ us hl => match us, hl with | [_, _, _], _ => rfl), fun f c A outer s H vs Q E hr h => ⟨t_lam4 K S E, ?_, sem_lam4 K S vs H Q E h⟩⟩
  exact (pe_callN AS (hr.mono (by decide)) (L2N.takes_of rfl rfl rfl rfl) (pa_cons (pv 1) (pa_cons (pv 2) pa_nil)))

def lamD5 : LamT := lamOf (defScope s_l_words_refused) (xArg (xLeft (sTest (sIn ((defBody s_l_words_refused).getD 1 s_l_words_refused) 0))) 0) "_law_words_refused.<locals>.<lambda>"
theorem sc_lam5 : FnScope ["a", "b", "c"] ["a", "b", "c"] (lamD5).scope := ⟨rfl, rfl, rfl, by decide +kernel, rfl, by decide +kernel, by decide +kernel⟩
theorem okL_lam5 {C : XCls} {fx_letter_out : Addr} (gm_letter_out : mg "letter_out" = some (.ref fx_letter_out)) (A_letter_outX : HeldN P w K mg base 5 fx_letter_out (sp_letter_outX K C)) :
    LamOk P w K mg base 5 lamD5 (sp_lam5 K C) := by
  refine ⟨["a", "b", "c"], ["a", "b", "c"], sc_lam5, len_lam5 K C, (fun _ _ _ us hl => match us, hl with | [_, _, _], _ => rfl), fun f c A outer s H vs Q E hr h => ⟨t_lam5 K C E, ?_, sem_lam5 K C vs H Q E h⟩⟩
  exact (pe_dN A_letter_outX gm_letter_out (hr.mono (by decide)) (L2N.takes_of rfl rfl rfl rfl) rfl (pa_cons (pv 0) (pa_cons (pv 1) pa_nil)))

def lamD6 : LamT := lamOf (defScope s_l_words_refused) (xArg (xLeft (sTest ((defBody s_l_words_refused).getD 2 s_l_words_refused))) 0) "_law_words_refused.<locals>.<lambda>"
theorem sc_lam6 : FnScope ["a", "b", "c"] ["a", "b", "c"] (lamD6).scope := ⟨rfl, rfl, rfl, by decide +kernel, rfl, by decide +kernel, by decide +kernel⟩
theorem okL_lam6 {C : XCls} {fx_out : Addr} (gm_out : mg "out" = some (.ref fx_out)) (A_outX : HeldN P w K mg base 5 fx_out (sp_outX K C)) :
    LamOk P w K mg base 5 lamD6 (sp_lam6 K C) := by
  refine ⟨["a", "b", "c"], ["a", "b", "c"], sc_lam6, len_lam6 K C, (fun _ _ _ us hl => match us, hl with | [_, _, _], _ => rfl), fun f c A outer s H vs Q E hr h => ⟨t_lam6 K C E, ?_, sem_lam6 K C vs H Q E h⟩⟩
  exact (pe_dN A_outX gm_out (hr.mono (by decide)) (L2N.takes_of rfl rfl rfl rfl) rfl (pa_cons (pv 0) (pa_cons (pv 1) pa_nil)))

theorem ok_l_words_refused {f : Addr} {fd : FuncData} (F : Fun K "_law_words_refused" "_law_words_refused" s_l_words_refused f fd) (gf : mg "_law_words_refused" = some (.ref f)) {C : XCls} {S : Addr → Option Sp} {SL : LamT → Sp → Prop} {T : List (Addr × Str)} {f_first_said : Addr} {f_how_many : Addr} {f_lengths : Addr} {f_out : Addr} {f_come_alike : Addr} {f_places : Addr} {cc : Addr} {PP : Addr} (TX : XOk K C) (gf_first_said : mg "first_said" = some (.ref f_first_said)) (hS_first_said : S f_first_said = some (sp_first_saidX K C)) (gf_how_many : mg "how_many" = some (.ref f_how_many)) (hS_how_many : S f_how_many = some (sp_how_manyX K C)) (gf_lengths : mg "lengths" = some (.ref f_lengths)) (hS_lengths : S f_lengths = some (sp_lengthsX K C)) (gf_out : mg "out" = some (.ref f_out)) (hS_out : S f_out = some (sp_outX K C)) (gf_come_alike : mg "come_alike" = some (.ref f_come_alike)) (hS_come_alike : S f_come_alike = some (sp_come_alikeX K C)) (gf_places : mg "places" = some (.ref f_places)) (hS_places : S f_places = some (sp_placesX K C)) (TB : LamX.TabB base mg cc PP) (hT : (PP, ("_law_words_refused.<locals>.<lambda>" : Str)) ∈ T) (hU : ∀ p ∈ T, p.1 = PP → p.2 = "_law_words_refused.<locals>.<lambda>") (hSL4 : SL lamD4 (sp_lam4 K S)) (hSL5 : SL lamD5 (sp_lam5 K C)) (hSL6 : SL lamD6 (sp_lam6 K C)) (hk_1 : C.ok 1 = true) (hk_2 : C.ok 2 = true) (D_l_refused : DefOk P w K mg base CX0 8 "_law_refused" ["call", "one", "two", "three"] (sp_l_refused K C S SL)) (hc : fd.code = .ref cc) :
    DefOk P w K mg base CX0 9 "_law_words_refused" ["house"] (sp_l_words_refused K T) := by
  refine DefOk.of F gf (fun _ _ _ _ _ _ us hl => match us, hl with | [_], _ => rfl) (HH.Fun.okC F hc sc_l_words_refused (len_l_words_refused K T) (fun A outer s H vs Q E hr h => ⟨t_l_words_refused K C S SL T lamD4 lamD5 lamD6 f_first_said f_how_many f_lengths f_out f_come_alike f_places, ?_, sem_l_words_refused K C S SL T lamD4 lamD5 lamD6 f_first_said f_how_many f_lengths f_out f_come_alike f_places TX hS_first_said hS_how_many hS_lengths hS_out hS_come_alike hS_places hT hSL4 hSL5 hSL6 hk_1 hk_2 vs H Q E h⟩))
  exact (pss_cons (ps_for PassesOwn.never rfl (pi_tup (pe_tup (pa_cons pe_non (pa_cons pe_str (pa_cons pe_str (pa_cons (pe_op op_mulS pe_str pe_int) (pa_cons pe_int (pa_cons (pe_tup (pa_cons pe_str pa_nil)) (pa_cons pe_bl pa_nil))))))))) (pg_name (i := 1) sc_l_words_refused.nd rfl (Or.inl rfl))
  (pss_cons (ps_for PassesOwn.never rfl (pi_tup (pe_tup (pa_cons (pe_glob rfl gf_out rfl) (pa_cons (pe_glob rfl gf_lengths rfl) (pa_cons (pe_glob rfl gf_how_many rfl) (pa_cons (pe_glob rfl gf_first_said rfl) pa_nil)))))) (pg_name (i := 2) sc_l_words_refused.nd rfl (Or.inl rfl))
  (pss_one (ps_if (pt_cmpR (op_neD hr.units) (pe_d D_l_refused (hr.mono (by decide)) rfl (pa_cons (pe_lamV (lt := lamD4) TB rfl hT (fun p hp e => hU p hp e) (by rfl) (by rfl) (by decide +kernel) (by rfl)) (pa_cons (pv 2) (pa_cons (pv 0) (pa_cons (pv 1) pa_nil))))) (pe_lst (pa_cons pe_str (pa_cons pe_bl pa_nil))) (nomark _)) (pss_one (ps_ret pe_bl)) pss_nil)))
  (pss_cons (ps_if (pt_cmpR (op_neD hr.units) (pe_d D_l_refused (hr.mono (by decide)) rfl (pa_cons (pe_glob rfl gf_come_alike rfl) (pa_cons (pv 0) (pa_cons (pv 1) (pa_cons pe_non pa_nil))))) (pe_lst (pa_cons pe_str (pa_cons pe_bl pa_nil))) (nomark _)) (pss_one (ps_ret pe_bl)) pss_nil)
  (pss_cons (ps_if (pt_cmpR (op_neD hr.units) (pe_d D_l_refused (hr.mono (by decide)) rfl (pa_cons (pe_glob rfl gf_come_alike rfl) (pa_cons (pv 0) (pa_cons pe_str (pa_cons (pv 1) pa_nil))))) (pe_lst (pa_cons pe_str (pa_cons pe_bl pa_nil))) (nomark _)) (pss_one (ps_ret pe_bl)) pss_nil)
  (pss_one (ps_if (pt_cmpR (op_neD hr.units) (pe_d D_l_refused (hr.mono (by decide)) rfl (pa_cons (pe_glob rfl gf_places rfl) (pa_cons (pv 0) (pa_cons pe_int (pa_cons (pv 1) pa_nil))))) (pe_lst (pa_cons pe_str (pa_cons pe_bl pa_nil))) (nomark _)) (pss_one (ps_ret pe_bl)) pss_nil))))))
  (pss_cons (ps_for PassesOwn.never rfl (pi_tup (pe_tup (pa_cons pe_non (pa_cons pe_str (pa_cons pe_str (pa_cons pe_str (pa_cons pe_int (pa_cons pe_str pa_nil)))))))) (pg_name (i := 1) sc_l_words_refused.nd rfl (Or.inl rfl))
  (pss_one (ps_if (pt_cmpR (op_neD hr.units) (pe_d D_l_refused (hr.mono (by decide)) rfl (pa_cons (pe_lamV (lt := lamD5) TB rfl hT (fun p hp e => hU p hp e) (by rfl) (by rfl) (by decide +kernel) (by rfl)) (pa_cons (pv 0) (pa_cons (pv 1) (pa_cons pe_int pa_nil))))) (pe_lst (pa_cons pe_str (pa_cons pe_bl pa_nil))) (nomark _)) (pss_one (ps_ret pe_bl)) pss_nil)))
  (pss_one (ps_ret (pe_cmpR (op_eqD hr.units) (pe_d D_l_refused (hr.mono (by decide)) rfl (pa_cons (pe_lamV (lt := lamD6) TB rfl hT (fun p hp e => hU p hp e) (by rfl) (by rfl) (by decide +kernel) (by rfl)) (pa_cons (pv 0) (pa_cons (pe_op op_mulS pe_str pe_int) (pa_cons pe_int pa_nil))))) (pe_lst pa_nil) (nomark _))))))

abbrev N_law : List Str := ["script", "bag", "house", "some", "none", "odd", "door"]
theorem sc_law : FnScope N_law ["script"] (defScope s_law) := ⟨rfl, rfl, rfl, by decide +kernel, rfl, by decide +kernel, by decide +kernel⟩
def lamD7 : LamT := lamOf (defScope s_law) (xArg (xLeft (sTest (sIn (sIn (sIn ((defBody s_law).getD 0 s_law) 5) 0) 0))) 0) "law.<locals>.<lambda>"
theorem sc_lam7 : FnScope ["a", "b", "c"] ["a", "b", "c"] (lamD7).scope := ⟨rfl, rfl, rfl, by decide +kernel, rfl, by decide +kernel, by decide +kernel⟩
theorem okL_lam7 {S : Addr → Option Sp} (AS : ∀ f sp, S f = some sp → HeldN P w K mg base 6 f sp) :
    LamOk P w K mg base 6 lamD7 (sp_lam7 K S) := by
  refine ⟨["a", "b", "c"], ["a", "b", "c"], sc_lam7, len_lam7 K S, (fun _ _ _ us hl => match us, hl with | [_, _, _], _ => rfl), fun f c A outer s H vs Q E hr h => ⟨t_lam7 K S E, ?_, sem_lam7 K S vs H Q E h⟩⟩
  exact (pe_callN AS (hr.mono (by decide)) (L2N.takes_of rfl rfl rfl rfl) (pa_cons (pv 1) (pa_cons (pv 2) pa_nil)))

def lamD8 : LamT := lamOf (defScope s_law) (xArg (xLeft (sTest (sIn (sIn ((defBody s_law).getD 0 s_law) 7) 0))) 0) "law.<locals>.<lambda>"
theorem sc_lam8 : FnScope ["a", "b", "c"] ["a", "b", "c"] (lamD8).scope := ⟨rfl, rfl, rfl, by decide +kernel, rfl, by decide +kernel, by decide +kernel⟩
theorem okL_lam8 {C : XCls} {fx_undone_by : Addr} (gm_undone_by : mg "undone_by" = some (.ref fx_undone_by)) (A_undone_byX : HeldN P w K mg base 3 fx_undone_by (sp_undone_byX K C)) :
    LamOk P w K mg base 3 lamD8 (sp_lam8 K C) := by
  refine ⟨["a", "b", "c"], ["a", "b", "c"], sc_lam8, len_lam8 K C, (fun _ _ _ us hl => match us, hl with | [_, _, _], _ => rfl), fun f c A outer s H vs Q E hr h => ⟨t_lam8 K C E, ?_, sem_lam8 K C vs H Q E h⟩⟩
  exact (pe_dN A_undone_byX gm_undone_by (hr.mono (by decide)) (L2N.takes_of rfl rfl rfl rfl) rfl (pa_cons (pv 0) pa_nil))

def lamD9 : LamT := lamOf (defScope s_law) (xArg (xLeft (sTest (sIn ((defBody s_law).getD 0 s_law) 8))) 0) "law.<locals>.<lambda>"
theorem sc_lam9 : FnScope ["a", "b", "c"] ["a", "b", "c"] (lamD9).scope := ⟨rfl, rfl, rfl, by decide +kernel, rfl, by decide +kernel, by decide +kernel⟩
theorem okL_lam9 {C : XCls} {fx_undone_by : Addr} (gm_undone_by : mg "undone_by" = some (.ref fx_undone_by)) (A_undone_byX : HeldN P w K mg base 3 fx_undone_by (sp_undone_byX K C)) :
    LamOk P w K mg base 3 lamD9 (sp_lam9 K C) := by
  refine ⟨["a", "b", "c"], ["a", "b", "c"], sc_lam9, len_lam9 K C, (fun _ _ _ us hl => match us, hl with | [_, _, _], _ => rfl), fun f c A outer s H vs Q E hr h => ⟨t_lam9 K C E, ?_, sem_lam9 K C vs H Q E h⟩⟩
  exact (pe_dN A_undone_byX gm_undone_by (hr.mono (by decide)) (L2N.takes_of rfl rfl rfl rfl) rfl (pa_cons (pv 0) pa_nil))

def lamD10 : LamT := lamOf (defScope s_law) (xArg (xLeft (sTest ((defBody s_law).getD 1 s_law))) 0) "law.<locals>.<lambda>"
theorem sc_lam10 : FnScope ["a", "b", "c"] ["a", "b", "c"] (lamD10).scope := ⟨rfl, rfl, rfl, by decide +kernel, rfl, by decide +kernel, by decide +kernel⟩
theorem okL_lam10 {C : XCls} {fx_come : Addr} (gm_come : mg "come" = some (.ref fx_come)) (A_comeX : HeldN P w K mg base 5 fx_come (sp_comeX K C)) :
    LamOk P w K mg base 5 lamD10 (sp_lam10 K C) := by
  refine ⟨["a", "b", "c"], ["a", "b", "c"], sc_lam10, len_lam10 K C, (fun _ _ _ us hl => match us, hl with | [_, _, _], _ => rfl), fun f c A outer s H vs Q E hr h => ⟨t_lam10 K C E, ?_, sem_lam10 K C vs H Q E h⟩⟩
  exact (pe_dN A_comeX gm_come (hr.mono (by decide)) (L2N.takes_of rfl rfl rfl rfl) rfl (pa_cons (pv 0) (pa_cons (pv 1) pa_nil)))

theorem okF_law {f : Addr} {fd : FuncData} (F : Fun K "law" "law" s_law f fd) {C : XCls} {S : Addr → Option Sp} {SL : LamT → Sp → Prop} {T : List (Addr × Str)} {f_least_for : Addr} {f_come : Addr} {f_places : Addr} {cc : Addr} {PP : Addr} (TX : XOk K C) (gf_least_for : mg "least_for" = some (.ref f_least_for)) (hS_least_for : S f_least_for = some (sp_least_forX K C)) (gf_come : mg "come" = some (.ref f_come)) (hS_come : S f_come = some (sp_comeX K C)) (gf_places : mg "places" = some (.ref f_places)) (hS_places : S f_places = some (sp_placesX K C)) (TB : LamX.TabB base mg cc PP) (hT : (PP, ("law.<locals>.<lambda>" : Str)) ∈ T) (hU : ∀ p ∈ T, p.1 = PP → p.2 = "law.<locals>.<lambda>") (hSL7 : SL lamD7 (sp_lam7 K S)) (hSL8 : SL lamD8 (sp_lam8 K C)) (hSL9 : SL lamD9 (sp_lam9 K C)) (hSL10 : SL lamD10 (sp_lam10 K C)) (hk_0 : C.ok 0 = true) (hk_1 : C.ok 1 = true) (hk_2 : C.ok 2 = true) (hk_3 : C.ok 3 = true) (hk_4 : C.ok 4 = true) (D_l_bags : DefOk P w K mg base CX0 3 "_law_bags" ["script", "limit"] (sp_l_bags K)) (D_l_mouths : DefOk P w K mg base CX0 3 "_law_mouths" ["bag", "most", "wide"] (sp_l_mouths K)) (D_l_take : DefOk P w K mg base CX0 1 "_law_take" ["bag", "many"] (sp_l_take K)) (D_l_words_refused : DefOk P w K mg base CX0 9 "_law_words_refused" ["house"] (sp_l_words_refused K T)) (D_l_rows_refused : DefOk P w K mg base CX0 9 "_law_rows_refused" ["house", "none"] (sp_l_rows_refused K T)) (D_l_refused : DefOk P w K mg base CX0 8 "_law_refused" ["call", "one", "two", "three"] (sp_l_refused K C S SL)) (D_l_counter : DefOk P w K mg base CX0 2 "_law_counter" ["bag"] (sp_l_counter K)) (hc : fd.code = .ref cc) :
    FnOk P w K mg base CX0 10 f fd ["script"] (sp_lawT K T) := by
  refine HH.Fun.okC F hc sc_law (len_lawT K T) (fun A outer s H vs Q E hr h => ⟨t_law K C S SL T lamD7 lamD8 lamD9 lamD10 f_least_for f_come f_places, ?_, sem_law K C S SL T lamD7 lamD8 lamD9 lamD10 f_least_for f_come f_places TX hS_least_for hS_come hS_places hT hSL7 hSL8 hSL9 hSL10 hk_0 hk_1 hk_2 hk_3 hk_4 vs H Q E h⟩)
  exact (pss_cons (ps_for PassesOwn.never rfl (pi_list (pe_d D_l_bags (hr.mono (by decide)) rfl (pa_cons (pv 0) (pa_cons pe_int pa_nil)))) (pg_name (i := 1) sc_law.nd rfl (Or.inl rfl))
  (pss_cons (ps_asg (pe_d D_l_mouths (hr.mono (by decide)) rfl (pa_cons (pv 1) (pa_cons pe_int (pa_cons pe_int pa_nil)))) (pg_name (i := 2) sc_law.nd rfl (Or.inl rfl)))
  (pss_cons (ps_asg (pe_lst (pa_cons pe_non (pa_cons (pe_lst (pa_cons (pv 2) pa_nil)) (pa_cons (pe_tup (pa_cons (pe_tup (pa_cons pe_str (pa_cons pe_int (pa_cons pe_int pa_nil)))) pa_nil)) pa_nil)))) (pg_name (i := 3) sc_law.nd rfl (Or.inl rfl)))
  (pss_cons (ps_asg (pe_op op_cat (pv 3) (pe_lst (pa_cons (pe_tup (pa_cons (pe_tup (pa_cons pe_str (pa_cons pe_int (pa_cons pe_int pa_nil)))) pa_nil)) (pa_cons (pe_tup (pa_cons (pe_tup (pa_cons pe_str (pa_cons pe_str (pa_cons pe_str pa_nil)))) pa_nil)) (pa_cons (pe_op op_repT (pe_tup (pa_cons (pe_tup (pa_cons pe_str (pa_cons pe_int (pa_cons pe_int pa_nil)))) pa_nil)) pe_int) pa_nil))))) (pg_name (i := 3) sc_law.nd rfl (Or.inl rfl)))
  (pss_cons (ps_asg (pe_ix ix_list (pe_op op_cat (pv 3) (pe_lst (pa_cons pe_str (pa_cons (pe_tup (pa_cons (pe_tup (pa_cons pe_str (pa_cons pe_int (pa_cons pe_int pa_nil)))) pa_nil)) pa_nil)))) (pe_d D_l_take (hr.mono (by decide)) rfl (pa_cons (pv 1) (pa_cons pe_int pa_nil))) (fun _ _ => rfl)) (pg_name (i := 4) sc_law.nd rfl (Or.inl rfl)))
  (pss_cons (ps_if (PW.pt (pw_or (pt_not (pt_val (pe_d D_l_rows_refused (hr.mono (by decide)) rfl (pa_cons (pv 2) (pa_cons (pv 4) pa_nil))))) (pw_or1 (pt_not (pt_val (pe_d D_l_words_refused (hr.mono (by decide)) rfl (pa_cons (pv 2) pa_nil))))))) (pss_one (ps_ret pe_bl)) pss_nil)
  (pss_cons (ps_for PassesOwn.never rfl (pi_tup (pe_tup (pa_cons (pe_un un_neg pe_int) (pa_cons (pe_op op_addI (pe_op op_powI pe_int pe_int) pe_int) (pa_cons pe_bl (pa_cons pe_non (pa_cons pe_str pa_nil))))))) (pg_name (i := 5) sc_law.nd rfl (Or.inl rfl))
  (pss_one (ps_for PassesOwn.never rfl (pi_tup (pe_tup (pa_cons (pe_glob rfl gf_come rfl) (pa_cons (pe_glob rfl gf_least_for rfl) pa_nil)))) (pg_name (i := 6) sc_law.nd rfl (Or.inl rfl))
  (pss_one (ps_if (pt_cmpR (op_neD hr.units) (pe_d D_l_refused (hr.mono (by decide)) rfl (pa_cons (pe_lamV (lt := lamD7) TB rfl hT (fun p hp e => hU p hp e) (by rfl) (by rfl) (by decide +kernel) (by rfl)) (pa_cons (pv 6) (pa_cons (pv 2) (pa_cons (pv 5) pa_nil))))) (pe_lst (pa_cons pe_str (pa_cons pe_bl pa_nil))) (nomark _)) (pss_one (ps_ret pe_bl)) pss_nil)))))
  (pss_cons (ps_for PassesOwn.never rfl (pi_tup (pe_tup (pa_cons (pe_un un_neg pe_int) (pa_cons pe_int (pa_cons pe_bl (pa_cons pe_non (pa_cons pe_str pa_nil))))))) (pg_name (i := 5) sc_law.nd rfl (Or.inl rfl))
  (pss_one (ps_if (pt_cmpR (op_neD hr.units) (pe_d D_l_refused (hr.mono (by decide)) rfl (pa_cons (pe_glob rfl gf_places rfl) (pa_cons (pv 2) (pa_cons (pv 5) (pa_cons pe_non pa_nil))))) (pe_lst (pa_cons pe_str (pa_cons pe_bl pa_nil))) (nomark _)) (pss_one (ps_ret pe_bl)) pss_nil)))
  (pss_cons (ps_for PassesOwn.never rfl (pi_tup (pe_tup (pa_cons pe_non (pa_cons (pe_tup pa_nil) (pa_cons (pe_tup (pa_cons pe_str (pa_cons pe_int (pa_cons pe_int pa_nil)))) (pa_cons (pe_lst (pa_cons pe_str (pa_cons pe_int (pa_cons pe_int pa_nil)))) (pa_cons (pe_tup (pa_cons pe_str (pa_cons pe_str (pa_cons pe_str pa_nil)))) (pa_cons (pe_tup (pa_cons (pe_tup (pa_cons pe_str (pa_cons pe_int (pa_cons pe_int pa_nil)))) pa_nil)) (pa_cons pe_str pa_nil))))))))) (pg_name (i := 5) sc_law.nd rfl (Or.inl rfl))
  (pss_one (ps_if (pt_cmpR (op_neD hr.units) (pe_d D_l_refused (hr.mono (by decide)) rfl (pa_cons (pe_lamV (lt := lamD8) TB rfl hT (fun p hp e => hU p hp e) (by rfl) (by rfl) (by decide +kernel) (by rfl)) (pa_cons (pv 5) (pa_cons pe_int (pa_cons pe_int pa_nil))))) (pe_lst (pa_cons pe_str (pa_cons pe_bl pa_nil))) (nomark _)) (pss_one (ps_ret pe_bl)) pss_nil)))
  (pss_one (ps_if (pt_cmpR (op_neD hr.units) (pe_d D_l_refused (hr.mono (by decide)) rfl (pa_cons (pe_lamV (lt := lamD9) TB rfl hT (fun p hp e => hU p hp e) (by rfl) (by rfl) (by decide +kernel) (by rfl)) (pa_cons (pe_d D_l_counter (hr.mono (by decide)) rfl (pa_cons (pv 1) pa_nil)) (pa_cons pe_int (pa_cons pe_int pa_nil))))) (pe_lst pa_nil) (nomark _)) (pss_one (ps_ret pe_bl)) pss_nil)))))))))))
  (pss_one (ps_ret (pe_cmpR (op_eqD hr.units) (pe_d D_l_refused (hr.mono (by decide)) rfl (pa_cons (pe_lamV (lt := lamD10) TB rfl hT (fun p hp e => hU p hp e) (by rfl) (by rfl) (by decide +kernel) (by rfl)) (pa_cons (pe_tup pa_nil) (pa_cons (pe_op op_powI pe_int pe_int) (pa_cons pe_int pa_nil))))) (pe_lst pa_nil) (nomark _)))))

end
theorem ne_fn {K : PySem.W.Frag} {f g : Addr} {o o' : Obj} {d d' : FuncData} (a b : Str) (h : List.lookup f K = some o) (h' : List.lookup g K = some o') (e : o.data = .func d) (e' : o'.data = .func d') (ea : d.name = a) (eb : d'.name = b) (n : a ≠ b) : f ≠ g := by
  intro z
  subst z
  rw [h] at h'
  cases h'
  rw [e] at e'
  cases e'
  exact n (ea.symm.trans eb)
theorem all_mk {l : PySem.W.OpenLaw} {w : World} {K : PySem.W.Frag} {h : Heap} {mg : Str → Option Value} {fa : Addr} {tS : Tok} {tF : Tok} {tM : Tok} (X : K.In h) (G : h.Ns mainGlobals mg) (hfa : mg "law" = some (.ref fa))
    {f0 : Addr} {od0 an0 : Option Addr} {sl0 : Array (Option Value)} {oc0 kV0 dc0 pm0 cd0 ct0 : Value}
    (a0 : PySem.W.nsIn K mainGlobals "is_within" = some (some (.ref f0))) (l0 : K.lookup f0 = some ⟨oc0, od0, .func (PySem.W.fnOf "is_within" "is_within" (defArgs s_is_within) (defBody s_is_within) (defScope s_is_within) .none kV0 dc0 pm0 an0 cd0 ct0), sl0⟩) (c0 : PySem.W.codeIn K cd0 "is_within" = true) (k0 : PySem.W.keepIn K (.ref f0) = true)
    {f1 : Addr} {od1 an1 : Option Addr} {sl1 : Array (Option Value)} {oc1 kV1 dc1 pm1 cd1 ct1 : Value}
    (a1 : PySem.W.nsIn K mainGlobals "is_letter" = some (some (.ref f1))) (l1 : K.lookup f1 = some ⟨oc1, od1, .func (PySem.W.fnOf "is_letter" "is_letter" (defArgs s_is_letter) (defBody s_is_letter) (defScope s_is_letter) .none kV1 dc1 pm1 an1 cd1 ct1), sl1⟩) (c1 : PySem.W.codeIn K cd1 "is_letter" = true) (k1 : PySem.W.keepIn K (.ref f1) = true)
    {f2 : Addr} {od2 an2 : Option Addr} {sl2 : Array (Option Value)} {oc2 kV2 dc2 pm2 cd2 ct2 : Value}
    (a2 : PySem.W.nsIn K mainGlobals "is_word" = some (some (.ref f2))) (l2 : K.lookup f2 = some ⟨oc2, od2, .func (PySem.W.fnOf "is_word" "is_word" (defArgs s_is_word) (defBody s_is_word) (defScope s_is_word) .none kV2 dc2 pm2 an2 cd2 ct2), sl2⟩) (c2 : PySem.W.codeIn K cd2 "is_word" = true) (k2 : PySem.W.keepIn K (.ref f2) = true)
    {f3 : Addr} {od3 an3 : Option Addr} {sl3 : Array (Option Value)} {oc3 kV3 dc3 pm3 cd3 ct3 : Value}
    (a3 : PySem.W.nsIn K mainGlobals "is_one" = some (some (.ref f3))) (l3 : K.lookup f3 = some ⟨oc3, od3, .func (PySem.W.fnOf "is_one" "is_one" (defArgs s_is_one) (defBody s_is_one) (defScope s_is_one) .none kV3 dc3 pm3 an3 cd3 ct3), sl3⟩) (c3 : PySem.W.codeIn K cd3 "is_one" = true) (k3 : PySem.W.keepIn K (.ref f3) = true)
    {f4 : Addr} {od4 an4 : Option Addr} {sl4 : Array (Option Value)} {oc4 kV4 dc4 pm4 cd4 ct4 : Value}
    (a4 : PySem.W.nsIn K mainGlobals "is_row" = some (some (.ref f4))) (l4 : K.lookup f4 = some ⟨oc4, od4, .func (PySem.W.fnOf "is_row" "is_row" (defArgs s_is_row) (defBody s_is_row) (defScope s_is_row) .none kV4 dc4 pm4 an4 cd4 ct4), sl4⟩) (c4 : PySem.W.codeIn K cd4 "is_row" = true) (k4 : PySem.W.keepIn K (.ref f4) = true)
    {f5 : Addr} {od5 an5 : Option Addr} {sl5 : Array (Option Value)} {oc5 kV5 dc5 pm5 cd5 ct5 : Value}
    (a5 : PySem.W.nsIn K mainGlobals "need_row" = some (some (.ref f5))) (l5 : K.lookup f5 = some ⟨oc5, od5, .func (PySem.W.fnOf "need_row" "need_row" (defArgs s_need_row) (defBody s_need_row) (defScope s_need_row) .none kV5 dc5 pm5 an5 cd5 ct5), sl5⟩) (c5 : PySem.W.codeIn K cd5 "need_row" = true) (k5 : PySem.W.keepIn K (.ref f5) = true)
    {f6 : Addr} {od6 an6 : Option Addr} {sl6 : Array (Option Value)} {oc6 kV6 dc6 pm6 cd6 ct6 : Value}
    (a6 : PySem.W.nsIn K mainGlobals "need_word" = some (some (.ref f6))) (l6 : K.lookup f6 = some ⟨oc6, od6, .func (PySem.W.fnOf "need_word" "need_word" (defArgs s_need_word) (defBody s_need_word) (defScope s_need_word) .none kV6 dc6 pm6 an6 cd6 ct6), sl6⟩) (c6 : PySem.W.codeIn K cd6 "need_word" = true) (k6 : PySem.W.keepIn K (.ref f6) = true)
    {f7 : Addr} {od7 an7 : Option Addr} {sl7 : Array (Option Value)} {oc7 kV7 dc7 pm7 cd7 ct7 : Value}
    (a7 : PySem.W.nsIn K mainGlobals "said_by" = some (some (.ref f7))) (l7 : K.lookup f7 = some ⟨oc7, od7, .func (PySem.W.fnOf "said_by" "said_by" (defArgs s_said_by) (defBody s_said_by) (defScope s_said_by) .none kV7 dc7 pm7 an7 cd7 ct7), sl7⟩) (c7 : PySem.W.codeIn K cd7 "said_by" = true) (k7 : PySem.W.keepIn K (.ref f7) = true)
    {f8 : Addr} {od8 an8 : Option Addr} {sl8 : Array (Option Value)} {oc8 kV8 dc8 pm8 cd8 ct8 : Value}
    (a8 : PySem.W.nsIn K mainGlobals "comes_out" = some (some (.ref f8))) (l8 : K.lookup f8 = some ⟨oc8, od8, .func (PySem.W.fnOf "comes_out" "comes_out" (defArgs s_comes_out) (defBody s_comes_out) (defScope s_comes_out) .none kV8 dc8 pm8 an8 cd8 ct8), sl8⟩) (c8 : PySem.W.codeIn K cd8 "comes_out" = true) (k8 : PySem.W.keepIn K (.ref f8) = true)
    {f9 : Addr} {od9 an9 : Option Addr} {sl9 : Array (Option Value)} {oc9 kV9 dc9 pm9 cd9 ct9 : Value}
    (a9 : PySem.W.nsIn K mainGlobals "out" = some (some (.ref f9))) (l9 : K.lookup f9 = some ⟨oc9, od9, .func (PySem.W.fnOf "out" "out" (defArgs s_out) (defBody s_out) (defScope s_out) .none kV9 dc9 pm9 an9 cd9 ct9), sl9⟩) (c9 : PySem.W.codeIn K cd9 "out" = true) (k9 : PySem.W.keepIn K (.ref f9) = true)
    {f10 : Addr} {od10 an10 : Option Addr} {sl10 : Array (Option Value)} {oc10 kV10 dc10 pm10 cd10 ct10 : Value}
    (a10 : PySem.W.nsIn K mainGlobals "passed" = some (some (.ref f10))) (l10 : K.lookup f10 = some ⟨oc10, od10, .func (PySem.W.fnOf "passed" "passed" (defArgs s_passed) (defBody s_passed) (defScope s_passed) .none kV10 dc10 pm10 an10 cd10 ct10), sl10⟩) (c10 : PySem.W.codeIn K cd10 "passed" = true) (k10 : PySem.W.keepIn K (.ref f10) = true)
    {f11 : Addr} {od11 an11 : Option Addr} {sl11 : Array (Option Value)} {oc11 kV11 dc11 pm11 cd11 ct11 : Value}
    (a11 : PySem.W.nsIn K mainGlobals "wanted" = some (some (.ref f11))) (l11 : K.lookup f11 = some ⟨oc11, od11, .func (PySem.W.fnOf "wanted" "wanted" (defArgs s_wanted) (defBody s_wanted) (defScope s_wanted) .none kV11 dc11 pm11 an11 cd11 ct11), sl11⟩) (c11 : PySem.W.codeIn K cd11 "wanted" = true) (k11 : PySem.W.keepIn K (.ref f11) = true)
    {f12 : Addr} {od12 an12 : Option Addr} {sl12 : Array (Option Value)} {oc12 kV12 dc12 pm12 cd12 ct12 : Value}
    (a12 : PySem.W.nsIn K mainGlobals "all_come" = some (some (.ref f12))) (l12 : K.lookup f12 = some ⟨oc12, od12, .func (PySem.W.fnOf "all_come" "all_come" (defArgs s_all_come) (defBody s_all_come) (defScope s_all_come) .none kV12 dc12 pm12 an12 cd12 ct12), sl12⟩) (c12 : PySem.W.codeIn K cd12 "all_come" = true) (k12 : PySem.W.keepIn K (.ref f12) = true)
    {f13 : Addr} {od13 an13 : Option Addr} {sl13 : Array (Option Value)} {oc13 kV13 dc13 pm13 cd13 ct13 : Value}
    (a13 : PySem.W.nsIn K mainGlobals "fewest_signs" = some (some (.ref f13))) (l13 : K.lookup f13 = some ⟨oc13, od13, .func (PySem.W.fnOf "fewest_signs" "fewest_signs" (defArgs s_fewest_signs) (defBody s_fewest_signs) (defScope s_fewest_signs) .none kV13 dc13 pm13 an13 cd13 ct13), sl13⟩) (c13 : PySem.W.codeIn K cd13 "fewest_signs" = true) (k13 : PySem.W.keepIn K (.ref f13) = true)
    {f14 : Addr} {od14 an14 : Option Addr} {sl14 : Array (Option Value)} {oc14 kV14 dc14 pm14 cd14 ct14 : Value}
    (a14 : PySem.W.nsIn K mainGlobals "need_many" = some (some (.ref f14))) (l14 : K.lookup f14 = some ⟨oc14, od14, .func (PySem.W.fnOf "need_many" "need_many" (defArgs s_need_many) (defBody s_need_many) (defScope s_need_many) .none kV14 dc14 pm14 an14 cd14 ct14), sl14⟩) (c14 : PySem.W.codeIn K cd14 "need_many" = true) (k14 : PySem.W.keepIn K (.ref f14) = true)
    {f15 : Addr} {od15 an15 : Option Addr} {sl15 : Array (Option Value)} {oc15 kV15 dc15 pm15 cd15 ct15 : Value}
    (a15 : PySem.W.nsIn K mainGlobals "come" = some (some (.ref f15))) (l15 : K.lookup f15 = some ⟨oc15, od15, .func (PySem.W.fnOf "come" "come" (defArgs s_come) (defBody s_come) (defScope s_come) .none kV15 dc15 pm15 an15 cd15 ct15), sl15⟩) (c15 : PySem.W.codeIn K cd15 "come" = true) (k15 : PySem.W.keepIn K (.ref f15) = true)
    {f16 : Addr} {od16 an16 : Option Addr} {sl16 : Array (Option Value)} {oc16 kV16 dc16 pm16 cd16 ct16 : Value}
    (a16 : PySem.W.nsIn K mainGlobals "least_for" = some (some (.ref f16))) (l16 : K.lookup f16 = some ⟨oc16, od16, .func (PySem.W.fnOf "least_for" "least_for" (defArgs s_least_for) (defBody s_least_for) (defScope s_least_for) .none kV16 dc16 pm16 an16 cd16 ct16), sl16⟩) (c16 : PySem.W.codeIn K cd16 "least_for" = true) (k16 : PySem.W.keepIn K (.ref f16) = true)
    {f17 : Addr} {od17 an17 : Option Addr} {sl17 : Array (Option Value)} {oc17 kV17 dc17 pm17 cd17 ct17 : Value}
    (a17 : PySem.W.nsIn K mainGlobals "heard_as" = some (some (.ref f17))) (l17 : K.lookup f17 = some ⟨oc17, od17, .func (PySem.W.fnOf "heard_as" "heard_as" (defArgs s_heard_as) (defBody s_heard_as) (defScope s_heard_as) .none kV17 dc17 pm17 an17 cd17 ct17), sl17⟩) (c17 : PySem.W.codeIn K cd17 "heard_as" = true) (k17 : PySem.W.keepIn K (.ref f17) = true)
    {f18 : Addr} {od18 an18 : Option Addr} {sl18 : Array (Option Value)} {oc18 kV18 dc18 pm18 cd18 ct18 : Value}
    (a18 : PySem.W.nsIn K mainGlobals "letter_out" = some (some (.ref f18))) (l18 : K.lookup f18 = some ⟨oc18, od18, .func (PySem.W.fnOf "letter_out" "letter_out" (defArgs s_letter_out) (defBody s_letter_out) (defScope s_letter_out) .none kV18 dc18 pm18 an18 cd18 ct18), sl18⟩) (c18 : PySem.W.codeIn K cd18 "letter_out" = true) (k18 : PySem.W.keepIn K (.ref f18) = true)
    {f19 : Addr} {od19 an19 : Option Addr} {sl19 : Array (Option Value)} {oc19 kV19 dc19 pm19 cd19 ct19 : Value}
    (a19 : PySem.W.nsIn K mainGlobals "common" = some (some (.ref f19))) (l19 : K.lookup f19 = some ⟨oc19, od19, .func (PySem.W.fnOf "common" "common" (defArgs s_common) (defBody s_common) (defScope s_common) .none kV19 dc19 pm19 an19 cd19 ct19), sl19⟩) (c19 : PySem.W.codeIn K cd19 "common" = true) (k19 : PySem.W.keepIn K (.ref f19) = true)
    {f20 : Addr} {od20 an20 : Option Addr} {sl20 : Array (Option Value)} {oc20 kV20 dc20 pm20 cd20 ct20 : Value}
    (a20 : PySem.W.nsIn K mainGlobals "whole_round" = some (some (.ref f20))) (l20 : K.lookup f20 = some ⟨oc20, od20, .func (PySem.W.fnOf "whole_round" "whole_round" (defArgs s_whole_round) (defBody s_whole_round) (defScope s_whole_round) .none kV20 dc20 pm20 an20 cd20 ct20), sl20⟩) (c20 : PySem.W.codeIn K cd20 "whole_round" = true) (k20 : PySem.W.keepIn K (.ref f20) = true)
    {f21 : Addr} {od21 an21 : Option Addr} {sl21 : Array (Option Value)} {oc21 kV21 dc21 pm21 cd21 ct21 : Value}
    (a21 : PySem.W.nsIn K mainGlobals "steps" = some (some (.ref f21))) (l21 : K.lookup f21 = some ⟨oc21, od21, .func (PySem.W.fnOf "steps" "steps" (defArgs s_steps) (defBody s_steps) (defScope s_steps) .none kV21 dc21 pm21 an21 cd21 ct21), sl21⟩) (c21 : PySem.W.codeIn K cd21 "steps" = true) (k21 : PySem.W.keepIn K (.ref f21) = true)
    {f22 : Addr} {od22 an22 : Option Addr} {sl22 : Array (Option Value)} {oc22 kV22 dc22 pm22 cd22 ct22 : Value}
    (a22 : PySem.W.nsIn K mainGlobals "least_round" = some (some (.ref f22))) (l22 : K.lookup f22 = some ⟨oc22, od22, .func (PySem.W.fnOf "least_round" "least_round" (defArgs s_least_round) (defBody s_least_round) (defScope s_least_round) .none kV22 dc22 pm22 an22 cd22 ct22), sl22⟩) (c22 : PySem.W.codeIn K cd22 "least_round" = true) (k22 : PySem.W.keepIn K (.ref f22) = true)
    {f23 : Addr} {od23 an23 : Option Addr} {sl23 : Array (Option Value)} {oc23 kV23 dc23 pm23 cd23 ct23 : Value}
    (a23 : PySem.W.nsIn K mainGlobals "round_of" = some (some (.ref f23))) (l23 : K.lookup f23 = some ⟨oc23, od23, .func (PySem.W.fnOf "round_of" "round_of" (defArgs s_round_of) (defBody s_round_of) (defScope s_round_of) .none kV23 dc23 pm23 an23 cd23 ct23), sl23⟩) (c23 : PySem.W.codeIn K cd23 "round_of" = true) (k23 : PySem.W.keepIn K (.ref f23) = true)
    {f24 : Addr} {od24 an24 : Option Addr} {sl24 : Array (Option Value)} {oc24 kV24 dc24 pm24 cd24 ct24 : Value}
    (a24 : PySem.W.nsIn K mainGlobals "all_lengths" = some (some (.ref f24))) (l24 : K.lookup f24 = some ⟨oc24, od24, .func (PySem.W.fnOf "all_lengths" "all_lengths" (defArgs s_all_lengths) (defBody s_all_lengths) (defScope s_all_lengths) .none kV24 dc24 pm24 an24 cd24 ct24), sl24⟩) (c24 : PySem.W.codeIn K cd24 "all_lengths" = true) (k24 : PySem.W.keepIn K (.ref f24) = true)
    {f25 : Addr} {od25 an25 : Option Addr} {sl25 : Array (Option Value)} {oc25 kV25 dc25 pm25 cd25 ct25 : Value}
    (a25 : PySem.W.nsIn K mainGlobals "lengths" = some (some (.ref f25))) (l25 : K.lookup f25 = some ⟨oc25, od25, .func (PySem.W.fnOf "lengths" "lengths" (defArgs s_lengths) (defBody s_lengths) (defScope s_lengths) .none kV25 dc25 pm25 an25 cd25 ct25), sl25⟩) (c25 : PySem.W.codeIn K cd25 "lengths" = true) (k25 : PySem.W.keepIn K (.ref f25) = true)
    {f26 : Addr} {od26 an26 : Option Addr} {sl26 : Array (Option Value)} {oc26 kV26 dc26 pm26 cd26 ct26 : Value}
    (a26 : PySem.W.nsIn K mainGlobals "letters_at" = some (some (.ref f26))) (l26 : K.lookup f26 = some ⟨oc26, od26, .func (PySem.W.fnOf "letters_at" "letters_at" (defArgs s_letters_at) (defBody s_letters_at) (defScope s_letters_at) .none kV26 dc26 pm26 an26 cd26 ct26), sl26⟩) (c26 : PySem.W.codeIn K cd26 "letters_at" = true) (k26 : PySem.W.keepIn K (.ref f26) = true)
    {f27 : Addr} {od27 an27 : Option Addr} {sl27 : Array (Option Value)} {oc27 kV27 dc27 pm27 cd27 ct27 : Value}
    (a27 : PySem.W.nsIn K mainGlobals "places" = some (some (.ref f27))) (l27 : K.lookup f27 = some ⟨oc27, od27, .func (PySem.W.fnOf "places" "places" (defArgs s_places) (defBody s_places) (defScope s_places) .none kV27 dc27 pm27 an27 cd27 ct27), sl27⟩) (c27 : PySem.W.codeIn K cd27 "places" = true) (k27 : PySem.W.keepIn K (.ref f27) = true)
    {f28 : Addr} {od28 an28 : Option Addr} {sl28 : Array (Option Value)} {oc28 kV28 dc28 pm28 cd28 ct28 : Value}
    (a28 : PySem.W.nsIn K mainGlobals "all_places" = some (some (.ref f28))) (l28 : K.lookup f28 = some ⟨oc28, od28, .func (PySem.W.fnOf "all_places" "all_places" (defArgs s_all_places) (defBody s_all_places) (defScope s_all_places) .none kV28 dc28 pm28 an28 cd28 ct28), sl28⟩) (c28 : PySem.W.codeIn K cd28 "all_places" = true) (k28 : PySem.W.keepIn K (.ref f28) = true)
    {f29 : Addr} {od29 an29 : Option Addr} {sl29 : Array (Option Value)} {oc29 kV29 dc29 pm29 cd29 ct29 : Value}
    (a29 : PySem.W.nsIn K mainGlobals "how_many" = some (some (.ref f29))) (l29 : K.lookup f29 = some ⟨oc29, od29, .func (PySem.W.fnOf "how_many" "how_many" (defArgs s_how_many) (defBody s_how_many) (defScope s_how_many) .none kV29 dc29 pm29 an29 cd29 ct29), sl29⟩) (c29 : PySem.W.codeIn K cd29 "how_many" = true) (k29 : PySem.W.keepIn K (.ref f29) = true)
    {f30 : Addr} {od30 an30 : Option Addr} {sl30 : Array (Option Value)} {oc30 kV30 dc30 pm30 cd30 ct30 : Value}
    (a30 : PySem.W.nsIn K mainGlobals "first_said" = some (some (.ref f30))) (l30 : K.lookup f30 = some ⟨oc30, od30, .func (PySem.W.fnOf "first_said" "first_said" (defArgs s_first_said) (defBody s_first_said) (defScope s_first_said) .none kV30 dc30 pm30 an30 cd30 ct30), sl30⟩) (c30 : PySem.W.codeIn K cd30 "first_said" = true) (k30 : PySem.W.keepIn K (.ref f30) = true)
    {f31 : Addr} {od31 an31 : Option Addr} {sl31 : Array (Option Value)} {oc31 kV31 dc31 pm31 cd31 ct31 : Value}
    (a31 : PySem.W.nsIn K mainGlobals "come_alike" = some (some (.ref f31))) (l31 : K.lookup f31 = some ⟨oc31, od31, .func (PySem.W.fnOf "come_alike" "come_alike" (defArgs s_come_alike) (defBody s_come_alike) (defScope s_come_alike) .none kV31 dc31 pm31 an31 cd31 ct31), sl31⟩) (c31 : PySem.W.codeIn K cd31 "come_alike" = true) (k31 : PySem.W.keepIn K (.ref f31) = true)
    {f32 : Addr} {od32 an32 : Option Addr} {sl32 : Array (Option Value)} {oc32 kV32 dc32 pm32 cd32 ct32 : Value}
    (a32 : PySem.W.nsIn K mainGlobals "parted" = some (some (.ref f32))) (l32 : K.lookup f32 = some ⟨oc32, od32, .func (PySem.W.fnOf "parted" "parted" (defArgs s_parted) (defBody s_parted) (defScope s_parted) .none kV32 dc32 pm32 an32 cd32 ct32), sl32⟩) (c32 : PySem.W.codeIn K cd32 "parted" = true) (k32 : PySem.W.keepIn K (.ref f32) = true)
    {f33 : Addr} {od33 an33 : Option Addr} {sl33 : Array (Option Value)} {oc33 kV33 dc33 pm33 cd33 ct33 : Value}
    (a33 : PySem.W.nsIn K mainGlobals "are_alike" = some (some (.ref f33))) (l33 : K.lookup f33 = some ⟨oc33, od33, .func (PySem.W.fnOf "are_alike" "are_alike" (defArgs s_are_alike) (defBody s_are_alike) (defScope s_are_alike) .none kV33 dc33 pm33 an33 cd33 ct33), sl33⟩) (c33 : PySem.W.codeIn K cd33 "are_alike" = true) (k33 : PySem.W.keepIn K (.ref f33) = true)
    {f34 : Addr} {od34 an34 : Option Addr} {sl34 : Array (Option Value)} {oc34 kV34 dc34 pm34 cd34 ct34 : Value}
    (a34 : PySem.W.nsIn K mainGlobals "parting" = some (some (.ref f34))) (l34 : K.lookup f34 = some ⟨oc34, od34, .func (PySem.W.fnOf "parting" "parting" (defArgs s_parting) (defBody s_parting) (defScope s_parting) .none kV34 dc34 pm34 an34 cd34 ct34), sl34⟩) (c34 : PySem.W.codeIn K cd34 "parting" = true) (k34 : PySem.W.keepIn K (.ref f34) = true)
    {f35 : Addr} {od35 an35 : Option Addr} {sl35 : Array (Option Value)} {oc35 kV35 dc35 pm35 cd35 ct35 : Value}
    (a35 : PySem.W.nsIn K mainGlobals "does_nothing" = some (some (.ref f35))) (l35 : K.lookup f35 = some ⟨oc35, od35, .func (PySem.W.fnOf "does_nothing" "does_nothing" (defArgs s_does_nothing) (defBody s_does_nothing) (defScope s_does_nothing) .none kV35 dc35 pm35 an35 cd35 ct35), sl35⟩) (c35 : PySem.W.codeIn K cd35 "does_nothing" = true) (k35 : PySem.W.keepIn K (.ref f35) = true)
    {f36 : Addr} {od36 an36 : Option Addr} {sl36 : Array (Option Value)} {oc36 kV36 dc36 pm36 cd36 ct36 : Value}
    (a36 : PySem.W.nsIn K mainGlobals "undone_by" = some (some (.ref f36))) (l36 : K.lookup f36 = some ⟨oc36, od36, .func (PySem.W.fnOf "undone_by" "undone_by" (defArgs s_undone_by) (defBody s_undone_by) (defScope s_undone_by) .none kV36 dc36 pm36 an36 cd36 ct36), sl36⟩) (c36 : PySem.W.codeIn K cd36 "undone_by" = true) (k36 : PySem.W.keepIn K (.ref f36) = true)
    {f37 : Addr} {od37 an37 : Option Addr} {sl37 : Array (Option Value)} {oc37 kV37 dc37 pm37 cd37 ct37 : Value}
    (a37 : PySem.W.nsIn K mainGlobals "all_counters" = some (some (.ref f37))) (l37 : K.lookup f37 = some ⟨oc37, od37, .func (PySem.W.fnOf "all_counters" "all_counters" (defArgs s_all_counters) (defBody s_all_counters) (defScope s_all_counters) .none kV37 dc37 pm37 an37 cd37 ct37), sl37⟩) (c37 : PySem.W.codeIn K cd37 "all_counters" = true) (k37 : PySem.W.keepIn K (.ref f37) = true)
    {f38 : Addr} {od38 an38 : Option Addr} {sl38 : Array (Option Value)} {oc38 kV38 dc38 pm38 cd38 ct38 : Value}
    (a38 : PySem.W.nsIn K mainGlobals "is_pair" = some (some (.ref f38))) (l38 : K.lookup f38 = some ⟨oc38, od38, .func (PySem.W.fnOf "is_pair" "is_pair" (defArgs s_is_pair) (defBody s_is_pair) (defScope s_is_pair) .none kV38 dc38 pm38 an38 cd38 ct38), sl38⟩) (c38 : PySem.W.codeIn K cd38 "is_pair" = true) (k38 : PySem.W.keepIn K (.ref f38) = true)
    {f39 : Addr} {od39 an39 : Option Addr} {sl39 : Array (Option Value)} {oc39 kV39 dc39 pm39 cd39 ct39 : Value}
    (a39 : PySem.W.nsIn K mainGlobals "who_can" = some (some (.ref f39))) (l39 : K.lookup f39 = some ⟨oc39, od39, .func (PySem.W.fnOf "who_can" "who_can" (defArgs s_who_can) (defBody s_who_can) (defScope s_who_can) .none kV39 dc39 pm39 an39 cd39 ct39), sl39⟩) (c39 : PySem.W.codeIn K cd39 "who_can" = true) (k39 : PySem.W.keepIn K (.ref f39) = true)
    {f40 : Addr} {od40 an40 : Option Addr} {sl40 : Array (Option Value)} {oc40 kV40 dc40 pm40 cd40 ct40 : Value}
    (a40 : PySem.W.nsIn K mainGlobals "_law_cell_at" = some (some (.ref f40))) (l40 : K.lookup f40 = some ⟨oc40, od40, .func (PySem.W.fnOf "_law_cell_at" "_law_cell_at" (defArgs s_l_cell_at) (defBody s_l_cell_at) (defScope s_l_cell_at) .none kV40 dc40 pm40 an40 cd40 ct40), sl40⟩) (c40 : PySem.W.codeIn K cd40 "_law_cell_at" = true) (k40 : PySem.W.keepIn K (.ref f40) = true)
    {f41 : Addr} {od41 an41 : Option Addr} {sl41 : Array (Option Value)} {oc41 kV41 dc41 pm41 cd41 ct41 : Value}
    (a41 : PySem.W.nsIn K mainGlobals "_law_draws" = some (some (.ref f41))) (l41 : K.lookup f41 = some ⟨oc41, od41, .func (PySem.W.fnOf "_law_draws" "_law_draws" (defArgs s_l_draws) (defBody s_l_draws) (defScope s_l_draws) .none kV41 dc41 pm41 an41 cd41 ct41), sl41⟩) (c41 : PySem.W.codeIn K cd41 "_law_draws" = true) (k41 : PySem.W.keepIn K (.ref f41) = true)
    {f42 : Addr} {od42 an42 : Option Addr} {sl42 : Array (Option Value)} {oc42 kV42 dc42 pm42 cd42 ct42 : Value}
    (a42 : PySem.W.nsIn K mainGlobals "_law_bag" = some (some (.ref f42))) (l42 : K.lookup f42 = some ⟨oc42, od42, .func (PySem.W.fnOf "_law_bag" "_law_bag" (defArgs s_l_bag) (defBody s_l_bag) (defScope s_l_bag) .none kV42 dc42 pm42 an42 cd42 ct42), sl42⟩) (c42 : PySem.W.codeIn K cd42 "_law_bag" = true) (k42 : PySem.W.keepIn K (.ref f42) = true)
    {f43 : Addr} {od43 an43 : Option Addr} {sl43 : Array (Option Value)} {oc43 kV43 dc43 pm43 cd43 ct43 : Value}
    (a43 : PySem.W.nsIn K mainGlobals "_law_bags" = some (some (.ref f43))) (l43 : K.lookup f43 = some ⟨oc43, od43, .func (PySem.W.fnOf "_law_bags" "_law_bags" (defArgs s_l_bags) (defBody s_l_bags) (defScope s_l_bags) .none kV43 dc43 pm43 an43 cd43 ct43), sl43⟩) (c43 : PySem.W.codeIn K cd43 "_law_bags" = true) (k43 : PySem.W.keepIn K (.ref f43) = true)
    {f44 : Addr} {od44 an44 : Option Addr} {sl44 : Array (Option Value)} {oc44 kV44 dc44 pm44 cd44 ct44 : Value}
    (a44 : PySem.W.nsIn K mainGlobals "_law_take" = some (some (.ref f44))) (l44 : K.lookup f44 = some ⟨oc44, od44, .func (PySem.W.fnOf "_law_take" "_law_take" (defArgs s_l_take) (defBody s_l_take) (defScope s_l_take) .none kV44 dc44 pm44 an44 cd44 ct44), sl44⟩) (c44 : PySem.W.codeIn K cd44 "_law_take" = true) (k44 : PySem.W.keepIn K (.ref f44) = true)
    {f45 : Addr} {od45 an45 : Option Addr} {sl45 : Array (Option Value)} {oc45 kV45 dc45 pm45 cd45 ct45 : Value}
    (a45 : PySem.W.nsIn K mainGlobals "_law_counter" = some (some (.ref f45))) (l45 : K.lookup f45 = some ⟨oc45, od45, .func (PySem.W.fnOf "_law_counter" "_law_counter" (defArgs s_l_counter) (defBody s_l_counter) (defScope s_l_counter) .none kV45 dc45 pm45 an45 cd45 ct45), sl45⟩) (c45 : PySem.W.codeIn K cd45 "_law_counter" = true) (k45 : PySem.W.keepIn K (.ref f45) = true)
    {f46 : Addr} {od46 an46 : Option Addr} {sl46 : Array (Option Value)} {oc46 kV46 dc46 pm46 cd46 ct46 : Value}
    (a46 : PySem.W.nsIn K mainGlobals "_law_mouths" = some (some (.ref f46))) (l46 : K.lookup f46 = some ⟨oc46, od46, .func (PySem.W.fnOf "_law_mouths" "_law_mouths" (defArgs s_l_mouths) (defBody s_l_mouths) (defScope s_l_mouths) .none kV46 dc46 pm46 an46 cd46 ct46), sl46⟩) (c46 : PySem.W.codeIn K cd46 "_law_mouths" = true) (k46 : PySem.W.keepIn K (.ref f46) = true)
    {f47 : Addr} {od47 an47 : Option Addr} {sl47 : Array (Option Value)} {oc47 kV47 dc47 pm47 cd47 ct47 : Value}
    (a47 : PySem.W.nsIn K mainGlobals "_law_refused" = some (some (.ref f47))) (l47 : K.lookup f47 = some ⟨oc47, od47, .func (PySem.W.fnOf "_law_refused" "_law_refused" (defArgs s_l_refused) (defBody s_l_refused) (defScope s_l_refused) .none kV47 dc47 pm47 an47 cd47 ct47), sl47⟩) (c47 : PySem.W.codeIn K cd47 "_law_refused" = true) (k47 : PySem.W.keepIn K (.ref f47) = true)
    {cc48 PP48 : Addr} {co48 : Option Addr} {cv48 : Array Value} {cs48 : Array (Option Value)} {f48 : Addr} {od48 an48 : Option Addr} {sl48 : Array (Option Value)} {oc48 kV48 dc48 pm48 ct48 : Value}
    (a48 : PySem.W.nsIn K mainGlobals "_law_rows_refused" = some (some (.ref f48))) (l48 : K.lookup f48 = some ⟨oc48, od48, .func (PySem.W.fnOf "_law_rows_refused" "_law_rows_refused" (defArgs s_l_rows_refused) (defBody s_l_rows_refused) (defScope s_l_rows_refused) .none kV48 dc48 pm48 an48 (.ref cc48) ct48), sl48⟩) (c48 : PySem.W.codeIn K (.ref cc48) "_law_rows_refused" = true) (k48 : PySem.W.keepIn K (.ref f48) = true)
    (kc48 : K.lookup cc48 = some ⟨.type "code", co48, .fields cv48, cs48⟩) (kp48 : cv48[11]? = some (.ref PP48)) (kh48 : PySem.W.codeHdIn K cc48 PP48 = true) (kn48 : K.lookup PP48 = none) (kt48 : h.get? PP48 = some (PySem.W.tabObj #[]))
    {cc49 PP49 : Addr} {co49 : Option Addr} {cv49 : Array Value} {cs49 : Array (Option Value)} {f49 : Addr} {od49 an49 : Option Addr} {sl49 : Array (Option Value)} {oc49 kV49 dc49 pm49 ct49 : Value}
    (a49 : PySem.W.nsIn K mainGlobals "_law_words_refused" = some (some (.ref f49))) (l49 : K.lookup f49 = some ⟨oc49, od49, .func (PySem.W.fnOf "_law_words_refused" "_law_words_refused" (defArgs s_l_words_refused) (defBody s_l_words_refused) (defScope s_l_words_refused) .none kV49 dc49 pm49 an49 (.ref cc49) ct49), sl49⟩) (c49 : PySem.W.codeIn K (.ref cc49) "_law_words_refused" = true) (k49 : PySem.W.keepIn K (.ref f49) = true)
    (kc49 : K.lookup cc49 = some ⟨.type "code", co49, .fields cv49, cs49⟩) (kp49 : cv49[11]? = some (.ref PP49)) (kh49 : PySem.W.codeHdIn K cc49 PP49 = true) (kn49 : K.lookup PP49 = none) (kt49 : h.get? PP49 = some (PySem.W.tabObj #[]))
    {cc50 PP50 : Addr} {co50 : Option Addr} {cv50 : Array Value} {cs50 : Array (Option Value)} {f50 : Addr} {od50 an50 : Option Addr} {sl50 : Array (Option Value)} {oc50 kV50 dc50 pm50 ct50 : Value}
    (a50 : PySem.W.nsIn K mainGlobals "law" = some (some (.ref f50))) (l50 : K.lookup f50 = some ⟨oc50, od50, .func (PySem.W.fnOf "law" "law" (defArgs s_law) (defBody s_law) (defScope s_law) .none kV50 dc50 pm50 an50 (.ref cc50) ct50), sl50⟩) (c50 : PySem.W.codeIn K (.ref cc50) "law" = true) (k50 : PySem.W.keepIn K (.ref f50) = true)
    (kc50 : K.lookup cc50 = some ⟨.type "code", co50, .fields cv50, cs50⟩) (kp50 : cv50[11]? = some (.ref PP50)) (kh50 : PySem.W.codeHdIn K cc50 PP50 = true) (kn50 : K.lookup PP50 = none) (kt50 : h.get? PP50 = some (PySem.W.tabObj #[]))
    (kd48_49 : PP48 ≠ PP49)
    (kd48_50 : PP48 ≠ PP50)
    (kd49_50 : PP49 ≠ PP50)
    (z_isinstance : PySem.W.nsIn K mainGlobals "isinstance" = some none)
    (z_bool : PySem.W.nsIn K mainGlobals "bool" = some none)
    (z_int : PySem.W.nsIn K mainGlobals "int" = some none)
    (z_len : PySem.W.nsIn K mainGlobals "len" = some none)
    (z_str : PySem.W.nsIn K mainGlobals "str" = some none)
    (z_all : PySem.W.nsIn K mainGlobals "all" = some none)
    (z_tuple : PySem.W.nsIn K mainGlobals "tuple" = some none)
    (z_range : PySem.W.nsIn K mainGlobals "range" = some none)
    (z_zip : PySem.W.nsIn K mainGlobals "zip" = some none)
    (z_min : PySem.W.nsIn K mainGlobals "min" = some none)
    (z_max : PySem.W.nsIn K mainGlobals "max" = some none)
    (z_ValueError : PySem.W.nsIn K mainGlobals "ValueError" = some none)
    (y_SMALL : PySem.W.nsIn K mainGlobals "SMALL" = some (some (.str "abcdefghijklmnopqrstuvwxyz" tS)))
    (y_FAR : PySem.W.nsIn K mainGlobals "FAR" = some (some (.int 1000000000000000 tF)))
    (y_MOST : PySem.W.nsIn K mainGlobals "MOST" = some (some (.int 200 tM)))
    {x_TalkError : Addr} (ga_TalkError : PySem.W.nsIn K mainGlobals "TalkError" = some (some (.ref x_TalkError)))
    {x_NoRow : Addr} (ga_NoRow : PySem.W.nsIn K mainGlobals "NoRow" = some (some (.ref x_NoRow)))
    {x_NoWord : Addr} (ga_NoWord : PySem.W.nsIn K mainGlobals "NoWord" = some (some (.ref x_NoWord)))
    {x_NoLetter : Addr} (ga_NoLetter : PySem.W.nsIn K mainGlobals "NoLetter" = some (some (.ref x_NoLetter)))
    {x_NoMany : Addr} (ga_NoMany : PySem.W.nsIn K mainGlobals "NoMany" = some (some (.ref x_NoMany)))
    {x_NoOne : Addr} (ga_NoOne : PySem.W.nsIn K mainGlobals "NoOne" = some (some (.ref x_NoOne)))
    {x_NoPlace : Addr} (ga_NoPlace : PySem.W.nsIn K mainGlobals "NoPlace" = some (some (.ref x_NoPlace)))
    {x_NoPairs : Addr} (ga_NoPairs : PySem.W.nsIn K mainGlobals "NoPairs" = some (some (.ref x_NoPairs)))
    {x_TooLong : Addr} (ga_TooLong : PySem.W.nsIn K mainGlobals "TooLong" = some (some (.ref x_TooLong)))
    {x_NothingLeft : Addr} (ga_NothingLeft : PySem.W.nsIn K mainGlobals "NothingLeft" = some (some (.ref x_NothingLeft)))
    (tk_b : PySem.W.subIn K (.ref x_TalkError) (.type "BaseException") = some true)
    (tk_d : PySem.W.hasDictIn K x_TalkError = true)
    (tk_t : PySem.W.typeIn K (.ref x_TalkError) = some (.type "type"))
    (oc_n : PySem.W.specialIn K (.builtin "object.__class__") "__get__" = some (some (.builtin "getset_descriptor.__get__")))
    (oc_t : PySem.W.takesIn K (.builtin "object.__class__") = some true)
    (xt_0 : PySem.W.typeIn K (.ref x_NoRow) = some (.type "type"))
    (xd_0 : PySem.W.hasDictIn K x_NoRow = true)
    (xt_1 : PySem.W.typeIn K (.ref x_NoWord) = some (.type "type"))
    (xd_1 : PySem.W.hasDictIn K x_NoWord = true)
    (xt_2 : PySem.W.typeIn K (.ref x_NoLetter) = some (.type "type"))
    (xd_2 : PySem.W.hasDictIn K x_NoLetter = true)
    (xt_3 : PySem.W.typeIn K (.ref x_NoMany) = some (.type "type"))
    (xd_3 : PySem.W.hasDictIn K x_NoMany = true)
    (xt_4 : PySem.W.typeIn K (.ref x_NoOne) = some (.type "type"))
    (xd_4 : PySem.W.hasDictIn K x_NoOne = true)
    (xt_5 : PySem.W.typeIn K (.ref x_NoPlace) = some (.type "type"))
    (xd_5 : PySem.W.hasDictIn K x_NoPlace = true)
    (xt_6 : PySem.W.typeIn K (.ref x_NoPairs) = some (.type "type"))
    (xd_6 : PySem.W.hasDictIn K x_NoPairs = true)
    (xt_7 : PySem.W.typeIn K (.ref x_TooLong) = some (.type "type"))
    (xd_7 : PySem.W.hasDictIn K x_TooLong = true)
    (xt_8 : PySem.W.typeIn K (.ref x_NothingLeft) = some (.type "type"))
    (xd_8 : PySem.W.hasDictIn K x_NothingLeft = true)
    (xe_0 : PySem.W.excIn K x_NoRow [.type "ValueError", .type "Exception", .type "BaseException", .type "object"] "ValueError.__new__" = true)
    (xk_0 : PySem.W.keepIn K (.ref x_NoRow) = true)
    (xb_0 : PySem.W.subIn K (.ref x_NoRow) (.type "BaseException") = some true)
    (xg_0 : PySem.W.findIn K (.ref x_NoRow) "__getattribute__" = some (some (.builtin "BaseException.__getattribute__")))
    (xh_0 : PySem.W.findIn K (.ref x_NoRow) "__getattr__" = some none)
    (xa_0 : PySem.W.findIn K (.ref x_NoRow) "__class__" = some (some (.builtin "object.__class__")))
    (xm_0 : PySem.W.mroIn K x_NoRow (.type "object") = some true)
    (xs_0 : PySem.W.subIn K (.ref x_NoRow) (.ref x_TalkError) = some true)
    (xi_0_1 : PySem.W.subIn K (.ref x_NoRow) (.ref x_NoWord) = some false)
    (xn_0_1 : x_NoRow ≠ x_NoWord)
    (xi_0_2 : PySem.W.subIn K (.ref x_NoRow) (.ref x_NoLetter) = some false)
    (xn_0_2 : x_NoRow ≠ x_NoLetter)
    (xi_0_3 : PySem.W.subIn K (.ref x_NoRow) (.ref x_NoMany) = some false)
    (xn_0_3 : x_NoRow ≠ x_NoMany)
    (xi_0_4 : PySem.W.subIn K (.ref x_NoRow) (.ref x_NoOne) = some false)
    (xn_0_4 : x_NoRow ≠ x_NoOne)
    (xi_0_5 : PySem.W.subIn K (.ref x_NoRow) (.ref x_NoPlace) = some false)
    (xn_0_5 : x_NoRow ≠ x_NoPlace)
    (xi_0_6 : PySem.W.subIn K (.ref x_NoRow) (.ref x_NoPairs) = some false)
    (xn_0_6 : x_NoRow ≠ x_NoPairs)
    (xi_0_7 : PySem.W.subIn K (.ref x_NoRow) (.ref x_TooLong) = some false)
    (xn_0_7 : x_NoRow ≠ x_TooLong)
    (xi_0_8 : PySem.W.subIn K (.ref x_NoRow) (.ref x_NothingLeft) = some false)
    (xn_0_8 : x_NoRow ≠ x_NothingLeft)
    (xv_0 : PySem.W.subIn K (.ref x_NoRow) (.type "ValueError") = some true)
    (xe_1 : PySem.W.excIn K x_NoWord [.type "ValueError", .type "Exception", .type "BaseException", .type "object"] "ValueError.__new__" = true)
    (xk_1 : PySem.W.keepIn K (.ref x_NoWord) = true)
    (xb_1 : PySem.W.subIn K (.ref x_NoWord) (.type "BaseException") = some true)
    (xg_1 : PySem.W.findIn K (.ref x_NoWord) "__getattribute__" = some (some (.builtin "BaseException.__getattribute__")))
    (xh_1 : PySem.W.findIn K (.ref x_NoWord) "__getattr__" = some none)
    (xa_1 : PySem.W.findIn K (.ref x_NoWord) "__class__" = some (some (.builtin "object.__class__")))
    (xm_1 : PySem.W.mroIn K x_NoWord (.type "object") = some true)
    (xs_1 : PySem.W.subIn K (.ref x_NoWord) (.ref x_TalkError) = some true)
    (xi_1_0 : PySem.W.subIn K (.ref x_NoWord) (.ref x_NoRow) = some false)
    (xn_1_0 : x_NoWord ≠ x_NoRow)
    (xi_1_2 : PySem.W.subIn K (.ref x_NoWord) (.ref x_NoLetter) = some false)
    (xn_1_2 : x_NoWord ≠ x_NoLetter)
    (xi_1_3 : PySem.W.subIn K (.ref x_NoWord) (.ref x_NoMany) = some false)
    (xn_1_3 : x_NoWord ≠ x_NoMany)
    (xi_1_4 : PySem.W.subIn K (.ref x_NoWord) (.ref x_NoOne) = some false)
    (xn_1_4 : x_NoWord ≠ x_NoOne)
    (xi_1_5 : PySem.W.subIn K (.ref x_NoWord) (.ref x_NoPlace) = some false)
    (xn_1_5 : x_NoWord ≠ x_NoPlace)
    (xi_1_6 : PySem.W.subIn K (.ref x_NoWord) (.ref x_NoPairs) = some false)
    (xn_1_6 : x_NoWord ≠ x_NoPairs)
    (xi_1_7 : PySem.W.subIn K (.ref x_NoWord) (.ref x_TooLong) = some false)
    (xn_1_7 : x_NoWord ≠ x_TooLong)
    (xi_1_8 : PySem.W.subIn K (.ref x_NoWord) (.ref x_NothingLeft) = some false)
    (xn_1_8 : x_NoWord ≠ x_NothingLeft)
    (xv_1 : PySem.W.subIn K (.ref x_NoWord) (.type "ValueError") = some true)
    (xe_2 : PySem.W.excIn K x_NoLetter [.type "ValueError", .type "Exception", .type "BaseException", .type "object"] "ValueError.__new__" = true)
    (xk_2 : PySem.W.keepIn K (.ref x_NoLetter) = true)
    (xb_2 : PySem.W.subIn K (.ref x_NoLetter) (.type "BaseException") = some true)
    (xg_2 : PySem.W.findIn K (.ref x_NoLetter) "__getattribute__" = some (some (.builtin "BaseException.__getattribute__")))
    (xh_2 : PySem.W.findIn K (.ref x_NoLetter) "__getattr__" = some none)
    (xa_2 : PySem.W.findIn K (.ref x_NoLetter) "__class__" = some (some (.builtin "object.__class__")))
    (xm_2 : PySem.W.mroIn K x_NoLetter (.type "object") = some true)
    (xs_2 : PySem.W.subIn K (.ref x_NoLetter) (.ref x_TalkError) = some true)
    (xi_2_0 : PySem.W.subIn K (.ref x_NoLetter) (.ref x_NoRow) = some false)
    (xn_2_0 : x_NoLetter ≠ x_NoRow)
    (xi_2_1 : PySem.W.subIn K (.ref x_NoLetter) (.ref x_NoWord) = some false)
    (xn_2_1 : x_NoLetter ≠ x_NoWord)
    (xi_2_3 : PySem.W.subIn K (.ref x_NoLetter) (.ref x_NoMany) = some false)
    (xn_2_3 : x_NoLetter ≠ x_NoMany)
    (xi_2_4 : PySem.W.subIn K (.ref x_NoLetter) (.ref x_NoOne) = some false)
    (xn_2_4 : x_NoLetter ≠ x_NoOne)
    (xi_2_5 : PySem.W.subIn K (.ref x_NoLetter) (.ref x_NoPlace) = some false)
    (xn_2_5 : x_NoLetter ≠ x_NoPlace)
    (xi_2_6 : PySem.W.subIn K (.ref x_NoLetter) (.ref x_NoPairs) = some false)
    (xn_2_6 : x_NoLetter ≠ x_NoPairs)
    (xi_2_7 : PySem.W.subIn K (.ref x_NoLetter) (.ref x_TooLong) = some false)
    (xn_2_7 : x_NoLetter ≠ x_TooLong)
    (xi_2_8 : PySem.W.subIn K (.ref x_NoLetter) (.ref x_NothingLeft) = some false)
    (xn_2_8 : x_NoLetter ≠ x_NothingLeft)
    (xv_2 : PySem.W.subIn K (.ref x_NoLetter) (.type "ValueError") = some true)
    (xe_3 : PySem.W.excIn K x_NoMany [.type "ValueError", .type "Exception", .type "BaseException", .type "object"] "ValueError.__new__" = true)
    (xk_3 : PySem.W.keepIn K (.ref x_NoMany) = true)
    (xb_3 : PySem.W.subIn K (.ref x_NoMany) (.type "BaseException") = some true)
    (xg_3 : PySem.W.findIn K (.ref x_NoMany) "__getattribute__" = some (some (.builtin "BaseException.__getattribute__")))
    (xh_3 : PySem.W.findIn K (.ref x_NoMany) "__getattr__" = some none)
    (xa_3 : PySem.W.findIn K (.ref x_NoMany) "__class__" = some (some (.builtin "object.__class__")))
    (xm_3 : PySem.W.mroIn K x_NoMany (.type "object") = some true)
    (xs_3 : PySem.W.subIn K (.ref x_NoMany) (.ref x_TalkError) = some true)
    (xi_3_0 : PySem.W.subIn K (.ref x_NoMany) (.ref x_NoRow) = some false)
    (xn_3_0 : x_NoMany ≠ x_NoRow)
    (xi_3_1 : PySem.W.subIn K (.ref x_NoMany) (.ref x_NoWord) = some false)
    (xn_3_1 : x_NoMany ≠ x_NoWord)
    (xi_3_2 : PySem.W.subIn K (.ref x_NoMany) (.ref x_NoLetter) = some false)
    (xn_3_2 : x_NoMany ≠ x_NoLetter)
    (xi_3_4 : PySem.W.subIn K (.ref x_NoMany) (.ref x_NoOne) = some false)
    (xn_3_4 : x_NoMany ≠ x_NoOne)
    (xi_3_5 : PySem.W.subIn K (.ref x_NoMany) (.ref x_NoPlace) = some false)
    (xn_3_5 : x_NoMany ≠ x_NoPlace)
    (xi_3_6 : PySem.W.subIn K (.ref x_NoMany) (.ref x_NoPairs) = some false)
    (xn_3_6 : x_NoMany ≠ x_NoPairs)
    (xi_3_7 : PySem.W.subIn K (.ref x_NoMany) (.ref x_TooLong) = some false)
    (xn_3_7 : x_NoMany ≠ x_TooLong)
    (xi_3_8 : PySem.W.subIn K (.ref x_NoMany) (.ref x_NothingLeft) = some false)
    (xn_3_8 : x_NoMany ≠ x_NothingLeft)
    (xv_3 : PySem.W.subIn K (.ref x_NoMany) (.type "ValueError") = some true)
    (xe_4 : PySem.W.excIn K x_NoOne [.type "ValueError", .type "Exception", .type "BaseException", .type "object"] "ValueError.__new__" = true)
    (xk_4 : PySem.W.keepIn K (.ref x_NoOne) = true)
    (xb_4 : PySem.W.subIn K (.ref x_NoOne) (.type "BaseException") = some true)
    (xg_4 : PySem.W.findIn K (.ref x_NoOne) "__getattribute__" = some (some (.builtin "BaseException.__getattribute__")))
    (xh_4 : PySem.W.findIn K (.ref x_NoOne) "__getattr__" = some none)
    (xa_4 : PySem.W.findIn K (.ref x_NoOne) "__class__" = some (some (.builtin "object.__class__")))
    (xm_4 : PySem.W.mroIn K x_NoOne (.type "object") = some true)
    (xs_4 : PySem.W.subIn K (.ref x_NoOne) (.ref x_TalkError) = some true)
    (xi_4_0 : PySem.W.subIn K (.ref x_NoOne) (.ref x_NoRow) = some false)
    (xn_4_0 : x_NoOne ≠ x_NoRow)
    (xi_4_1 : PySem.W.subIn K (.ref x_NoOne) (.ref x_NoWord) = some false)
    (xn_4_1 : x_NoOne ≠ x_NoWord)
    (xi_4_2 : PySem.W.subIn K (.ref x_NoOne) (.ref x_NoLetter) = some false)
    (xn_4_2 : x_NoOne ≠ x_NoLetter)
    (xi_4_3 : PySem.W.subIn K (.ref x_NoOne) (.ref x_NoMany) = some false)
    (xn_4_3 : x_NoOne ≠ x_NoMany)
    (xi_4_5 : PySem.W.subIn K (.ref x_NoOne) (.ref x_NoPlace) = some false)
    (xn_4_5 : x_NoOne ≠ x_NoPlace)
    (xi_4_6 : PySem.W.subIn K (.ref x_NoOne) (.ref x_NoPairs) = some false)
    (xn_4_6 : x_NoOne ≠ x_NoPairs)
    (xi_4_7 : PySem.W.subIn K (.ref x_NoOne) (.ref x_TooLong) = some false)
    (xn_4_7 : x_NoOne ≠ x_TooLong)
    (xi_4_8 : PySem.W.subIn K (.ref x_NoOne) (.ref x_NothingLeft) = some false)
    (xn_4_8 : x_NoOne ≠ x_NothingLeft)
    (xv_4 : PySem.W.subIn K (.ref x_NoOne) (.type "ValueError") = some true)
    (xe_5 : PySem.W.excIn K x_NoPlace [.type "ValueError", .type "Exception", .type "BaseException", .type "object"] "ValueError.__new__" = true)
    (xk_5 : PySem.W.keepIn K (.ref x_NoPlace) = true)
    (xb_5 : PySem.W.subIn K (.ref x_NoPlace) (.type "BaseException") = some true)
    (xg_5 : PySem.W.findIn K (.ref x_NoPlace) "__getattribute__" = some (some (.builtin "BaseException.__getattribute__")))
    (xh_5 : PySem.W.findIn K (.ref x_NoPlace) "__getattr__" = some none)
    (xa_5 : PySem.W.findIn K (.ref x_NoPlace) "__class__" = some (some (.builtin "object.__class__")))
    (xm_5 : PySem.W.mroIn K x_NoPlace (.type "object") = some true)
    (xs_5 : PySem.W.subIn K (.ref x_NoPlace) (.ref x_TalkError) = some true)
    (xi_5_0 : PySem.W.subIn K (.ref x_NoPlace) (.ref x_NoRow) = some false)
    (xn_5_0 : x_NoPlace ≠ x_NoRow)
    (xi_5_1 : PySem.W.subIn K (.ref x_NoPlace) (.ref x_NoWord) = some false)
    (xn_5_1 : x_NoPlace ≠ x_NoWord)
    (xi_5_2 : PySem.W.subIn K (.ref x_NoPlace) (.ref x_NoLetter) = some false)
    (xn_5_2 : x_NoPlace ≠ x_NoLetter)
    (xi_5_3 : PySem.W.subIn K (.ref x_NoPlace) (.ref x_NoMany) = some false)
    (xn_5_3 : x_NoPlace ≠ x_NoMany)
    (xi_5_4 : PySem.W.subIn K (.ref x_NoPlace) (.ref x_NoOne) = some false)
    (xn_5_4 : x_NoPlace ≠ x_NoOne)
    (xi_5_6 : PySem.W.subIn K (.ref x_NoPlace) (.ref x_NoPairs) = some false)
    (xn_5_6 : x_NoPlace ≠ x_NoPairs)
    (xi_5_7 : PySem.W.subIn K (.ref x_NoPlace) (.ref x_TooLong) = some false)
    (xn_5_7 : x_NoPlace ≠ x_TooLong)
    (xi_5_8 : PySem.W.subIn K (.ref x_NoPlace) (.ref x_NothingLeft) = some false)
    (xn_5_8 : x_NoPlace ≠ x_NothingLeft)
    (xv_5 : PySem.W.subIn K (.ref x_NoPlace) (.type "ValueError") = some true)
    (xe_6 : PySem.W.excIn K x_NoPairs [.type "ValueError", .type "Exception", .type "BaseException", .type "object"] "ValueError.__new__" = true)
    (xk_6 : PySem.W.keepIn K (.ref x_NoPairs) = true)
    (xb_6 : PySem.W.subIn K (.ref x_NoPairs) (.type "BaseException") = some true)
    (xg_6 : PySem.W.findIn K (.ref x_NoPairs) "__getattribute__" = some (some (.builtin "BaseException.__getattribute__")))
    (xh_6 : PySem.W.findIn K (.ref x_NoPairs) "__getattr__" = some none)
    (xa_6 : PySem.W.findIn K (.ref x_NoPairs) "__class__" = some (some (.builtin "object.__class__")))
    (xm_6 : PySem.W.mroIn K x_NoPairs (.type "object") = some true)
    (xs_6 : PySem.W.subIn K (.ref x_NoPairs) (.ref x_TalkError) = some true)
    (xi_6_0 : PySem.W.subIn K (.ref x_NoPairs) (.ref x_NoRow) = some false)
    (xn_6_0 : x_NoPairs ≠ x_NoRow)
    (xi_6_1 : PySem.W.subIn K (.ref x_NoPairs) (.ref x_NoWord) = some false)
    (xn_6_1 : x_NoPairs ≠ x_NoWord)
    (xi_6_2 : PySem.W.subIn K (.ref x_NoPairs) (.ref x_NoLetter) = some false)
    (xn_6_2 : x_NoPairs ≠ x_NoLetter)
    (xi_6_3 : PySem.W.subIn K (.ref x_NoPairs) (.ref x_NoMany) = some false)
    (xn_6_3 : x_NoPairs ≠ x_NoMany)
    (xi_6_4 : PySem.W.subIn K (.ref x_NoPairs) (.ref x_NoOne) = some false)
    (xn_6_4 : x_NoPairs ≠ x_NoOne)
    (xi_6_5 : PySem.W.subIn K (.ref x_NoPairs) (.ref x_NoPlace) = some false)
    (xn_6_5 : x_NoPairs ≠ x_NoPlace)
    (xi_6_7 : PySem.W.subIn K (.ref x_NoPairs) (.ref x_TooLong) = some false)
    (xn_6_7 : x_NoPairs ≠ x_TooLong)
    (xi_6_8 : PySem.W.subIn K (.ref x_NoPairs) (.ref x_NothingLeft) = some false)
    (xn_6_8 : x_NoPairs ≠ x_NothingLeft)
    (xv_6 : PySem.W.subIn K (.ref x_NoPairs) (.type "ValueError") = some true) :
    LamX.LawAtS l w K CX0 10 63 "script" mg fa h := by
  have e := hfa.symm.trans (PySem.W.mg_of X G a50)
  cases e
  have F0 := fun_mk (st := s_is_within) l0 c0 k0
  have F1 := fun_mk (st := s_is_letter) l1 c1 k1
  have F2 := fun_mk (st := s_is_word) l2 c2 k2
  have F3 := fun_mk (st := s_is_one) l3 c3 k3
  have F4 := fun_mk (st := s_is_row) l4 c4 k4
  have F5 := fun_mk (st := s_need_row) l5 c5 k5
  have F6 := fun_mk (st := s_need_word) l6 c6 k6
  have F7 := fun_mk (st := s_said_by) l7 c7 k7
  have F8 := fun_mk (st := s_comes_out) l8 c8 k8
  have F9 := fun_mk (st := s_out) l9 c9 k9
  have F10 := fun_mk (st := s_passed) l10 c10 k10
  have F11 := fun_mk (st := s_wanted) l11 c11 k11
  have F12 := fun_mk (st := s_all_come) l12 c12 k12
  have F13 := fun_mk (st := s_fewest_signs) l13 c13 k13
  have F14 := fun_mk (st := s_need_many) l14 c14 k14
  have F15 := fun_mk (st := s_come) l15 c15 k15
  have F16 := fun_mk (st := s_least_for) l16 c16 k16
  have F17 := fun_mk (st := s_heard_as) l17 c17 k17
  have F18 := fun_mk (st := s_letter_out) l18 c18 k18
  have F19 := fun_mk (st := s_common) l19 c19 k19
  have F20 := fun_mk (st := s_whole_round) l20 c20 k20
  have F21 := fun_mk (st := s_steps) l21 c21 k21
  have F22 := fun_mk (st := s_least_round) l22 c22 k22
  have F23 := fun_mk (st := s_round_of) l23 c23 k23
  have F24 := fun_mk (st := s_all_lengths) l24 c24 k24
  have F25 := fun_mk (st := s_lengths) l25 c25 k25
  have F26 := fun_mk (st := s_letters_at) l26 c26 k26
  have F27 := fun_mk (st := s_places) l27 c27 k27
  have F28 := fun_mk (st := s_all_places) l28 c28 k28
  have F29 := fun_mk (st := s_how_many) l29 c29 k29
  have F30 := fun_mk (st := s_first_said) l30 c30 k30
  have F31 := fun_mk (st := s_come_alike) l31 c31 k31
  have F32 := fun_mk (st := s_parted) l32 c32 k32
  have F33 := fun_mk (st := s_are_alike) l33 c33 k33
  have F34 := fun_mk (st := s_parting) l34 c34 k34
  have F35 := fun_mk (st := s_does_nothing) l35 c35 k35
  have F36 := fun_mk (st := s_undone_by) l36 c36 k36
  have F37 := fun_mk (st := s_all_counters) l37 c37 k37
  have F38 := fun_mk (st := s_is_pair) l38 c38 k38
  have F39 := fun_mk (st := s_who_can) l39 c39 k39
  have F40 := fun_mk (st := s_l_cell_at) l40 c40 k40
  have F41 := fun_mk (st := s_l_draws) l41 c41 k41
  have F42 := fun_mk (st := s_l_bag) l42 c42 k42
  have F43 := fun_mk (st := s_l_bags) l43 c43 k43
  have F44 := fun_mk (st := s_l_take) l44 c44 k44
  have F45 := fun_mk (st := s_l_counter) l45 c45 k45
  have F46 := fun_mk (st := s_l_mouths) l46 c46 k46
  have F47 := fun_mk (st := s_l_refused) l47 c47 k47
  have F48 := fun_mk (st := s_l_rows_refused) l48 c48 k48
  have F49 := fun_mk (st := s_l_words_refused) l49 c49 k49
  have F50 := fun_mk (st := s_law) l50 c50 k50
  have nb_isinstance := PySem.W.mg_none_of X G z_isinstance
  have nb_bool := PySem.W.mg_none_of X G z_bool
  have nb_int := PySem.W.mg_none_of X G z_int
  have nb_len := PySem.W.mg_none_of X G z_len
  have nb_str := PySem.W.mg_none_of X G z_str
  have nb_all := PySem.W.mg_none_of X G z_all
  have nb_tuple := PySem.W.mg_none_of X G z_tuple
  have nb_range := PySem.W.mg_none_of X G z_range
  have nb_zip := PySem.W.mg_none_of X G z_zip
  have nb_min := PySem.W.mg_none_of X G z_min
  have nb_max := PySem.W.mg_none_of X G z_max
  have nb_ValueError := PySem.W.mg_none_of X G z_ValueError
  have nc_SMALL := PySem.W.mg_of X G y_SMALL
  have nc_FAR := PySem.W.mg_of X G y_FAR
  have nc_MOST := PySem.W.mg_of X G y_MOST
  have hT : ∃ T : List (Addr × Str), T = [(PP48, ("_law_rows_refused.<locals>.<lambda>" : Str)), (PP49, ("_law_words_refused.<locals>.<lambda>" : Str)), (PP50, ("law.<locals>.<lambda>" : Str))] := ⟨_, rfl⟩
  obtain ⟨T, eT⟩ := hT
  have hT_48 : (PP48, ("_law_rows_refused.<locals>.<lambda>" : Str)) ∈ T := by rw [eT]; simp
  have hU_48 : ∀ p ∈ T, p.1 = PP48 → p.2 = "_law_rows_refused.<locals>.<lambda>" := by
    rw [eT]
    intro p hp e
    simp only [List.mem_cons, List.not_mem_nil, or_false] at hp
    rcases hp with rfl | rfl | rfl
    · rfl
    · exact absurd e kd48_49.symm
    · exact absurd e kd48_50.symm
  have hT_49 : (PP49, ("_law_words_refused.<locals>.<lambda>" : Str)) ∈ T := by rw [eT]; simp
  have hU_49 : ∀ p ∈ T, p.1 = PP49 → p.2 = "_law_words_refused.<locals>.<lambda>" := by
    rw [eT]
    intro p hp e
    simp only [List.mem_cons, List.not_mem_nil, or_false] at hp
    rcases hp with rfl | rfl | rfl
    · exact absurd e kd48_49
    · rfl
    · exact absurd e kd49_50.symm
  have hT_50 : (PP50, ("law.<locals>.<lambda>" : Str)) ∈ T := by rw [eT]; simp
  have hU_50 : ∀ p ∈ T, p.1 = PP50 → p.2 = "law.<locals>.<lambda>" := by
    rw [eT]
    intro p hp e
    simp only [List.mem_cons, List.not_mem_nil, or_false] at hp
    rcases hp with rfl | rfl | rfl
    · exact absurd e kd48_50
    · exact absurd e kd49_50
    · rfl
  refine ⟨PySem.W.fnOf "law" "law" (defArgs s_law) (defBody s_law) (defScope s_law) .none kV50 dc50 pm50 an50 (.ref cc50) ct50, [(cc48, PP48), (cc49, PP49), (cc50, PP50)], sp_lawT K T,
   (fun p hp => by
    simp only [List.mem_cons, List.not_mem_nil, or_false] at hp
    rcases hp with rfl | rfl | rfl
    · exact kt48
    · exact kt49
    · exact kt50),
   (fun p hp => by
    simp only [List.mem_cons, List.not_mem_nil, or_false] at hp
    rcases hp with rfl | rfl | rfl
    · exact kn48
    · exact kn49
    · exact kn50),
   (fun p hp => by
    simp only [List.mem_cons, List.not_mem_nil, or_false] at hp
    rcases hp with rfl | rfl | rfl
    · exact PySem.W.codeHd_of_K X kh48
    · exact PySem.W.codeHd_of_K X kh49
    · exact PySem.W.codeHd_of_K X kh50), fun s v => .of_eq rfl, fun H a ns hn _ hH hS => ⟨a, ns, rfl, hS, hn, fun q hq => by
    rw [eT] at hq
    simp only [List.mem_cons, List.not_mem_nil, or_false] at hq
    rcases hq with rfl | rfl | rfl
    · exact hH (cc48, PP48) (by simp)
    · exact hH (cc49, PP49) (by simp)
    · exact hH (cc50, PP50) (by simp), fun _ => rfl⟩, fun base _ _ hTB => ?_⟩
  have TB_48 := hTB (cc48, PP48) (by simp)
  have TB_49 := hTB (cc49, PP49) (by simp)
  have TB_50 := hTB (cc50, PP50) (by simp)
  have hC : ∃ C : XCls, C = xcls x_TalkError x_NoRow x_NoWord x_NoLetter x_NoMany x_NoOne x_NoPlace x_NoPairs x_TooLong x_NothingLeft (fun i => decide (i = 0 ∨ i = 1 ∨ i = 2 ∨ i = 3 ∨ i = 4 ∨ i = 5 ∨ i = 6)) := ⟨_, rfl⟩
  obtain ⟨C, eC⟩ := hC
  have gx_TalkError : mg "TalkError" = some (.ref C.talk) := by rw [eC]; exact PySem.W.mg_of X G ga_TalkError
  have gx_NoRow : mg "NoRow" = some (.ref (C.c 0)) := by rw [eC]; exact PySem.W.mg_of X G ga_NoRow
  have gx_NoWord : mg "NoWord" = some (.ref (C.c 1)) := by rw [eC]; exact PySem.W.mg_of X G ga_NoWord
  have gx_NoLetter : mg "NoLetter" = some (.ref (C.c 2)) := by rw [eC]; exact PySem.W.mg_of X G ga_NoLetter
  have gx_NoMany : mg "NoMany" = some (.ref (C.c 3)) := by rw [eC]; exact PySem.W.mg_of X G ga_NoMany
  have gx_NoOne : mg "NoOne" = some (.ref (C.c 4)) := by rw [eC]; exact PySem.W.mg_of X G ga_NoOne
  have gx_NoPlace : mg "NoPlace" = some (.ref (C.c 5)) := by rw [eC]; exact PySem.W.mg_of X G ga_NoPlace
  have gx_NoPairs : mg "NoPairs" = some (.ref (C.c 6)) := by rw [eC]; exact PySem.W.mg_of X G ga_NoPairs
  have gx_TooLong : mg "TooLong" = some (.ref (C.c 7)) := by rw [eC]; exact PySem.W.mg_of X G ga_TooLong
  have gx_NothingLeft : mg "NothingLeft" = some (.ref (C.c 8)) := by rw [eC]; exact PySem.W.mg_of X G ga_NothingLeft
  have hk_0 : C.ok 0 = true := by rw [eC]; rfl
  have hk_1 : C.ok 1 = true := by rw [eC]; rfl
  have hk_2 : C.ok 2 = true := by rw [eC]; rfl
  have hk_3 : C.ok 3 = true := by rw [eC]; rfl
  have hk_4 : C.ok 4 = true := by rw [eC]; rfl
  have hk_5 : C.ok 5 = true := by rw [eC]; rfl
  have hk_6 : C.ok 6 = true := by rw [eC]; rfl
  have TX : XOk K C := XOk.of fun i hi => by
    rw [eC] at hi ⊢
    have hi := of_decide_eq_true hi
    rcases hi with rfl | rfl | rfl | rfl | rfl | rfl | rfl
    · exact ⟨xe_0, xk_0, xb_0, xt_0, ⟨xg_0, xh_0, xb_0, xd_0, xa_0, oc_n, oc_t, xm_0⟩, PySem.W.exm_ref tk_b tk_d tk_t xs_0, fin9 kit_self (kit_ref xn_0_1 xd_1 xt_1 xi_0_1) (kit_ref xn_0_2 xd_2 xt_2 xi_0_2) (kit_ref xn_0_3 xd_3 xt_3 xi_0_3) (kit_ref xn_0_4 xd_4 xt_4 xi_0_4) (kit_ref xn_0_5 xd_5 xt_5 xi_0_5) (kit_ref xn_0_6 xd_6 xt_6 xi_0_6) (kit_ref xn_0_7 xd_7 xt_7 xi_0_7) (kit_ref xn_0_8 xd_8 xt_8 xi_0_8), kit_val xv_0⟩
    · exact ⟨xe_1, xk_1, xb_1, xt_1, ⟨xg_1, xh_1, xb_1, xd_1, xa_1, oc_n, oc_t, xm_1⟩, PySem.W.exm_ref tk_b tk_d tk_t xs_1, fin9 (kit_ref xn_1_0 xd_0 xt_0 xi_1_0) kit_self (kit_ref xn_1_2 xd_2 xt_2 xi_1_2) (kit_ref xn_1_3 xd_3 xt_3 xi_1_3) (kit_ref xn_1_4 xd_4 xt_4 xi_1_4) (kit_ref xn_1_5 xd_5 xt_5 xi_1_5) (kit_ref xn_1_6 xd_6 xt_6 xi_1_6) (kit_ref xn_1_7 xd_7 xt_7 xi_1_7) (kit_ref xn_1_8 xd_8 xt_8 xi_1_8), kit_val xv_1⟩
    · exact ⟨xe_2, xk_2, xb_2, xt_2, ⟨xg_2, xh_2, xb_2, xd_2, xa_2, oc_n, oc_t, xm_2⟩, PySem.W.exm_ref tk_b tk_d tk_t xs_2, fin9 (kit_ref xn_2_0 xd_0 xt_0 xi_2_0) (kit_ref xn_2_1 xd_1 xt_1 xi_2_1) kit_self (kit_ref xn_2_3 xd_3 xt_3 xi_2_3) (kit_ref xn_2_4 xd_4 xt_4 xi_2_4) (kit_ref xn_2_5 xd_5 xt_5 xi_2_5) (kit_ref xn_2_6 xd_6 xt_6 xi_2_6) (kit_ref xn_2_7 xd_7 xt_7 xi_2_7) (kit_ref xn_2_8 xd_8 xt_8 xi_2_8), kit_val xv_2⟩
    · exact ⟨xe_3, xk_3, xb_3, xt_3, ⟨xg_3, xh_3, xb_3, xd_3, xa_3, oc_n, oc_t, xm_3⟩, PySem.W.exm_ref tk_b tk_d tk_t xs_3, fin9 (kit_ref xn_3_0 xd_0 xt_0 xi_3_0) (kit_ref xn_3_1 xd_1 xt_1 xi_3_1) (kit_ref xn_3_2 xd_2 xt_2 xi_3_2) kit_self (kit_ref xn_3_4 xd_4 xt_4 xi_3_4) (kit_ref xn_3_5 xd_5 xt_5 xi_3_5) (kit_ref xn_3_6 xd_6 xt_6 xi_3_6) (kit_ref xn_3_7 xd_7 xt_7 xi_3_7) (kit_ref xn_3_8 xd_8 xt_8 xi_3_8), kit_val xv_3⟩
    · exact ⟨xe_4, xk_4, xb_4, xt_4, ⟨xg_4, xh_4, xb_4, xd_4, xa_4, oc_n, oc_t, xm_4⟩, PySem.W.exm_ref tk_b tk_d tk_t xs_4, fin9 (kit_ref xn_4_0 xd_0 xt_0 xi_4_0) (kit_ref xn_4_1 xd_1 xt_1 xi_4_1) (kit_ref xn_4_2 xd_2 xt_2 xi_4_2) (kit_ref xn_4_3 xd_3 xt_3 xi_4_3) kit_self (kit_ref xn_4_5 xd_5 xt_5 xi_4_5) (kit_ref xn_4_6 xd_6 xt_6 xi_4_6) (kit_ref xn_4_7 xd_7 xt_7 xi_4_7) (kit_ref xn_4_8 xd_8 xt_8 xi_4_8), kit_val xv_4⟩
    · exact ⟨xe_5, xk_5, xb_5, xt_5, ⟨xg_5, xh_5, xb_5, xd_5, xa_5, oc_n, oc_t, xm_5⟩, PySem.W.exm_ref tk_b tk_d tk_t xs_5, fin9 (kit_ref xn_5_0 xd_0 xt_0 xi_5_0) (kit_ref xn_5_1 xd_1 xt_1 xi_5_1) (kit_ref xn_5_2 xd_2 xt_2 xi_5_2) (kit_ref xn_5_3 xd_3 xt_3 xi_5_3) (kit_ref xn_5_4 xd_4 xt_4 xi_5_4) kit_self (kit_ref xn_5_6 xd_6 xt_6 xi_5_6) (kit_ref xn_5_7 xd_7 xt_7 xi_5_7) (kit_ref xn_5_8 xd_8 xt_8 xi_5_8), kit_val xv_5⟩
    · exact ⟨xe_6, xk_6, xb_6, xt_6, ⟨xg_6, xh_6, xb_6, xd_6, xa_6, oc_n, oc_t, xm_6⟩, PySem.W.exm_ref tk_b tk_d tk_t xs_6, fin9 (kit_ref xn_6_0 xd_0 xt_0 xi_6_0) (kit_ref xn_6_1 xd_1 xt_1 xi_6_1) (kit_ref xn_6_2 xd_2 xt_2 xi_6_2) (kit_ref xn_6_3 xd_3 xt_3 xi_6_3) (kit_ref xn_6_4 xd_4 xt_4 xi_6_4) (kit_ref xn_6_5 xd_5 xt_5 xi_6_5) kit_self (kit_ref xn_6_7 xd_7 xt_7 xi_6_7) (kit_ref xn_6_8 xd_8 xt_8 xi_6_8), kit_val xv_6⟩
  have D_l_draws := ok_l_draws (P := l.prog) (w := w) (base := base) F41 (PySem.W.mg_of X G a41) nb_int nb_range
  have D_l_cell_at := ok_l_cell_at (P := l.prog) (w := w) (base := base) F40 (PySem.W.mg_of X G a40) nb_len
  have D_l_bag := ok_l_bag (P := l.prog) (w := w) (base := base) F42 (PySem.W.mg_of X G a42) D_l_draws D_l_cell_at
  have D_l_bags := ok_l_bags (P := l.prog) (w := w) (base := base) F43 (PySem.W.mg_of X G a43) nb_range nb_max nb_min nb_len D_l_bag
  have D_l_take := ok_l_take (P := l.prog) (w := w) (base := base) F44 (PySem.W.mg_of X G a44) nb_len
  have D_l_counter := ok_l_counter (P := l.prog) (w := w) (base := base) F45 (PySem.W.mg_of X G a45) D_l_take
  have D_l_mouths := ok_l_mouths (P := l.prog) (w := w) (base := base) F46 (PySem.W.mg_of X G a46) nb_range nb_tuple D_l_take D_l_counter
  have D_is_letter := ok_is_letter (P := l.prog) (w := w) (base := base) F1 (PySem.W.mg_of X G a1) nb_len nb_isinstance nb_str nc_SMALL
  have D_is_within := ok_is_within (P := l.prog) (w := w) (base := base) F0 (PySem.W.mg_of X G a0) nb_isinstance nb_bool nb_int
  have D_is_one := ok_is_one (P := l.prog) (w := w) (base := base) F3 (PySem.W.mg_of X G a3) nb_isinstance nb_str nb_len nb_tuple D_is_letter D_is_within
  have D_is_row := ok_is_row (P := l.prog) (w := w) (base := base) F4 (PySem.W.mg_of X G a4) nb_all nb_len nb_isinstance nb_tuple D_is_one
  have gm_need_row := PySem.W.mg_of X G a5
  have A_need_rowX := ok_need_rowX (P := l.prog) (w := w) (base := base) F5 gx_NoRow TX hk_0 D_is_row
  have D_is_word := ok_is_word (P := l.prog) (w := w) (base := base) F2 (PySem.W.mg_of X G a2) nb_all nb_len nb_isinstance nb_str nc_SMALL
  have gm_need_word := PySem.W.mg_of X G a6
  have A_need_wordX := ok_need_wordX (P := l.prog) (w := w) (base := base) F6 gx_NoWord TX hk_1 D_is_word
  have gm_need_many := PySem.W.mg_of X G a14
  have A_need_manyX := ok_need_manyX (P := l.prog) (w := w) (base := base) F14 gx_NoMany TX hk_3 D_is_within
  have D_said_by := ok_said_by (P := l.prog) (w := w) (base := base) F7 (PySem.W.mg_of X G a7) 
  have D_comes_out := ok_comes_out (P := l.prog) (w := w) (base := base) F8 (PySem.W.mg_of X G a8) D_said_by
  have gm_out := PySem.W.mg_of X G a9
  have A_outX := ok_outX (P := l.prog) (w := w) (base := base) F9 TX gm_need_row A_need_rowX gm_need_word A_need_wordX D_comes_out
  have D_passed := ok_passed (P := l.prog) (w := w) (base := base) F10 (PySem.W.mg_of X G a10) 
  have D_all_come := ok_all_come (P := l.prog) (w := w) (base := base) F12 (PySem.W.mg_of X G a12) D_passed
  have gm_come := PySem.W.mg_of X G a15
  have A_comeX := ok_comeX (P := l.prog) (w := w) (base := base) F15 TX nc_FAR gm_need_row A_need_rowX gm_need_many A_need_manyX D_all_come
  have D_wanted := ok_wanted (P := l.prog) (w := w) (base := base) F11 (PySem.W.mg_of X G a11) 
  have D_fewest_signs := ok_fewest_signs (P := l.prog) (w := w) (base := base) F13 (PySem.W.mg_of X G a13) D_wanted
  have gm_least_for := PySem.W.mg_of X G a16
  have A_least_forX := ok_least_forX (P := l.prog) (w := w) (base := base) F16 TX nc_FAR gm_need_row A_need_rowX gm_need_many A_need_manyX D_fewest_signs
  have D_heard_as := ok_heard_as (P := l.prog) (w := w) (base := base) F17 (PySem.W.mg_of X G a17) 
  have gm_letter_out := PySem.W.mg_of X G a18
  have A_letter_outX := ok_letter_outX (P := l.prog) (w := w) (base := base) F18 gx_NoLetter TX hk_2 gm_need_row A_need_rowX D_is_letter D_heard_as
  have D_common := ok_common (P := l.prog) (w := w) (base := base) F19 (PySem.W.mg_of X G a19) 
  have D_whole_round := ok_whole_round (P := l.prog) (w := w) (base := base) F20 (PySem.W.mg_of X G a20) D_common D_passed
  have D_steps := ok_steps (P := l.prog) (w := w) (base := base) F21 (PySem.W.mg_of X G a21) nb_range nb_zip D_all_come
  have D_least_round := ok_least_round (P := l.prog) (w := w) (base := base) F22 (PySem.W.mg_of X G a22) nb_range D_whole_round D_steps
  have gm_round_of := PySem.W.mg_of X G a23
  have A_round_ofX := ok_round_ofX (P := l.prog) (w := w) (base := base) F23 TX gm_need_row A_need_rowX D_least_round D_all_come
  have D_all_lengths := ok_all_lengths (P := l.prog) (w := w) (base := base) F24 (PySem.W.mg_of X G a24) nb_min nc_MOST D_fewest_signs D_all_come
  have gm_lengths := PySem.W.mg_of X G a25
  have A_lengthsX := ok_lengthsX (P := l.prog) (w := w) (base := base) F25 TX nb_len gm_need_row A_need_rowX gm_need_word A_need_wordX D_all_lengths
  have D_letters_at := ok_letters_at (P := l.prog) (w := w) (base := base) F26 (PySem.W.mg_of X G a26) nb_len nc_SMALL D_all_come D_steps D_heard_as
  have gm_places := PySem.W.mg_of X G a27
  have A_placesX := ok_placesX (P := l.prog) (w := w) (base := base) F27 gx_NoMany TX hk_3 nc_MOST gm_need_row A_need_rowX D_is_within gm_need_word A_need_wordX D_letters_at
  have D_all_places := ok_all_places (P := l.prog) (w := w) (base := base) F28 (PySem.W.mg_of X G a28) nb_len nb_range D_all_lengths D_letters_at
  have gm_how_many := PySem.W.mg_of X G a29
  have A_how_manyX := ok_how_manyX (P := l.prog) (w := w) (base := base) F29 TX nb_len gm_need_row A_need_rowX gm_need_word A_need_wordX D_all_places
  have gm_first_said := PySem.W.mg_of X G a30
  have A_first_saidX := ok_first_saidX (P := l.prog) (w := w) (base := base) F30 TX gm_need_row A_need_rowX gm_need_word A_need_wordX D_all_places
  have gm_come_alike := PySem.W.mg_of X G a31
  have A_come_alikeX := ok_come_alikeX (P := l.prog) (w := w) (base := base) F31 TX gm_need_row A_need_rowX gm_need_word A_need_wordX D_comes_out
  have D_parted := ok_parted (P := l.prog) (w := w) (base := base) F32 (PySem.W.mg_of X G a32) nb_range nc_SMALL D_least_round D_steps D_heard_as
  have gm_are_alike := PySem.W.mg_of X G a33
  have A_are_alikeX := ok_are_alikeX (P := l.prog) (w := w) (base := base) F33 TX gm_need_row A_need_rowX D_parted
  have gm_parting := PySem.W.mg_of X G a34
  have A_partingX := ok_partingX (P := l.prog) (w := w) (base := base) F34 TX gm_need_row A_need_rowX D_parted
  have gm_does_nothing := PySem.W.mg_of X G a35
  have A_does_nothingX := ok_does_nothingX (P := l.prog) (w := w) (base := base) F35 TX gm_need_row A_need_rowX D_parted
  have gm_undone_by := PySem.W.mg_of X G a36
  have A_undone_byX := ok_undone_byX (P := l.prog) (w := w) (base := base) F36 gx_NoOne TX hk_4 D_is_one
  have D_is_pair := ok_is_pair (P := l.prog) (w := w) (base := base) F38 (PySem.W.mg_of X G a38) nb_len nb_isinstance nb_tuple D_is_word
  have D_all_counters := ok_all_counters (P := l.prog) (w := w) (base := base) F37 (PySem.W.mg_of X G a37) nb_range
  have gm_who_can := PySem.W.mg_of X G a39
  have A_who_canX := ok_who_canX (P := l.prog) (w := w) (base := base) F39 gx_NoPlace gx_NoPairs TX hk_5 hk_6 nb_len nb_all nb_isinstance nb_tuple gm_need_row A_need_rowX D_is_within D_is_pair D_all_counters D_comes_out
  have hS0 : ∃ S : Addr → Option Sp, S = fun a => if a = f5 then some (sp_need_rowX K C) else if a = f6 then some (sp_need_wordX K C) else if a = f14 then some (sp_need_manyX K C) else if a = f9 then some (sp_outX K C) else if a = f15 then some (sp_comeX K C) else if a = f16 then some (sp_least_forX K C) else if a = f18 then some (sp_letter_outX K C) else if a = f23 then some (sp_round_ofX K C) else if a = f25 then some (sp_lengthsX K C) else if a = f27 then some (sp_placesX K C) else if a = f29 then some (sp_how_manyX K C) else if a = f30 then some (sp_first_saidX K C) else if a = f31 then some (sp_come_alikeX K C) else if a = f33 then some (sp_are_alikeX K C) else if a = f34 then some (sp_partingX K C) else if a = f35 then some (sp_does_nothingX K C) else if a = f36 then some (sp_undone_byX K C) else if a = f39 then some (sp_who_canX K C) else none := ⟨_, rfl⟩
  obtain ⟨S, eS⟩ := hS0
  have gf_need_row := PySem.W.mg_of X G a5
  have hS_need_row : S f5 = some (sp_need_rowX K C) := by rw [eS]; exact if_pos rfl
  have gf_need_word := PySem.W.mg_of X G a6
  have hS_need_word : S f6 = some (sp_need_wordX K C) := by rw [eS]; exact (if_neg (ne_fn "need_word" "need_row" l6 l5 rfl rfl rfl rfl (by decide))).trans <| if_pos rfl
  have gf_need_many := PySem.W.mg_of X G a14
  have hS_need_many : S f14 = some (sp_need_manyX K C) := by rw [eS]; exact (if_neg (ne_fn "need_many" "need_row" l14 l5 rfl rfl rfl rfl (by decide))).trans <| (if_neg (ne_fn "need_many" "need_word" l14 l6 rfl rfl rfl rfl (by decide))).trans <| if_pos rfl
  have gf_out := PySem.W.mg_of X G a9
  have hS_out : S f9 = some (sp_outX K C) := by rw [eS]; exact (if_neg (ne_fn "out" "need_row" l9 l5 rfl rfl rfl rfl (by decide))).trans <| (if_neg (ne_fn "out" "need_word" l9 l6 rfl rfl rfl rfl (by decide))).trans <| (if_neg (ne_fn "out" "need_many" l9 l14 rfl rfl rfl rfl (by decide))).trans <| if_pos rfl
  have gf_come := PySem.W.mg_of X G a15
  have hS_come : S f15 = some (sp_comeX K C) := by rw [eS]; exact (if_neg (ne_fn "come" "need_row" l15 l5 rfl rfl rfl rfl (by decide))).trans <| (if_neg (ne_fn "come" "need_word" l15 l6 rfl rfl rfl rfl (by decide))).trans <| (if_neg (ne_fn "come" "need_many" l15 l14 rfl rfl rfl rfl (by decide))).trans <| (if_neg (ne_fn "come" "out" l15 l9 rfl rfl rfl rfl (by decide))).trans <| if_pos rfl
  have gf_least_for := PySem.W.mg_of X G a16
  have hS_least_for : S f16 = some (sp_least_forX K C) := by rw [eS]; exact (if_neg (ne_fn "least_for" "need_row" l16 l5 rfl rfl rfl rfl (by decide))).trans <| (if_neg (ne_fn "least_for" "need_word" l16 l6 rfl rfl rfl rfl (by decide))).trans <| (if_neg (ne_fn "least_for" "need_many" l16 l14 rfl rfl rfl rfl (by decide))).trans <| (if_neg (ne_fn "least_for" "out" l16 l9 rfl rfl rfl rfl (by decide))).trans <| (if_neg (ne_fn "least_for" "come" l16 l15 rfl rfl rfl rfl (by decide))).trans <| if_pos rfl
  have gf_letter_out := PySem.W.mg_of X G a18
  have hS_letter_out : S f18 = some (sp_letter_outX K C) := by rw [eS]; exact (if_neg (ne_fn "letter_out" "need_row" l18 l5 rfl rfl rfl rfl (by decide))).trans <| (if_neg (ne_fn "letter_out" "need_word" l18 l6 rfl rfl rfl rfl (by decide))).trans <| (if_neg (ne_fn "letter_out" "need_many" l18 l14 rfl rfl rfl rfl (by decide))).trans <| (if_neg (ne_fn "letter_out" "out" l18 l9 rfl rfl rfl rfl (by decide))).trans <| (if_neg (ne_fn "letter_out" "come" l18 l15 rfl rfl rfl rfl (by decide))).trans <| (if_neg (ne_fn "letter_out" "least_for" l18 l16 rfl rfl rfl rfl (by decide))).trans <| if_pos rfl
  have gf_round_of := PySem.W.mg_of X G a23
  have hS_round_of : S f23 = some (sp_round_ofX K C) := by rw [eS]; exact (if_neg (ne_fn "round_of" "need_row" l23 l5 rfl rfl rfl rfl (by decide))).trans <| (if_neg (ne_fn "round_of" "need_word" l23 l6 rfl rfl rfl rfl (by decide))).trans <| (if_neg (ne_fn "round_of" "need_many" l23 l14 rfl rfl rfl rfl (by decide))).trans <| (if_neg (ne_fn "round_of" "out" l23 l9 rfl rfl rfl rfl (by decide))).trans <| (if_neg (ne_fn "round_of" "come" l23 l15 rfl rfl rfl rfl (by decide))).trans <| (if_neg (ne_fn "round_of" "least_for" l23 l16 rfl rfl rfl rfl (by decide))).trans <| (if_neg (ne_fn "round_of" "letter_out" l23 l18 rfl rfl rfl rfl (by decide))).trans <| if_pos rfl
  have gf_lengths := PySem.W.mg_of X G a25
  have hS_lengths : S f25 = some (sp_lengthsX K C) := by rw [eS]; exact (if_neg (ne_fn "lengths" "need_row" l25 l5 rfl rfl rfl rfl (by decide))).trans <| (if_neg (ne_fn "lengths" "need_word" l25 l6 rfl rfl rfl rfl (by decide))).trans <| (if_neg (ne_fn "lengths" "need_many" l25 l14 rfl rfl rfl rfl (by decide))).trans <| (if_neg (ne_fn "lengths" "out" l25 l9 rfl rfl rfl rfl (by decide))).trans <| (if_neg (ne_fn "lengths" "come" l25 l15 rfl rfl rfl rfl (by decide))).trans <| (if_neg (ne_fn "lengths" "least_for" l25 l16 rfl rfl rfl rfl (by decide))).trans <| (if_neg (ne_fn "lengths" "letter_out" l25 l18 rfl rfl rfl rfl (by decide))).trans <| (if_neg (ne_fn "lengths" "round_of" l25 l23 rfl rfl rfl rfl (by decide))).trans <| if_pos rfl
  have gf_places := PySem.W.mg_of X G a27
  have hS_places : S f27 = some (sp_placesX K C) := by rw [eS]; exact (if_neg (ne_fn "places" "need_row" l27 l5 rfl rfl rfl rfl (by decide))).trans <| (if_neg (ne_fn "places" "need_word" l27 l6 rfl rfl rfl rfl (by decide))).trans <| (if_neg (ne_fn "places" "need_many" l27 l14 rfl rfl rfl rfl (by decide))).trans <| (if_neg (ne_fn "places" "out" l27 l9 rfl rfl rfl rfl (by decide))).trans <| (if_neg (ne_fn "places" "come" l27 l15 rfl rfl rfl rfl (by decide))).trans <| (if_neg (ne_fn "places" "least_for" l27 l16 rfl rfl rfl rfl (by decide))).trans <| (if_neg (ne_fn "places" "letter_out" l27 l18 rfl rfl rfl rfl (by decide))).trans <| (if_neg (ne_fn "places" "round_of" l27 l23 rfl rfl rfl rfl (by decide))).trans <| (if_neg (ne_fn "places" "lengths" l27 l25 rfl rfl rfl rfl (by decide))).trans <| if_pos rfl
  have gf_how_many := PySem.W.mg_of X G a29
  have hS_how_many : S f29 = some (sp_how_manyX K C) := by rw [eS]; exact (if_neg (ne_fn "how_many" "need_row" l29 l5 rfl rfl rfl rfl (by decide))).trans <| (if_neg (ne_fn "how_many" "need_word" l29 l6 rfl rfl rfl rfl (by decide))).trans <| (if_neg (ne_fn "how_many" "need_many" l29 l14 rfl rfl rfl rfl (by decide))).trans <| (if_neg (ne_fn "how_many" "out" l29 l9 rfl rfl rfl rfl (by decide))).trans <| (if_neg (ne_fn "how_many" "come" l29 l15 rfl rfl rfl rfl (by decide))).trans <| (if_neg (ne_fn "how_many" "least_for" l29 l16 rfl rfl rfl rfl (by decide))).trans <| (if_neg (ne_fn "how_many" "letter_out" l29 l18 rfl rfl rfl rfl (by decide))).trans <| (if_neg (ne_fn "how_many" "round_of" l29 l23 rfl rfl rfl rfl (by decide))).trans <| (if_neg (ne_fn "how_many" "lengths" l29 l25 rfl rfl rfl rfl (by decide))).trans <| (if_neg (ne_fn "how_many" "places" l29 l27 rfl rfl rfl rfl (by decide))).trans <| if_pos rfl
  have gf_first_said := PySem.W.mg_of X G a30
  have hS_first_said : S f30 = some (sp_first_saidX K C) := by rw [eS]; exact (if_neg (ne_fn "first_said" "need_row" l30 l5 rfl rfl rfl rfl (by decide))).trans <| (if_neg (ne_fn "first_said" "need_word" l30 l6 rfl rfl rfl rfl (by decide))).trans <| (if_neg (ne_fn "first_said" "need_many" l30 l14 rfl rfl rfl rfl (by decide))).trans <| (if_neg (ne_fn "first_said" "out" l30 l9 rfl rfl rfl rfl (by decide))).trans <| (if_neg (ne_fn "first_said" "come" l30 l15 rfl rfl rfl rfl (by decide))).trans <| (if_neg (ne_fn "first_said" "least_for" l30 l16 rfl rfl rfl rfl (by decide))).trans <| (if_neg (ne_fn "first_said" "letter_out" l30 l18 rfl rfl rfl rfl (by decide))).trans <| (if_neg (ne_fn "first_said" "round_of" l30 l23 rfl rfl rfl rfl (by decide))).trans <| (if_neg (ne_fn "first_said" "lengths" l30 l25 rfl rfl rfl rfl (by decide))).trans <| (if_neg (ne_fn "first_said" "places" l30 l27 rfl rfl rfl rfl (by decide))).trans <| (if_neg (ne_fn "first_said" "how_many" l30 l29 rfl rfl rfl rfl (by decide))).trans <| if_pos rfl
  have gf_come_alike := PySem.W.mg_of X G a31
  have hS_come_alike : S f31 = some (sp_come_alikeX K C) := by rw [eS]; exact (if_neg (ne_fn "come_alike" "need_row" l31 l5 rfl rfl rfl rfl (by decide))).trans <| (if_neg (ne_fn "come_alike" "need_word" l31 l6 rfl rfl rfl rfl (by decide))).trans <| (if_neg (ne_fn "come_alike" "need_many" l31 l14 rfl rfl rfl rfl (by decide))).trans <| (if_neg (ne_fn "come_alike" "out" l31 l9 rfl rfl rfl rfl (by decide))).trans <| (if_neg (ne_fn "come_alike" "come" l31 l15 rfl rfl rfl rfl (by decide))).trans <| (if_neg (ne_fn "come_alike" "least_for" l31 l16 rfl rfl rfl rfl (by decide))).trans <| (if_neg (ne_fn "come_alike" "letter_out" l31 l18 rfl rfl rfl rfl (by decide))).trans <| (if_neg (ne_fn "come_alike" "round_of" l31 l23 rfl rfl rfl rfl (by decide))).trans <| (if_neg (ne_fn "come_alike" "lengths" l31 l25 rfl rfl rfl rfl (by decide))).trans <| (if_neg (ne_fn "come_alike" "places" l31 l27 rfl rfl rfl rfl (by decide))).trans <| (if_neg (ne_fn "come_alike" "how_many" l31 l29 rfl rfl rfl rfl (by decide))).trans <| (if_neg (ne_fn "come_alike" "first_said" l31 l30 rfl rfl rfl rfl (by decide))).trans <| if_pos rfl
  have gf_are_alike := PySem.W.mg_of X G a33
  have hS_are_alike : S f33 = some (sp_are_alikeX K C) := by rw [eS]; exact (if_neg (ne_fn "are_alike" "need_row" l33 l5 rfl rfl rfl rfl (by decide))).trans <| (if_neg (ne_fn "are_alike" "need_word" l33 l6 rfl rfl rfl rfl (by decide))).trans <| (if_neg (ne_fn "are_alike" "need_many" l33 l14 rfl rfl rfl rfl (by decide))).trans <| (if_neg (ne_fn "are_alike" "out" l33 l9 rfl rfl rfl rfl (by decide))).trans <| (if_neg (ne_fn "are_alike" "come" l33 l15 rfl rfl rfl rfl (by decide))).trans <| (if_neg (ne_fn "are_alike" "least_for" l33 l16 rfl rfl rfl rfl (by decide))).trans <| (if_neg (ne_fn "are_alike" "letter_out" l33 l18 rfl rfl rfl rfl (by decide))).trans <| (if_neg (ne_fn "are_alike" "round_of" l33 l23 rfl rfl rfl rfl (by decide))).trans <| (if_neg (ne_fn "are_alike" "lengths" l33 l25 rfl rfl rfl rfl (by decide))).trans <| (if_neg (ne_fn "are_alike" "places" l33 l27 rfl rfl rfl rfl (by decide))).trans <| (if_neg (ne_fn "are_alike" "how_many" l33 l29 rfl rfl rfl rfl (by decide))).trans <| (if_neg (ne_fn "are_alike" "first_said" l33 l30 rfl rfl rfl rfl (by decide))).trans <| (if_neg (ne_fn "are_alike" "come_alike" l33 l31 rfl rfl rfl rfl (by decide))).trans <| if_pos rfl
  have gf_parting := PySem.W.mg_of X G a34
  have hS_parting : S f34 = some (sp_partingX K C) := by rw [eS]; exact (if_neg (ne_fn "parting" "need_row" l34 l5 rfl rfl rfl rfl (by decide))).trans <| (if_neg (ne_fn "parting" "need_word" l34 l6 rfl rfl rfl rfl (by decide))).trans <| (if_neg (ne_fn "parting" "need_many" l34 l14 rfl rfl rfl rfl (by decide))).trans <| (if_neg (ne_fn "parting" "out" l34 l9 rfl rfl rfl rfl (by decide))).trans <| (if_neg (ne_fn "parting" "come" l34 l15 rfl rfl rfl rfl (by decide))).trans <| (if_neg (ne_fn "parting" "least_for" l34 l16 rfl rfl rfl rfl (by decide))).trans <| (if_neg (ne_fn "parting" "letter_out" l34 l18 rfl rfl rfl rfl (by decide))).trans <| (if_neg (ne_fn "parting" "round_of" l34 l23 rfl rfl rfl rfl (by decide))).trans <| (if_neg (ne_fn "parting" "lengths" l34 l25 rfl rfl rfl rfl (by decide))).trans <| (if_neg (ne_fn "parting" "places" l34 l27 rfl rfl rfl rfl (by decide))).trans <| (if_neg (ne_fn "parting" "how_many" l34 l29 rfl rfl rfl rfl (by decide))).trans <| (if_neg (ne_fn "parting" "first_said" l34 l30 rfl rfl rfl rfl (by decide))).trans <| (if_neg (ne_fn "parting" "come_alike" l34 l31 rfl rfl rfl rfl (by decide))).trans <| (if_neg (ne_fn "parting" "are_alike" l34 l33 rfl rfl rfl rfl (by decide))).trans <| if_pos rfl
  have gf_does_nothing := PySem.W.mg_of X G a35
  have hS_does_nothing : S f35 = some (sp_does_nothingX K C) := by rw [eS]; exact (if_neg (ne_fn "does_nothing" "need_row" l35 l5 rfl rfl rfl rfl (by decide))).trans <| (if_neg (ne_fn "does_nothing" "need_word" l35 l6 rfl rfl rfl rfl (by decide))).trans <| (if_neg (ne_fn "does_nothing" "need_many" l35 l14 rfl rfl rfl rfl (by decide))).trans <| (if_neg (ne_fn "does_nothing" "out" l35 l9 rfl rfl rfl rfl (by decide))).trans <| (if_neg (ne_fn "does_nothing" "come" l35 l15 rfl rfl rfl rfl (by decide))).trans <| (if_neg (ne_fn "does_nothing" "least_for" l35 l16 rfl rfl rfl rfl (by decide))).trans <| (if_neg (ne_fn "does_nothing" "letter_out" l35 l18 rfl rfl rfl rfl (by decide))).trans <| (if_neg (ne_fn "does_nothing" "round_of" l35 l23 rfl rfl rfl rfl (by decide))).trans <| (if_neg (ne_fn "does_nothing" "lengths" l35 l25 rfl rfl rfl rfl (by decide))).trans <| (if_neg (ne_fn "does_nothing" "places" l35 l27 rfl rfl rfl rfl (by decide))).trans <| (if_neg (ne_fn "does_nothing" "how_many" l35 l29 rfl rfl rfl rfl (by decide))).trans <| (if_neg (ne_fn "does_nothing" "first_said" l35 l30 rfl rfl rfl rfl (by decide))).trans <| (if_neg (ne_fn "does_nothing" "come_alike" l35 l31 rfl rfl rfl rfl (by decide))).trans <| (if_neg (ne_fn "does_nothing" "are_alike" l35 l33 rfl rfl rfl rfl (by decide))).trans <| (if_neg (ne_fn "does_nothing" "parting" l35 l34 rfl rfl rfl rfl (by decide))).trans <| if_pos rfl
  have gf_undone_by := PySem.W.mg_of X G a36
  have hS_undone_by : S f36 = some (sp_undone_byX K C) := by rw [eS]; exact (if_neg (ne_fn "undone_by" "need_row" l36 l5 rfl rfl rfl rfl (by decide))).trans <| (if_neg (ne_fn "undone_by" "need_word" l36 l6 rfl rfl rfl rfl (by decide))).trans <| (if_neg (ne_fn "undone_by" "need_many" l36 l14 rfl rfl rfl rfl (by decide))).trans <| (if_neg (ne_fn "undone_by" "out" l36 l9 rfl rfl rfl rfl (by decide))).trans <| (if_neg (ne_fn "undone_by" "come" l36 l15 rfl rfl rfl rfl (by decide))).trans <| (if_neg (ne_fn "undone_by" "least_for" l36 l16 rfl rfl rfl rfl (by decide))).trans <| (if_neg (ne_fn "undone_by" "letter_out" l36 l18 rfl rfl rfl rfl (by decide))).trans <| (if_neg (ne_fn "undone_by" "round_of" l36 l23 rfl rfl rfl rfl (by decide))).trans <| (if_neg (ne_fn "undone_by" "lengths" l36 l25 rfl rfl rfl rfl (by decide))).trans <| (if_neg (ne_fn "undone_by" "places" l36 l27 rfl rfl rfl rfl (by decide))).trans <| (if_neg (ne_fn "undone_by" "how_many" l36 l29 rfl rfl rfl rfl (by decide))).trans <| (if_neg (ne_fn "undone_by" "first_said" l36 l30 rfl rfl rfl rfl (by decide))).trans <| (if_neg (ne_fn "undone_by" "come_alike" l36 l31 rfl rfl rfl rfl (by decide))).trans <| (if_neg (ne_fn "undone_by" "are_alike" l36 l33 rfl rfl rfl rfl (by decide))).trans <| (if_neg (ne_fn "undone_by" "parting" l36 l34 rfl rfl rfl rfl (by decide))).trans <| (if_neg (ne_fn "undone_by" "does_nothing" l36 l35 rfl rfl rfl rfl (by decide))).trans <| if_pos rfl
  have gf_who_can := PySem.W.mg_of X G a39
  have hS_who_can : S f39 = some (sp_who_canX K C) := by rw [eS]; exact (if_neg (ne_fn "who_can" "need_row" l39 l5 rfl rfl rfl rfl (by decide))).trans <| (if_neg (ne_fn "who_can" "need_word" l39 l6 rfl rfl rfl rfl (by decide))).trans <| (if_neg (ne_fn "who_can" "need_many" l39 l14 rfl rfl rfl rfl (by decide))).trans <| (if_neg (ne_fn "who_can" "out" l39 l9 rfl rfl rfl rfl (by decide))).trans <| (if_neg (ne_fn "who_can" "come" l39 l15 rfl rfl rfl rfl (by decide))).trans <| (if_neg (ne_fn "who_can" "least_for" l39 l16 rfl rfl rfl rfl (by decide))).trans <| (if_neg (ne_fn "who_can" "letter_out" l39 l18 rfl rfl rfl rfl (by decide))).trans <| (if_neg (ne_fn "who_can" "round_of" l39 l23 rfl rfl rfl rfl (by decide))).trans <| (if_neg (ne_fn "who_can" "lengths" l39 l25 rfl rfl rfl rfl (by decide))).trans <| (if_neg (ne_fn "who_can" "places" l39 l27 rfl rfl rfl rfl (by decide))).trans <| (if_neg (ne_fn "who_can" "how_many" l39 l29 rfl rfl rfl rfl (by decide))).trans <| (if_neg (ne_fn "who_can" "first_said" l39 l30 rfl rfl rfl rfl (by decide))).trans <| (if_neg (ne_fn "who_can" "come_alike" l39 l31 rfl rfl rfl rfl (by decide))).trans <| (if_neg (ne_fn "who_can" "are_alike" l39 l33 rfl rfl rfl rfl (by decide))).trans <| (if_neg (ne_fn "who_can" "parting" l39 l34 rfl rfl rfl rfl (by decide))).trans <| (if_neg (ne_fn "who_can" "does_nothing" l39 l35 rfl rfl rfl rfl (by decide))).trans <| (if_neg (ne_fn "who_can" "undone_by" l39 l36 rfl rfl rfl rfl (by decide))).trans <| if_pos rfl
  have AS : ∀ f sp, S f = some sp → HeldN l.prog w K mg base 6 f sp := fun f sp h => by
    replace h : (if f = f5 then some (sp_need_rowX K C) else if f = f6 then some (sp_need_wordX K C) else if f = f14 then some (sp_need_manyX K C) else if f = f9 then some (sp_outX K C) else if f = f15 then some (sp_comeX K C) else if f = f16 then some (sp_least_forX K C) else if f = f18 then some (sp_letter_outX K C) else if f = f23 then some (sp_round_ofX K C) else if f = f25 then some (sp_lengthsX K C) else if f = f27 then some (sp_placesX K C) else if f = f29 then some (sp_how_manyX K C) else if f = f30 then some (sp_first_saidX K C) else if f = f31 then some (sp_come_alikeX K C) else if f = f33 then some (sp_are_alikeX K C) else if f = f34 then some (sp_partingX K C) else if f = f35 then some (sp_does_nothingX K C) else if f = f36 then some (sp_undone_byX K C) else if f = f39 then some (sp_who_canX K C) else none) = some sp := by rw [eS] at h; exact h
    by_cases e : f = f5
    · subst e
      rw [if_pos rfl] at h
      cases h
      exact A_need_rowX.mono (by decide)
    rw [if_neg e] at h
    by_cases e : f = f6
    · subst e
      rw [if_pos rfl] at h
      cases h
      exact A_need_wordX.mono (by decide)
    rw [if_neg e] at h
    by_cases e : f = f14
    · subst e
      rw [if_pos rfl] at h
      cases h
      exact A_need_manyX.mono (by decide)
    rw [if_neg e] at h
    by_cases e : f = f9
    · subst e
      rw [if_pos rfl] at h
      cases h
      exact A_outX.mono (by decide)
    rw [if_neg e] at h
    by_cases e : f = f15
    · subst e
      rw [if_pos rfl] at h
      cases h
      exact A_comeX.mono (by decide)
    rw [if_neg e] at h
    by_cases e : f = f16
    · subst e
      rw [if_pos rfl] at h
      cases h
      exact A_least_forX.mono (by decide)
    rw [if_neg e] at h
    by_cases e : f = f18
    · subst e
      rw [if_pos rfl] at h
      cases h
      exact A_letter_outX.mono (by decide)
    rw [if_neg e] at h
    by_cases e : f = f23
    · subst e
      rw [if_pos rfl] at h
      cases h
      exact A_round_ofX.mono (by decide)
    rw [if_neg e] at h
    by_cases e : f = f25
    · subst e
      rw [if_pos rfl] at h
      cases h
      exact A_lengthsX.mono (by decide)
    rw [if_neg e] at h
    by_cases e : f = f27
    · subst e
      rw [if_pos rfl] at h
      cases h
      exact A_placesX.mono (by decide)
    rw [if_neg e] at h
    by_cases e : f = f29
    · subst e
      rw [if_pos rfl] at h
      cases h
      exact A_how_manyX.mono (by decide)
    rw [if_neg e] at h
    by_cases e : f = f30
    · subst e
      rw [if_pos rfl] at h
      cases h
      exact A_first_saidX.mono (by decide)
    rw [if_neg e] at h
    by_cases e : f = f31
    · subst e
      rw [if_pos rfl] at h
      cases h
      exact A_come_alikeX.mono (by decide)
    rw [if_neg e] at h
    by_cases e : f = f33
    · subst e
      rw [if_pos rfl] at h
      cases h
      exact A_are_alikeX.mono (by decide)
    rw [if_neg e] at h
    by_cases e : f = f34
    · subst e
      rw [if_pos rfl] at h
      cases h
      exact A_partingX.mono (by decide)
    rw [if_neg e] at h
    by_cases e : f = f35
    · subst e
      rw [if_pos rfl] at h
      cases h
      exact A_does_nothingX.mono (by decide)
    rw [if_neg e] at h
    by_cases e : f = f36
    · subst e
      rw [if_pos rfl] at h
      cases h
      exact A_undone_byX.mono (by decide)
    rw [if_neg e] at h
    by_cases e : f = f39
    · subst e
      rw [if_pos rfl] at h
      cases h
      exact A_who_canX.mono (by decide)
    rw [if_neg e] at h
    cases h
  have hSL : ∃ SL : LamT → Sp → Prop, SL = fun lt sp => (lt = lamD0 ∧ sp = sp_lam0 K S) ∨ (lt = lamD1 ∧ sp = sp_lam1 K S) ∨ (lt = lamD2 ∧ sp = sp_lam2 K S) ∨ (lt = lamD3 ∧ sp = sp_lam3 K S) ∨ (lt = lamD4 ∧ sp = sp_lam4 K S) ∨ (lt = lamD5 ∧ sp = sp_lam5 K C) ∨ (lt = lamD6 ∧ sp = sp_lam6 K C) ∨ (lt = lamD7 ∧ sp = sp_lam7 K S) ∨ (lt = lamD8 ∧ sp = sp_lam8 K C) ∨ (lt = lamD9 ∧ sp = sp_lam9 K C) ∨ (lt = lamD10 ∧ sp = sp_lam10 K C) ∨ False := ⟨_, rfl⟩
  obtain ⟨SL, eSL⟩ := hSL
  have hSL0 : SL lamD0 (sp_lam0 K S) := by rw [eSL]; exact .inl ⟨rfl, rfl⟩
  have L_0 := okL_lam0 (P := l.prog) (w := w) (base := base) AS
  have hSL1 : SL lamD1 (sp_lam1 K S) := by rw [eSL]; exact .inr (.inl ⟨rfl, rfl⟩)
  have L_1 := okL_lam1 (P := l.prog) (w := w) (base := base) AS
  have hSL2 : SL lamD2 (sp_lam2 K S) := by rw [eSL]; exact .inr (.inr (.inl ⟨rfl, rfl⟩))
  have L_2 := okL_lam2 (P := l.prog) (w := w) (base := base) AS
  have hSL3 : SL lamD3 (sp_lam3 K S) := by rw [eSL]; exact .inr (.inr (.inr (.inl ⟨rfl, rfl⟩)))
  have L_3 := okL_lam3 (P := l.prog) (w := w) (base := base) AS
  have hSL4 : SL lamD4 (sp_lam4 K S) := by rw [eSL]; exact .inr (.inr (.inr (.inr (.inl ⟨rfl, rfl⟩))))
  have L_4 := okL_lam4 (P := l.prog) (w := w) (base := base) AS
  have hSL5 : SL lamD5 (sp_lam5 K C) := by rw [eSL]; exact .inr (.inr (.inr (.inr (.inr (.inl ⟨rfl, rfl⟩)))))
  have L_5 := okL_lam5 (P := l.prog) (w := w) (base := base) gm_letter_out A_letter_outX
  have hSL6 : SL lamD6 (sp_lam6 K C) := by rw [eSL]; exact .inr (.inr (.inr (.inr (.inr (.inr (.inl ⟨rfl, rfl⟩))))))
  have L_6 := okL_lam6 (P := l.prog) (w := w) (base := base) gm_out A_outX
  have hSL7 : SL lamD7 (sp_lam7 K S) := by rw [eSL]; exact .inr (.inr (.inr (.inr (.inr (.inr (.inr (.inl ⟨rfl, rfl⟩)))))))
  have L_7 := okL_lam7 (P := l.prog) (w := w) (base := base) AS
  have hSL8 : SL lamD8 (sp_lam8 K C) := by rw [eSL]; exact .inr (.inr (.inr (.inr (.inr (.inr (.inr (.inr (.inl ⟨rfl, rfl⟩))))))))
  have L_8 := okL_lam8 (P := l.prog) (w := w) (base := base) gm_undone_by A_undone_byX
  have hSL9 : SL lamD9 (sp_lam9 K C) := by rw [eSL]; exact .inr (.inr (.inr (.inr (.inr (.inr (.inr (.inr (.inr (.inl ⟨rfl, rfl⟩)))))))))
  have L_9 := okL_lam9 (P := l.prog) (w := w) (base := base) gm_undone_by A_undone_byX
  have hSL10 : SL lamD10 (sp_lam10 K C) := by rw [eSL]; exact .inr (.inr (.inr (.inr (.inr (.inr (.inr (.inr (.inr (.inr (.inl ⟨rfl, rfl⟩))))))))))
  have L_10 := okL_lam10 (P := l.prog) (w := w) (base := base) gm_come A_comeX
  have AL : ∀ lt sp, SL lt sp → LamOk l.prog w K mg base 6 lt sp := fun lt sp hh => by
    rw [eSL] at hh
    rcases hh with ⟨rfl, rfl⟩ | ⟨rfl, rfl⟩ | ⟨rfl, rfl⟩ | ⟨rfl, rfl⟩ | ⟨rfl, rfl⟩ | ⟨rfl, rfl⟩ | ⟨rfl, rfl⟩ | ⟨rfl, rfl⟩ | ⟨rfl, rfl⟩ | ⟨rfl, rfl⟩ | ⟨rfl, rfl⟩ | hh
    · exact L_0.mono (by decide)
    · exact L_1.mono (by decide)
    · exact L_2.mono (by decide)
    · exact L_3.mono (by decide)
    · exact L_4.mono (by decide)
    · exact L_5.mono (by decide)
    · exact L_6.mono (by decide)
    · exact L_7.mono (by decide)
    · exact L_8.mono (by decide)
    · exact L_9.mono (by decide)
    · exact L_10.mono (by decide)
    · exact hh.elim
  have D_l_refused := ok_l_refused (P := l.prog) (w := w) (base := base) F47 (PySem.W.mg_of X G a47) gx_TalkError gx_NoWord gx_NoRow gx_NoLetter gx_NoOne gx_NoMany gx_NoPairs gx_NoPlace gx_NothingLeft gx_TooLong TX AL AS nb_isinstance nb_ValueError
  have D_l_words_refused := ok_l_words_refused (P := l.prog) (w := w) (base := base) F49 (PySem.W.mg_of X G a49) TX gf_first_said hS_first_said gf_how_many hS_how_many gf_lengths hS_lengths gf_out hS_out gf_come_alike hS_come_alike gf_places hS_places TB_49 hT_49 hU_49 hSL4 hSL5 hSL6 hk_1 hk_2 D_l_refused rfl
  have D_l_rows_refused := ok_l_rows_refused (P := l.prog) (w := w) (base := base) F48 (PySem.W.mg_of X G a48) TX gf_does_nothing hS_does_nothing gf_round_of hS_round_of gf_first_said hS_first_said gf_how_many hS_how_many gf_lengths hS_lengths gf_parting hS_parting gf_are_alike hS_are_alike gf_letter_out hS_letter_out gf_least_for hS_least_for gf_come hS_come gf_out hS_out gf_who_can hS_who_can gf_come_alike hS_come_alike gf_places hS_places TB_48 hT_48 hU_48 hSL0 hSL1 hSL2 hSL3 hk_0 D_l_refused rfl
  exact okF_law (P := l.prog) (w := w) (base := base) F50 TX gf_least_for hS_least_for gf_come hS_come gf_places hS_places TB_50 hT_50 hU_50 hSL7 hSL8 hSL9 hSL10 hk_0 hk_1 hk_2 hk_3 hk_4 D_l_bags D_l_mouths D_l_take D_l_words_refused D_l_rows_refused D_l_refused D_l_counter rfl
end HH
open PySem PySem.W PyProof.Rows
set_option maxHeartbeats 0 in
theorem PySem.Challenge.cw_halfheard_k14_who_is_refused_holds : PySem.Challenge.rw_halfheard_k14_who_is_refused.Holds := by
  w_on; o_law; k_head; (case hw => w_witness2)
  k_fill
  refine HH.walk_lam (l := PySem.Challenge.rw_halfheard_k14_who_is_refused) (n := 63) (k := 10) (x := "script") rfl (by decide) rfl ⟨rfl, by decide, by decide⟩ ?F
  case F =>
    intro w mg fa h hTb KX G hmg
    refine' HH.all_mk KX G hmg ?a0 ?l0 ?c0 ?k0 ?a1 ?l1 ?c1 ?k1 ?a2 ?l2 ?c2 ?k2 ?a3 ?l3 ?c3 ?k3 ?a4 ?l4 ?c4 ?k4 ?a5 ?l5 ?c5 ?k5 ?a6 ?l6 ?c6 ?k6 ?a7 ?l7 ?c7 ?k7 ?a8 ?l8 ?c8 ?k8 ?a9 ?l9 ?c9 ?k9 ?a10 ?l10 ?c10 ?k10 ?a11 ?l11 ?c11 ?k11 ?a12 ?l12 ?c12 ?k12 ?a13 ?l13 ?c13 ?k13 ?a14 ?l14 ?c14 ?k14 ?a15 ?l15 ?c15 ?k15 ?a16 ?l16 ?c16 ?k16 ?a17 ?l17 ?c17 ?k17 ?a18 ?l18 ?c18 ?k18 ?a19 ?l19 ?c19 ?k19 ?a20 ?l20 ?c20 ?k20 ?a21 ?l21 ?c21 ?k21 ?a22 ?l22 ?c22 ?k22 ?a23 ?l23 ?c23 ?k23 ?a24 ?l24 ?c24 ?k24 ?a25 ?l25 ?c25 ?k25 ?a26 ?l26 ?c26 ?k26 ?a27 ?l27 ?c27 ?k27 ?a28 ?l28 ?c28 ?k28 ?a29 ?l29 ?c29 ?k29 ?a30 ?l30 ?c30 ?k30 ?a31 ?l31 ?c31 ?k31 ?a32 ?l32 ?c32 ?k32 ?a33 ?l33 ?c33 ?k33 ?a34 ?l34 ?c34 ?k34 ?a35 ?l35 ?c35 ?k35 ?a36 ?l36 ?c36 ?k36 ?a37 ?l37 ?c37 ?k37 ?a38 ?l38 ?c38 ?k38 ?a39 ?l39 ?c39 ?k39 ?a40 ?l40 ?c40 ?k40 ?a41 ?l41 ?c41 ?k41 ?a42 ?l42 ?c42 ?k42 ?a43 ?l43 ?c43 ?k43 ?a44 ?l44 ?c44 ?k44 ?a45 ?l45 ?c45 ?k45 ?a46 ?l46 ?c46 ?k46 ?a47 ?l47 ?c47 ?k47 ?a48 ?l48 ?c48 ?k48 ?kc48 ?kp48 ?kh48 ?kn48 ?kt48 ?a49 ?l49 ?c49 ?k49 ?kc49 ?kp49 ?kh49 ?kn49 ?kt49 ?a50 ?l50 ?c50 ?k50 ?kc50 ?kp50 ?kh50 ?kn50 ?kt50 ?kd48_49 ?kd48_50 ?kd49_50 ?z_isinstance ?z_bool ?z_int ?z_len ?z_str ?z_all ?z_tuple ?z_range ?z_zip ?z_min ?z_max ?z_ValueError ?y_SMALL ?y_FAR ?y_MOST ?ga_TalkError ?ga_NoRow ?ga_NoWord ?ga_NoLetter ?ga_NoMany ?ga_NoOne ?ga_NoPlace ?ga_NoPairs ?ga_TooLong ?ga_NothingLeft ?tk_b ?tk_d ?tk_t ?oc_n ?oc_t ?xt_0 ?xd_0 ?xt_1 ?xd_1 ?xt_2 ?xd_2 ?xt_3 ?xd_3 ?xt_4 ?xd_4 ?xt_5 ?xd_5 ?xt_6 ?xd_6 ?xt_7 ?xd_7 ?xt_8 ?xd_8 ?xe_0 ?xk_0 ?xb_0 ?xg_0 ?xh_0 ?xa_0 ?xm_0 ?xs_0 ?xi_0_1 ?xn_0_1 ?xi_0_2 ?xn_0_2 ?xi_0_3 ?xn_0_3 ?xi_0_4 ?xn_0_4 ?xi_0_5 ?xn_0_5 ?xi_0_6 ?xn_0_6 ?xi_0_7 ?xn_0_7 ?xi_0_8 ?xn_0_8 ?xv_0 ?xe_1 ?xk_1 ?xb_1 ?xg_1 ?xh_1 ?xa_1 ?xm_1 ?xs_1 ?xi_1_0 ?xn_1_0 ?xi_1_2 ?xn_1_2 ?xi_1_3 ?xn_1_3 ?xi_1_4 ?xn_1_4 ?xi_1_5 ?xn_1_5 ?xi_1_6 ?xn_1_6 ?xi_1_7 ?xn_1_7 ?xi_1_8 ?xn_1_8 ?xv_1 ?xe_2 ?xk_2 ?xb_2 ?xg_2 ?xh_2 ?xa_2 ?xm_2 ?xs_2 ?xi_2_0 ?xn_2_0 ?xi_2_1 ?xn_2_1 ?xi_2_3 ?xn_2_3 ?xi_2_4 ?xn_2_4 ?xi_2_5 ?xn_2_5 ?xi_2_6 ?xn_2_6 ?xi_2_7 ?xn_2_7 ?xi_2_8 ?xn_2_8 ?xv_2 ?xe_3 ?xk_3 ?xb_3 ?xg_3 ?xh_3 ?xa_3 ?xm_3 ?xs_3 ?xi_3_0 ?xn_3_0 ?xi_3_1 ?xn_3_1 ?xi_3_2 ?xn_3_2 ?xi_3_4 ?xn_3_4 ?xi_3_5 ?xn_3_5 ?xi_3_6 ?xn_3_6 ?xi_3_7 ?xn_3_7 ?xi_3_8 ?xn_3_8 ?xv_3 ?xe_4 ?xk_4 ?xb_4 ?xg_4 ?xh_4 ?xa_4 ?xm_4 ?xs_4 ?xi_4_0 ?xn_4_0 ?xi_4_1 ?xn_4_1 ?xi_4_2 ?xn_4_2 ?xi_4_3 ?xn_4_3 ?xi_4_5 ?xn_4_5 ?xi_4_6 ?xn_4_6 ?xi_4_7 ?xn_4_7 ?xi_4_8 ?xn_4_8 ?xv_4 ?xe_5 ?xk_5 ?xb_5 ?xg_5 ?xh_5 ?xa_5 ?xm_5 ?xs_5 ?xi_5_0 ?xn_5_0 ?xi_5_1 ?xn_5_1 ?xi_5_2 ?xn_5_2 ?xi_5_3 ?xn_5_3 ?xi_5_4 ?xn_5_4 ?xi_5_6 ?xn_5_6 ?xi_5_7 ?xn_5_7 ?xi_5_8 ?xn_5_8 ?xv_5 ?xe_6 ?xk_6 ?xb_6 ?xg_6 ?xh_6 ?xa_6 ?xm_6 ?xs_6 ?xi_6_0 ?xn_6_0 ?xi_6_1 ?xn_6_1 ?xi_6_2 ?xn_6_2 ?xi_6_3 ?xn_6_3 ?xi_6_4 ?xn_6_4 ?xi_6_5 ?xn_6_5 ?xi_6_7 ?xn_6_7 ?xi_6_8 ?xn_6_8 ?xv_6
    (case a0 => k_is)
    (case l0 => k_is)
    (case c0 => k_is)
    (case k0 => k_is)
    (case a1 => k_is)
    (case l1 => k_is)
    (case c1 => k_is)
    (case k1 => k_is)
    (case a2 => k_is)
    (case l2 => k_is)
    (case c2 => k_is)
    (case k2 => k_is)
    (case a3 => k_is)
    (case l3 => k_is)
    (case c3 => k_is)
    (case k3 => k_is)
    (case a4 => k_is)
    (case l4 => k_is)
    (case c4 => k_is)
    (case k4 => k_is)
    (case a5 => k_is)
    (case l5 => k_is)
    (case c5 => k_is)
    (case k5 => k_is)
    (case a6 => k_is)
    (case l6 => k_is)
    (case c6 => k_is)
    (case k6 => k_is)
    (case a7 => k_is)
    (case l7 => k_is)
    (case c7 => k_is)
    (case k7 => k_is)
    (case a8 => k_is)
    (case l8 => k_is)
    (case c8 => k_is)
    (case k8 => k_is)
    (case a9 => k_is)
    (case l9 => k_is)
    (case c9 => k_is)
    (case k9 => k_is)
    (case a10 => k_is)
    (case l10 => k_is)
    (case c10 => k_is)
    (case k10 => k_is)
    (case a11 => k_is)
    (case l11 => k_is)
    (case c11 => k_is)
    (case k11 => k_is)
    (case a12 => k_is)
    (case l12 => k_is)
    (case c12 => k_is)
    (case k12 => k_is)
    (case a13 => k_is)
    (case l13 => k_is)
    (case c13 => k_is)
    (case k13 => k_is)
    (case a14 => k_is)
    (case l14 => k_is)
    (case c14 => k_is)
    (case k14 => k_is)
    (case a15 => k_is)
    (case l15 => k_is)
    (case c15 => k_is)
    (case k15 => k_is)
    (case a16 => k_is)
    (case l16 => k_is)
    (case c16 => k_is)
    (case k16 => k_is)
    (case a17 => k_is)
    (case l17 => k_is)
    (case c17 => k_is)
    (case k17 => k_is)
    (case a18 => k_is)
    (case l18 => k_is)
    (case c18 => k_is)
    (case k18 => k_is)
    (case a19 => k_is)
    (case l19 => k_is)
    (case c19 => k_is)
    (case k19 => k_is)
    (case a20 => k_is)
    (case l20 => k_is)
    (case c20 => k_is)
    (case k20 => k_is)
    (case a21 => k_is)
    (case l21 => k_is)
    (case c21 => k_is)
    (case k21 => k_is)
    (case a22 => k_is)
    (case l22 => k_is)
    (case c22 => k_is)
    (case k22 => k_is)
    (case a23 => k_is)
    (case l23 => k_is)
    (case c23 => k_is)
    (case k23 => k_is)
    (case a24 => k_is)
    (case l24 => k_is)
    (case c24 => k_is)
    (case k24 => k_is)
    (case a25 => k_is)
    (case l25 => k_is)
    (case c25 => k_is)
    (case k25 => k_is)
    (case a26 => k_is)
    (case l26 => k_is)
    (case c26 => k_is)
    (case k26 => k_is)
    (case a27 => k_is)
    (case l27 => k_is)
    (case c27 => k_is)
    (case k27 => k_is)
    (case a28 => k_is)
    (case l28 => k_is)
    (case c28 => k_is)
    (case k28 => k_is)
    (case a29 => k_is)
    (case l29 => k_is)
    (case c29 => k_is)
    (case k29 => k_is)
    (case a30 => k_is)
    (case l30 => k_is)
    (case c30 => k_is)
    (case k30 => k_is)
    (case a31 => k_is)
    (case l31 => k_is)
    (case c31 => k_is)
    (case k31 => k_is)
    (case a32 => k_is)
    (case l32 => k_is)
    (case c32 => k_is)
    (case k32 => k_is)
    (case a33 => k_is)
    (case l33 => k_is)
    (case c33 => k_is)
    (case k33 => k_is)
    (case a34 => k_is)
    (case l34 => k_is)
    (case c34 => k_is)
    (case k34 => k_is)
    (case a35 => k_is)
    (case l35 => k_is)
    (case c35 => k_is)
    (case k35 => k_is)
    (case a36 => k_is)
    (case l36 => k_is)
    (case c36 => k_is)
    (case k36 => k_is)
    (case a37 => k_is)
    (case l37 => k_is)
    (case c37 => k_is)
    (case k37 => k_is)
    (case a38 => k_is)
    (case l38 => k_is)
    (case c38 => k_is)
    (case k38 => k_is)
    (case a39 => k_is)
    (case l39 => k_is)
    (case c39 => k_is)
    (case k39 => k_is)
    (case a40 => k_is)
    (case l40 => k_is)
    (case c40 => k_is)
    (case k40 => k_is)
    (case a41 => k_is)
    (case l41 => k_is)
    (case c41 => k_is)
    (case k41 => k_is)
    (case a42 => k_is)
    (case l42 => k_is)
    (case c42 => k_is)
    (case k42 => k_is)
    (case a43 => k_is)
    (case l43 => k_is)
    (case c43 => k_is)
    (case k43 => k_is)
    (case a44 => k_is)
    (case l44 => k_is)
    (case c44 => k_is)
    (case k44 => k_is)
    (case a45 => k_is)
    (case l45 => k_is)
    (case c45 => k_is)
    (case k45 => k_is)
    (case a46 => k_is)
    (case l46 => k_is)
    (case c46 => k_is)
    (case k46 => k_is)
    (case a47 => k_is)
    (case l47 => k_is)
    (case c47 => k_is)
    (case k47 => k_is)
    (case a48 => k_is)
    (case l48 => k_is)
    (case c48 => k_is)
    (case k48 => k_is)
    (case kc48 => k_is)
    (case kp48 => rfl)
    (case kh48 => kernel_rfl)
    (case kn48 => kernel_rfl)
    (case kt48 => exact hTb _ (by decide))
    (case a49 => k_is)
    (case l49 => k_is)
    (case c49 => k_is)
    (case k49 => k_is)
    (case kc49 => k_is)
    (case kp49 => rfl)
    (case kh49 => kernel_rfl)
    (case kn49 => kernel_rfl)
    (case kt49 => exact hTb _ (by decide))
    (case a50 => k_is)
    (case l50 => k_is)
    (case c50 => k_is)
    (case k50 => k_is)
    (case kc50 => k_is)
    (case kp50 => rfl)
    (case kh50 => kernel_rfl)
    (case kn50 => kernel_rfl)
    (case kt50 => exact hTb _ (by decide))
    (case kd48_49 => decide)
    (case kd48_50 => decide)
    (case kd49_50 => decide)
    (case z_isinstance => k_is)
    (case z_bool => k_is)
    (case z_int => k_is)
    (case z_len => k_is)
    (case z_str => k_is)
    (case z_all => k_is)
    (case z_tuple => k_is)
    (case z_range => k_is)
    (case z_zip => k_is)
    (case z_min => k_is)
    (case z_max => k_is)
    (case z_ValueError => k_is)
    (case y_SMALL => k_is)
    (case y_FAR => k_is)
    (case y_MOST => k_is)
    (case ga_TalkError => k_is)
    (case ga_NoRow => k_is)
    (case ga_NoWord => k_is)
    (case ga_NoLetter => k_is)
    (case ga_NoMany => k_is)
    (case ga_NoOne => k_is)
    (case ga_NoPlace => k_is)
    (case ga_NoPairs => k_is)
    (case ga_TooLong => k_is)
    (case ga_NothingLeft => k_is)
    (case tk_b => k_is)
    (case tk_d => k_is)
    (case tk_t => k_is)
    (case oc_n => k_is)
    (case oc_t => k_is)
    (case xt_0 => k_is)
    (case xd_0 => k_is)
    (case xt_1 => k_is)
    (case xd_1 => k_is)
    (case xt_2 => k_is)
    (case xd_2 => k_is)
    (case xt_3 => k_is)
    (case xd_3 => k_is)
    (case xt_4 => k_is)
    (case xd_4 => k_is)
    (case xt_5 => k_is)
    (case xd_5 => k_is)
    (case xt_6 => k_is)
    (case xd_6 => k_is)
    (case xt_7 => k_is)
    (case xd_7 => k_is)
    (case xt_8 => k_is)
    (case xd_8 => k_is)
    (case xe_0 => k_exc)
    (case xk_0 => k_is)
    (case xb_0 => k_is)
    (case xg_0 => k_is)
    (case xh_0 => k_is)
    (case xa_0 => k_is)
    (case xm_0 => k_is)
    (case xs_0 => k_is)
    (case xi_0_1 => k_is)
    (case xn_0_1 => decide)
    (case xi_0_2 => k_is)
    (case xn_0_2 => decide)
    (case xi_0_3 => k_is)
    (case xn_0_3 => decide)
    (case xi_0_4 => k_is)
    (case xn_0_4 => decide)
    (case xi_0_5 => k_is)
    (case xn_0_5 => decide)
    (case xi_0_6 => k_is)
    (case xn_0_6 => decide)
    (case xi_0_7 => k_is)
    (case xn_0_7 => decide)
    (case xi_0_8 => k_is)
    (case xn_0_8 => decide)
    (case xv_0 => k_is)
    (case xe_1 => k_exc)
    (case xk_1 => k_is)
    (case xb_1 => k_is)
    (case xg_1 => k_is)
    (case xh_1 => k_is)
    (case xa_1 => k_is)
    (case xm_1 => k_is)
    (case xs_1 => k_is)
    (case xi_1_0 => k_is)
    (case xn_1_0 => decide)
    (case xi_1_2 => k_is)
    (case xn_1_2 => decide)
    (case xi_1_3 => k_is)
    (case xn_1_3 => decide)
    (case xi_1_4 => k_is)
    (case xn_1_4 => decide)
    (case xi_1_5 => k_is)
    (case xn_1_5 => decide)
    (case xi_1_6 => k_is)
    (case xn_1_6 => decide)
    (case xi_1_7 => k_is)
    (case xn_1_7 => decide)
    (case xi_1_8 => k_is)
    (case xn_1_8 => decide)
    (case xv_1 => k_is)
    (case xe_2 => k_exc)
    (case xk_2 => k_is)
    (case xb_2 => k_is)
    (case xg_2 => k_is)
    (case xh_2 => k_is)
    (case xa_2 => k_is)
    (case xm_2 => k_is)
    (case xs_2 => k_is)
    (case xi_2_0 => k_is)
    (case xn_2_0 => decide)
    (case xi_2_1 => k_is)
    (case xn_2_1 => decide)
    (case xi_2_3 => k_is)
    (case xn_2_3 => decide)
    (case xi_2_4 => k_is)
    (case xn_2_4 => decide)
    (case xi_2_5 => k_is)
    (case xn_2_5 => decide)
    (case xi_2_6 => k_is)
    (case xn_2_6 => decide)
    (case xi_2_7 => k_is)
    (case xn_2_7 => decide)
    (case xi_2_8 => k_is)
    (case xn_2_8 => decide)
    (case xv_2 => k_is)
    (case xe_3 => k_exc)
    (case xk_3 => k_is)
    (case xb_3 => k_is)
    (case xg_3 => k_is)
    (case xh_3 => k_is)
    (case xa_3 => k_is)
    (case xm_3 => k_is)
    (case xs_3 => k_is)
    (case xi_3_0 => k_is)
    (case xn_3_0 => decide)
    (case xi_3_1 => k_is)
    (case xn_3_1 => decide)
    (case xi_3_2 => k_is)
    (case xn_3_2 => decide)
    (case xi_3_4 => k_is)
    (case xn_3_4 => decide)
    (case xi_3_5 => k_is)
    (case xn_3_5 => decide)
    (case xi_3_6 => k_is)
    (case xn_3_6 => decide)
    (case xi_3_7 => k_is)
    (case xn_3_7 => decide)
    (case xi_3_8 => k_is)
    (case xn_3_8 => decide)
    (case xv_3 => k_is)
    (case xe_4 => k_exc)
    (case xk_4 => k_is)
    (case xb_4 => k_is)
    (case xg_4 => k_is)
    (case xh_4 => k_is)
    (case xa_4 => k_is)
    (case xm_4 => k_is)
    (case xs_4 => k_is)
    (case xi_4_0 => k_is)
    (case xn_4_0 => decide)
    (case xi_4_1 => k_is)
    (case xn_4_1 => decide)
    (case xi_4_2 => k_is)
    (case xn_4_2 => decide)
    (case xi_4_3 => k_is)
    (case xn_4_3 => decide)
    (case xi_4_5 => k_is)
    (case xn_4_5 => decide)
    (case xi_4_6 => k_is)
    (case xn_4_6 => decide)
    (case xi_4_7 => k_is)
    (case xn_4_7 => decide)
    (case xi_4_8 => k_is)
    (case xn_4_8 => decide)
    (case xv_4 => k_is)
    (case xe_5 => k_exc)
    (case xk_5 => k_is)
    (case xb_5 => k_is)
    (case xg_5 => k_is)
    (case xh_5 => k_is)
    (case xa_5 => k_is)
    (case xm_5 => k_is)
    (case xs_5 => k_is)
    (case xi_5_0 => k_is)
    (case xn_5_0 => decide)
    (case xi_5_1 => k_is)
    (case xn_5_1 => decide)
    (case xi_5_2 => k_is)
    (case xn_5_2 => decide)
    (case xi_5_3 => k_is)
    (case xn_5_3 => decide)
    (case xi_5_4 => k_is)
    (case xn_5_4 => decide)
    (case xi_5_6 => k_is)
    (case xn_5_6 => decide)
    (case xi_5_7 => k_is)
    (case xn_5_7 => decide)
    (case xi_5_8 => k_is)
    (case xn_5_8 => decide)
    (case xv_5 => k_is)
    (case xe_6 => k_exc)
    (case xk_6 => k_is)
    (case xb_6 => k_is)
    (case xg_6 => k_is)
    (case xh_6 => k_is)
    (case xa_6 => k_is)
    (case xm_6 => k_is)
    (case xs_6 => k_is)
    (case xi_6_0 => k_is)
    (case xn_6_0 => decide)
    (case xi_6_1 => k_is)
    (case xn_6_1 => decide)
    (case xi_6_2 => k_is)
    (case xn_6_2 => decide)
    (case xi_6_3 => k_is)
    (case xn_6_3 => decide)
    (case xi_6_4 => k_is)
    (case xn_6_4 => decide)
    (case xi_6_5 => k_is)
    (case xn_6_5 => decide)
    (case xi_6_7 => k_is)
    (case xn_6_7 => decide)
    (case xi_6_8 => k_is)
    (case xn_6_8 => decide)
    (case xv_6 => k_is)

