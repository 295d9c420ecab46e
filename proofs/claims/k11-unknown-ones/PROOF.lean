import PyProof.Rows.All
import Wide.All
import OpenK.AllK
import Wide.FinOn
import HandS.ForMost
import HandS.Flow
import HandS.Style
import HandS.IsInst
import HandS.TupAny
import HandS.TupMul
import HandS.TupLe
import HandS.Deep
import HandS.Wide
import HandS.Zip
import HandS.Walk
import HandS.Conv
import PyProof.StrBlock2
import KE.GoesEnum
import HandS.TupSets
import PySem.Challenge.RW_halfheard_k11_whole_unknown_ones
set_option Elab.async false
set_option linter.all false
set_option maxRecDepth 100000
set_option maxHeartbeats 4000000
namespace HH
open PySem PySem.Spec L2
/-! ### operators, with heads of their own -/
def rAddI : R2 := rI0 fun i j => .int (i + j)
def rSubI : R2 := rI0 fun i j => .int (i - j)
def rMulI : R2 := rI CMul fun i j => .int (i * j)
def rDivI : R2 := rI CDiv fun i j => .int (i / j)
def rModI : R2 := rI (fun _ j => 0 < j) fun i j => .int (i % j)
def rPowI : R2 := rI CPow fun i j => .int (i ^ j.toNat)
def rLtI : R2 := rI0 fun i j => .bl (decide (i < j))
def rLeI : R2 := rI0 fun i j => .bl (decide (i ≤ j))
def rGtI : R2 := rI0 fun i j => .bl (decide (j < i))
def rGeI : R2 := rI0 fun i j => .bl (decide (j ≤ i))
def rAddS : R2 := fun x y H Q => ∃ i j, x = .str i ∧ y = .str j ∧ i.length + j.length ≤ sizeLine ∧ Q (.str (i ++ j)) H
def rInC : R2 := fun x y H Q => ∃ (c : Nat) (z : Str), x = .str ⟨#[c]⟩ ∧ y = .str z ∧ Q (.bl (decide (c ∈ z.cps.toList))) H
def rNotInC : R2 := fun x y H Q => ∃ (c : Nat) (z : Str), x = .str ⟨#[c]⟩ ∧ y = .str z ∧ Q (.bl (!decide (c ∈ z.cps.toList))) H
def rIsNon : R2 := fun x y H Q => y = .non ∧ Q (.bl (decide (x = .non))) H
def rNotNon : R2 := fun x y H Q => y = .non ∧ Q (.bl (!decide (x = .non))) H
def rGtS : R2 := fun x y H Q => ∃ i j, x = .str i ∧ y = .str j ∧ Q (.bl (decide (j.cps.toList < i.cps.toList))) H
def rMulS : R2 := fun x y H Q => ∃ z n, x = .str z ∧ y = .int n ∧ MulOk z n ∧ Q (.str (Txt.mul z n)) H
def rLenQ (K : PySem.W.Frag) : List V → Hp → VK → Prop := fun xs H Q => ∃ p ys, xs = [.ref p] ∧ (SqL K H p ys ∨ SqT K H p ys) ∧ Q (.int ys.length) H
def rLenT : List V → Hp → VK → Prop := fun xs H Q => ∃ z, xs = [.str z] ∧ z.length ≤ sizeLine ∧ Q (.int z.length) H
def rMax2 : List V → Hp → VK → Prop := fun xs H Q => ∃ i j, xs = [.int i, .int j] ∧ Q (.int (if j > i then j else i)) H
def rMin2 : List V → Hp → VK → Prop := fun xs H Q => ∃ i j, xs = [.int i, .int j] ∧ Q (.int (if j < i then j else i)) H
def rIntQ : List V → Hp → VK → Prop := fun xs H Q => (∃ i, xs = [.int i] ∧ Q (.int i) H) ∨ ∃ k, xs = [.bl k] ∧ Q (.int (if k then 1 else 0)) H
def rTupQ (K : PySem.W.Frag) : List V → Hp → VK → Prop := fun xs H Q => ∃ p ys, xs = [.ref p] ∧ ((SqL K H p ys ∧ ∀ l, H l = none → Q (.ref l) (upd H l (.tup ys))) ∨ (SqT K H p ys ∧ Q (.ref p) H))
def rLstQ (K : PySem.W.Frag) : List V → Hp → VK → Prop := fun xs H Q => ∃ p ys, xs = [.ref p] ∧ (SqL K H p ys ∨ SqT K H p ys) ∧ ∀ l, H l = none → Q (.ref l) (upd H l (.lst ys))
def rJoin (K : PySem.W.Frag) : V → List V → Hp → VK → Prop := fun x xs H Q => ∃ a p, ∃ ys : List Str, x = .str a ∧ xs = [.ref p] ∧ (SqL K H p (ys.map V.str) ∨ SqT K H p (ys.map V.str)) ∧
      (ys.map (·.length)).sum + ys.length * a.length ≤ 16777216 ∧ Q (.str (Txt.join a ys)) H
def rReprB : List V → Hp → VK → Prop := fun xs H Q => ∃ b, xs = [.bl b] ∧ Q (.str (if b then "True" else "False")) H
section
variable {X : Cx}
theorem op_addI : OpR X (binaryOp .Add) rAddI := op_add
theorem op_subI : OpR X (binaryOp .Sub) rSubI := op_sub
theorem op_mulI : OpR X (binaryOp .Mult) rMulI := op_mul
theorem op_divI : OpR X (binaryOp .FloorDiv) rDivI := op_fdiv
theorem op_modI : OpR X (binaryOp .Mod) rModI := op_mod
theorem op_powI : OpR X (binaryOp .Pow) rPowI := op_pow
theorem op_ltI : OpR X (compareOp .Lt) rLtI := op_lt
theorem op_leI : OpR X (compareOp .LtE) rLeI := op_le
theorem op_gtI : OpR X (compareOp .Gt) rGtI := op_gt
theorem op_geI : OpR X (compareOp .GtE) rGeI := op_ge
theorem op_addS : OpR X (binaryOp .Add) rAddS := op_add_str
theorem op_inC : OpR X (compareOp .In) rInC := op_in_sign
theorem op_notInC : OpR X (compareOp .NotIn) rNotInC := op_notIn_sign
theorem op_isNon : OpR X (compareOp .Is) rIsNon := op_isN
theorem op_notNon : OpR X (compareOp .IsNot) rNotNon := op_notN
theorem op_gtS : OpR X (compareOp .Gt) rGtS := op_gt_str
theorem op_mulS : OpR X (binaryOp .Mult) rMulS := by
  intro pins s σ H x y v u Q I rx ry h
  obtain ⟨z, n, rfl, rfl, ok, q⟩ := h
  obtain ⟨t, rfl⟩ := rx
  obtain ⟨t', rfl⟩ := ry
  exact SB.mul ok fun t' k => ⟨.str (Txt.mul z n), H, I.tok _, ⟨_, rfl⟩, q⟩
theorem cr_lenQ : CallR X (.builtin "len") (rLenQ X.K) := call_len_seq
theorem cr_lenT : CallR X (.builtin "len") rLenT := call_len_str
theorem cr_max2 (hc : X.calm = true) : CallR X (.builtin "max") rMax2 := call_max2 hc
theorem cr_min2 (hc : X.calm = true) : CallR X (.builtin "min") rMin2 := call_min2 hc
theorem cr_intQ : CallR X (.type "int") rIntQ := call_int1
theorem cr_tupQ : CallR X (.type "tuple") (rTupQ X.K) := call_tuple_of
theorem cr_lstQ : CallR X (.type "list") (rLstQ X.K) := call_list_of
theorem cr_reprB : CallR X (.builtin "repr") rReprB := by
  intro pins s σ H xs us Q I r h
  obtain ⟨b, rfl, q⟩ := h
  obtain ⟨u, rfl, rx⟩ := vals1 r
  cases rx
  exact PySem.P.repr_of_bool ⟨.str _, H, I.tok _, ⟨_, rfl⟩, q⟩
theorem pe_joinQ {o e : Expr} {to te : TE} {apos pos : Pos} (ho : PE X o to) (he : PE X e te) (hs : starEach [e] X.env = [(false, eval e X.env)] := by rfl) (hbase : attributeBase o "join" X.env (eval o X.env) = eval o X.env := by rfl) (hline : (apos.endLine == pos.line) = true := by rfl) :
    PE X (.Call (.Attribute o "join" apos) [e] [] pos) (tM1 (rJoin X.K) to te) := pe_join ho he hs hbase hline
end
theorem w_v0 {v : V} {r : St} {H : Hp} {Q : VK} (h : Q v H) : tVar 0 (some v :: r) H Q := ⟨v, rfl, h⟩
theorem w_g0 {x : Option V} {v : V} {r : St} {H : Hp} {Q : St → Hp → Prop} (h : Q (some v :: r) H) : gName 0 v (x :: r) H Q := h
theorem w_v1 {a0 : Option V} {v : V} {r : St} {H : Hp} {Q : VK} (h : Q v H) : tVar 1 (a0 :: some v :: r) H Q := ⟨v, rfl, h⟩
theorem w_g1 {a0 : Option V} {x : Option V} {v : V} {r : St} {H : Hp} {Q : St → Hp → Prop} (h : Q (a0 :: some v :: r) H) : gName 1 v (a0 :: x :: r) H Q := h
theorem w_v2 {a0 a1 : Option V} {v : V} {r : St} {H : Hp} {Q : VK} (h : Q v H) : tVar 2 (a0 :: a1 :: some v :: r) H Q := ⟨v, rfl, h⟩
theorem w_g2 {a0 a1 : Option V} {x : Option V} {v : V} {r : St} {H : Hp} {Q : St → Hp → Prop} (h : Q (a0 :: a1 :: some v :: r) H) : gName 2 v (a0 :: a1 :: x :: r) H Q := h
theorem w_v3 {a0 a1 a2 : Option V} {v : V} {r : St} {H : Hp} {Q : VK} (h : Q v H) : tVar 3 (a0 :: a1 :: a2 :: some v :: r) H Q := ⟨v, rfl, h⟩
theorem w_g3 {a0 a1 a2 : Option V} {x : Option V} {v : V} {r : St} {H : Hp} {Q : St → Hp → Prop} (h : Q (a0 :: a1 :: a2 :: some v :: r) H) : gName 3 v (a0 :: a1 :: a2 :: x :: r) H Q := h
theorem w_v4 {a0 a1 a2 a3 : Option V} {v : V} {r : St} {H : Hp} {Q : VK} (h : Q v H) : tVar 4 (a0 :: a1 :: a2 :: a3 :: some v :: r) H Q := ⟨v, rfl, h⟩
theorem w_g4 {a0 a1 a2 a3 : Option V} {x : Option V} {v : V} {r : St} {H : Hp} {Q : St → Hp → Prop} (h : Q (a0 :: a1 :: a2 :: a3 :: some v :: r) H) : gName 4 v (a0 :: a1 :: a2 :: a3 :: x :: r) H Q := h
theorem w_v5 {a0 a1 a2 a3 a4 : Option V} {v : V} {r : St} {H : Hp} {Q : VK} (h : Q v H) : tVar 5 (a0 :: a1 :: a2 :: a3 :: a4 :: some v :: r) H Q := ⟨v, rfl, h⟩
theorem w_g5 {a0 a1 a2 a3 a4 : Option V} {x : Option V} {v : V} {r : St} {H : Hp} {Q : St → Hp → Prop} (h : Q (a0 :: a1 :: a2 :: a3 :: a4 :: some v :: r) H) : gName 5 v (a0 :: a1 :: a2 :: a3 :: a4 :: x :: r) H Q := h
theorem w_v6 {a0 a1 a2 a3 a4 a5 : Option V} {v : V} {r : St} {H : Hp} {Q : VK} (h : Q v H) : tVar 6 (a0 :: a1 :: a2 :: a3 :: a4 :: a5 :: some v :: r) H Q := ⟨v, rfl, h⟩
theorem w_g6 {a0 a1 a2 a3 a4 a5 : Option V} {x : Option V} {v : V} {r : St} {H : Hp} {Q : St → Hp → Prop} (h : Q (a0 :: a1 :: a2 :: a3 :: a4 :: a5 :: some v :: r) H) : gName 6 v (a0 :: a1 :: a2 :: a3 :: a4 :: a5 :: x :: r) H Q := h
theorem w_v7 {a0 a1 a2 a3 a4 a5 a6 : Option V} {v : V} {r : St} {H : Hp} {Q : VK} (h : Q v H) : tVar 7 (a0 :: a1 :: a2 :: a3 :: a4 :: a5 :: a6 :: some v :: r) H Q := ⟨v, rfl, h⟩
theorem w_g7 {a0 a1 a2 a3 a4 a5 a6 : Option V} {x : Option V} {v : V} {r : St} {H : Hp} {Q : St → Hp → Prop} (h : Q (a0 :: a1 :: a2 :: a3 :: a4 :: a5 :: a6 :: some v :: r) H) : gName 7 v (a0 :: a1 :: a2 :: a3 :: a4 :: a5 :: a6 :: x :: r) H Q := h
theorem w_v8 {a0 a1 a2 a3 a4 a5 a6 a7 : Option V} {v : V} {r : St} {H : Hp} {Q : VK} (h : Q v H) : tVar 8 (a0 :: a1 :: a2 :: a3 :: a4 :: a5 :: a6 :: a7 :: some v :: r) H Q := ⟨v, rfl, h⟩
theorem w_g8 {a0 a1 a2 a3 a4 a5 a6 a7 : Option V} {x : Option V} {v : V} {r : St} {H : Hp} {Q : St → Hp → Prop} (h : Q (a0 :: a1 :: a2 :: a3 :: a4 :: a5 :: a6 :: a7 :: some v :: r) H) : gName 8 v (a0 :: a1 :: a2 :: a3 :: a4 :: a5 :: a6 :: a7 :: x :: r) H Q := h
theorem w_v9 {a0 a1 a2 a3 a4 a5 a6 a7 a8 : Option V} {v : V} {r : St} {H : Hp} {Q : VK} (h : Q v H) : tVar 9 (a0 :: a1 :: a2 :: a3 :: a4 :: a5 :: a6 :: a7 :: a8 :: some v :: r) H Q := ⟨v, rfl, h⟩
theorem w_g9 {a0 a1 a2 a3 a4 a5 a6 a7 a8 : Option V} {x : Option V} {v : V} {r : St} {H : Hp} {Q : St → Hp → Prop} (h : Q (a0 :: a1 :: a2 :: a3 :: a4 :: a5 :: a6 :: a7 :: a8 :: some v :: r) H) : gName 9 v (a0 :: a1 :: a2 :: a3 :: a4 :: a5 :: a6 :: a7 :: a8 :: x :: r) H Q := h
theorem w_v10 {a0 a1 a2 a3 a4 a5 a6 a7 a8 a9 : Option V} {v : V} {r : St} {H : Hp} {Q : VK} (h : Q v H) : tVar 10 (a0 :: a1 :: a2 :: a3 :: a4 :: a5 :: a6 :: a7 :: a8 :: a9 :: some v :: r) H Q := ⟨v, rfl, h⟩
theorem w_g10 {a0 a1 a2 a3 a4 a5 a6 a7 a8 a9 : Option V} {x : Option V} {v : V} {r : St} {H : Hp} {Q : St → Hp → Prop} (h : Q (a0 :: a1 :: a2 :: a3 :: a4 :: a5 :: a6 :: a7 :: a8 :: a9 :: some v :: r) H) : gName 10 v (a0 :: a1 :: a2 :: a3 :: a4 :: a5 :: a6 :: a7 :: a8 :: a9 :: x :: r) H Q := h
theorem w_v11 {a0 a1 a2 a3 a4 a5 a6 a7 a8 a9 a10 : Option V} {v : V} {r : St} {H : Hp} {Q : VK} (h : Q v H) : tVar 11 (a0 :: a1 :: a2 :: a3 :: a4 :: a5 :: a6 :: a7 :: a8 :: a9 :: a10 :: some v :: r) H Q := ⟨v, rfl, h⟩
theorem w_g11 {a0 a1 a2 a3 a4 a5 a6 a7 a8 a9 a10 : Option V} {x : Option V} {v : V} {r : St} {H : Hp} {Q : St → Hp → Prop} (h : Q (a0 :: a1 :: a2 :: a3 :: a4 :: a5 :: a6 :: a7 :: a8 :: a9 :: a10 :: some v :: r) H) : gName 11 v (a0 :: a1 :: a2 :: a3 :: a4 :: a5 :: a6 :: a7 :: a8 :: a9 :: a10 :: x :: r) H Q := h
theorem w_v12 {a0 a1 a2 a3 a4 a5 a6 a7 a8 a9 a10 a11 : Option V} {v : V} {r : St} {H : Hp} {Q : VK} (h : Q v H) : tVar 12 (a0 :: a1 :: a2 :: a3 :: a4 :: a5 :: a6 :: a7 :: a8 :: a9 :: a10 :: a11 :: some v :: r) H Q := ⟨v, rfl, h⟩
theorem w_g12 {a0 a1 a2 a3 a4 a5 a6 a7 a8 a9 a10 a11 : Option V} {x : Option V} {v : V} {r : St} {H : Hp} {Q : St → Hp → Prop} (h : Q (a0 :: a1 :: a2 :: a3 :: a4 :: a5 :: a6 :: a7 :: a8 :: a9 :: a10 :: a11 :: some v :: r) H) : gName 12 v (a0 :: a1 :: a2 :: a3 :: a4 :: a5 :: a6 :: a7 :: a8 :: a9 :: a10 :: a11 :: x :: r) H Q := h
theorem w_v13 {a0 a1 a2 a3 a4 a5 a6 a7 a8 a9 a10 a11 a12 : Option V} {v : V} {r : St} {H : Hp} {Q : VK} (h : Q v H) : tVar 13 (a0 :: a1 :: a2 :: a3 :: a4 :: a5 :: a6 :: a7 :: a8 :: a9 :: a10 :: a11 :: a12 :: some v :: r) H Q := ⟨v, rfl, h⟩
theorem w_g13 {a0 a1 a2 a3 a4 a5 a6 a7 a8 a9 a10 a11 a12 : Option V} {x : Option V} {v : V} {r : St} {H : Hp} {Q : St → Hp → Prop} (h : Q (a0 :: a1 :: a2 :: a3 :: a4 :: a5 :: a6 :: a7 :: a8 :: a9 :: a10 :: a11 :: a12 :: some v :: r) H) : gName 13 v (a0 :: a1 :: a2 :: a3 :: a4 :: a5 :: a6 :: a7 :: a8 :: a9 :: a10 :: a11 :: a12 :: x :: r) H Q := h
theorem w_v14 {a0 a1 a2 a3 a4 a5 a6 a7 a8 a9 a10 a11 a12 a13 : Option V} {v : V} {r : St} {H : Hp} {Q : VK} (h : Q v H) : tVar 14 (a0 :: a1 :: a2 :: a3 :: a4 :: a5 :: a6 :: a7 :: a8 :: a9 :: a10 :: a11 :: a12 :: a13 :: some v :: r) H Q := ⟨v, rfl, h⟩
theorem w_g14 {a0 a1 a2 a3 a4 a5 a6 a7 a8 a9 a10 a11 a12 a13 : Option V} {x : Option V} {v : V} {r : St} {H : Hp} {Q : St → Hp → Prop} (h : Q (a0 :: a1 :: a2 :: a3 :: a4 :: a5 :: a6 :: a7 :: a8 :: a9 :: a10 :: a11 :: a12 :: a13 :: some v :: r) H) : gName 14 v (a0 :: a1 :: a2 :: a3 :: a4 :: a5 :: a6 :: a7 :: a8 :: a9 :: a10 :: a11 :: a12 :: a13 :: x :: r) H Q := h
theorem w_v15 {a0 a1 a2 a3 a4 a5 a6 a7 a8 a9 a10 a11 a12 a13 a14 : Option V} {v : V} {r : St} {H : Hp} {Q : VK} (h : Q v H) : tVar 15 (a0 :: a1 :: a2 :: a3 :: a4 :: a5 :: a6 :: a7 :: a8 :: a9 :: a10 :: a11 :: a12 :: a13 :: a14 :: some v :: r) H Q := ⟨v, rfl, h⟩
theorem w_g15 {a0 a1 a2 a3 a4 a5 a6 a7 a8 a9 a10 a11 a12 a13 a14 : Option V} {x : Option V} {v : V} {r : St} {H : Hp} {Q : St → Hp → Prop} (h : Q (a0 :: a1 :: a2 :: a3 :: a4 :: a5 :: a6 :: a7 :: a8 :: a9 :: a10 :: a11 :: a12 :: a13 :: a14 :: some v :: r) H) : gName 15 v (a0 :: a1 :: a2 :: a3 :: a4 :: a5 :: a6 :: a7 :: a8 :: a9 :: a10 :: a11 :: a12 :: a13 :: a14 :: x :: r) H Q := h
theorem w_v16 {a0 a1 a2 a3 a4 a5 a6 a7 a8 a9 a10 a11 a12 a13 a14 a15 : Option V} {v : V} {r : St} {H : Hp} {Q : VK} (h : Q v H) : tVar 16 (a0 :: a1 :: a2 :: a3 :: a4 :: a5 :: a6 :: a7 :: a8 :: a9 :: a10 :: a11 :: a12 :: a13 :: a14 :: a15 :: some v :: r) H Q := ⟨v, rfl, h⟩
theorem w_g16 {a0 a1 a2 a3 a4 a5 a6 a7 a8 a9 a10 a11 a12 a13 a14 a15 : Option V} {x : Option V} {v : V} {r : St} {H : Hp} {Q : St → Hp → Prop} (h : Q (a0 :: a1 :: a2 :: a3 :: a4 :: a5 :: a6 :: a7 :: a8 :: a9 :: a10 :: a11 :: a12 :: a13 :: a14 :: a15 :: some v :: r) H) : gName 16 v (a0 :: a1 :: a2 :: a3 :: a4 :: a5 :: a6 :: a7 :: a8 :: a9 :: a10 :: a11 :: a12 :: a13 :: a14 :: a15 :: x :: r) H Q := h
theorem w_v17 {a0 a1 a2 a3 a4 a5 a6 a7 a8 a9 a10 a11 a12 a13 a14 a15 a16 : Option V} {v : V} {r : St} {H : Hp} {Q : VK} (h : Q v H) : tVar 17 (a0 :: a1 :: a2 :: a3 :: a4 :: a5 :: a6 :: a7 :: a8 :: a9 :: a10 :: a11 :: a12 :: a13 :: a14 :: a15 :: a16 :: some v :: r) H Q := ⟨v, rfl, h⟩
theorem w_g17 {a0 a1 a2 a3 a4 a5 a6 a7 a8 a9 a10 a11 a12 a13 a14 a15 a16 : Option V} {x : Option V} {v : V} {r : St} {H : Hp} {Q : St → Hp → Prop} (h : Q (a0 :: a1 :: a2 :: a3 :: a4 :: a5 :: a6 :: a7 :: a8 :: a9 :: a10 :: a11 :: a12 :: a13 :: a14 :: a15 :: a16 :: some v :: r) H) : gName 17 v (a0 :: a1 :: a2 :: a3 :: a4 :: a5 :: a6 :: a7 :: a8 :: a9 :: a10 :: a11 :: a12 :: a13 :: a14 :: a15 :: a16 :: x :: r) H Q := h
theorem w_v18 {a0 a1 a2 a3 a4 a5 a6 a7 a8 a9 a10 a11 a12 a13 a14 a15 a16 a17 : Option V} {v : V} {r : St} {H : Hp} {Q : VK} (h : Q v H) : tVar 18 (a0 :: a1 :: a2 :: a3 :: a4 :: a5 :: a6 :: a7 :: a8 :: a9 :: a10 :: a11 :: a12 :: a13 :: a14 :: a15 :: a16 :: a17 :: some v :: r) H Q := ⟨v, rfl, h⟩
theorem w_g18 {a0 a1 a2 a3 a4 a5 a6 a7 a8 a9 a10 a11 a12 a13 a14 a15 a16 a17 : Option V} {x : Option V} {v : V} {r : St} {H : Hp} {Q : St → Hp → Prop} (h : Q (a0 :: a1 :: a2 :: a3 :: a4 :: a5 :: a6 :: a7 :: a8 :: a9 :: a10 :: a11 :: a12 :: a13 :: a14 :: a15 :: a16 :: a17 :: some v :: r) H) : gName 18 v (a0 :: a1 :: a2 :: a3 :: a4 :: a5 :: a6 :: a7 :: a8 :: a9 :: a10 :: a11 :: a12 :: a13 :: a14 :: a15 :: a16 :: a17 :: x :: r) H Q := h
theorem w_v19 {a0 a1 a2 a3 a4 a5 a6 a7 a8 a9 a10 a11 a12 a13 a14 a15 a16 a17 a18 : Option V} {v : V} {r : St} {H : Hp} {Q : VK} (h : Q v H) : tVar 19 (a0 :: a1 :: a2 :: a3 :: a4 :: a5 :: a6 :: a7 :: a8 :: a9 :: a10 :: a11 :: a12 :: a13 :: a14 :: a15 :: a16 :: a17 :: a18 :: some v :: r) H Q := ⟨v, rfl, h⟩
theorem w_g19 {a0 a1 a2 a3 a4 a5 a6 a7 a8 a9 a10 a11 a12 a13 a14 a15 a16 a17 a18 : Option V} {x : Option V} {v : V} {r : St} {H : Hp} {Q : St → Hp → Prop} (h : Q (a0 :: a1 :: a2 :: a3 :: a4 :: a5 :: a6 :: a7 :: a8 :: a9 :: a10 :: a11 :: a12 :: a13 :: a14 :: a15 :: a16 :: a17 :: a18 :: some v :: r) H) : gName 19 v (a0 :: a1 :: a2 :: a3 :: a4 :: a5 :: a6 :: a7 :: a8 :: a9 :: a10 :: a11 :: a12 :: a13 :: a14 :: a15 :: a16 :: a17 :: a18 :: x :: r) H Q := h
theorem w_v20 {a0 a1 a2 a3 a4 a5 a6 a7 a8 a9 a10 a11 a12 a13 a14 a15 a16 a17 a18 a19 : Option V} {v : V} {r : St} {H : Hp} {Q : VK} (h : Q v H) : tVar 20 (a0 :: a1 :: a2 :: a3 :: a4 :: a5 :: a6 :: a7 :: a8 :: a9 :: a10 :: a11 :: a12 :: a13 :: a14 :: a15 :: a16 :: a17 :: a18 :: a19 :: some v :: r) H Q := ⟨v, rfl, h⟩
theorem w_g20 {a0 a1 a2 a3 a4 a5 a6 a7 a8 a9 a10 a11 a12 a13 a14 a15 a16 a17 a18 a19 : Option V} {x : Option V} {v : V} {r : St} {H : Hp} {Q : St → Hp → Prop} (h : Q (a0 :: a1 :: a2 :: a3 :: a4 :: a5 :: a6 :: a7 :: a8 :: a9 :: a10 :: a11 :: a12 :: a13 :: a14 :: a15 :: a16 :: a17 :: a18 :: a19 :: some v :: r) H) : gName 20 v (a0 :: a1 :: a2 :: a3 :: a4 :: a5 :: a6 :: a7 :: a8 :: a9 :: a10 :: a11 :: a12 :: a13 :: a14 :: a15 :: a16 :: a17 :: a18 :: a19 :: x :: r) H Q := h
theorem w_v21 {a0 a1 a2 a3 a4 a5 a6 a7 a8 a9 a10 a11 a12 a13 a14 a15 a16 a17 a18 a19 a20 : Option V} {v : V} {r : St} {H : Hp} {Q : VK} (h : Q v H) : tVar 21 (a0 :: a1 :: a2 :: a3 :: a4 :: a5 :: a6 :: a7 :: a8 :: a9 :: a10 :: a11 :: a12 :: a13 :: a14 :: a15 :: a16 :: a17 :: a18 :: a19 :: a20 :: some v :: r) H Q := ⟨v, rfl, h⟩
theorem w_g21 {a0 a1 a2 a3 a4 a5 a6 a7 a8 a9 a10 a11 a12 a13 a14 a15 a16 a17 a18 a19 a20 : Option V} {x : Option V} {v : V} {r : St} {H : Hp} {Q : St → Hp → Prop} (h : Q (a0 :: a1 :: a2 :: a3 :: a4 :: a5 :: a6 :: a7 :: a8 :: a9 :: a10 :: a11 :: a12 :: a13 :: a14 :: a15 :: a16 :: a17 :: a18 :: a19 :: a20 :: some v :: r) H) : gName 21 v (a0 :: a1 :: a2 :: a3 :: a4 :: a5 :: a6 :: a7 :: a8 :: a9 :: a10 :: a11 :: a12 :: a13 :: a14 :: a15 :: a16 :: a17 :: a18 :: a19 :: a20 :: x :: r) H Q := h
theorem w_v22 {a0 a1 a2 a3 a4 a5 a6 a7 a8 a9 a10 a11 a12 a13 a14 a15 a16 a17 a18 a19 a20 a21 : Option V} {v : V} {r : St} {H : Hp} {Q : VK} (h : Q v H) : tVar 22 (a0 :: a1 :: a2 :: a3 :: a4 :: a5 :: a6 :: a7 :: a8 :: a9 :: a10 :: a11 :: a12 :: a13 :: a14 :: a15 :: a16 :: a17 :: a18 :: a19 :: a20 :: a21 :: some v :: r) H Q := ⟨v, rfl, h⟩
theorem w_g22 {a0 a1 a2 a3 a4 a5 a6 a7 a8 a9 a10 a11 a12 a13 a14 a15 a16 a17 a18 a19 a20 a21 : Option V} {x : Option V} {v : V} {r : St} {H : Hp} {Q : St → Hp → Prop} (h : Q (a0 :: a1 :: a2 :: a3 :: a4 :: a5 :: a6 :: a7 :: a8 :: a9 :: a10 :: a11 :: a12 :: a13 :: a14 :: a15 :: a16 :: a17 :: a18 :: a19 :: a20 :: a21 :: some v :: r) H) : gName 22 v (a0 :: a1 :: a2 :: a3 :: a4 :: a5 :: a6 :: a7 :: a8 :: a9 :: a10 :: a11 :: a12 :: a13 :: a14 :: a15 :: a16 :: a17 :: a18 :: a19 :: a20 :: a21 :: x :: r) H Q := h
theorem w_v23 {a0 a1 a2 a3 a4 a5 a6 a7 a8 a9 a10 a11 a12 a13 a14 a15 a16 a17 a18 a19 a20 a21 a22 : Option V} {v : V} {r : St} {H : Hp} {Q : VK} (h : Q v H) : tVar 23 (a0 :: a1 :: a2 :: a3 :: a4 :: a5 :: a6 :: a7 :: a8 :: a9 :: a10 :: a11 :: a12 :: a13 :: a14 :: a15 :: a16 :: a17 :: a18 :: a19 :: a20 :: a21 :: a22 :: some v :: r) H Q := ⟨v, rfl, h⟩
theorem w_g23 {a0 a1 a2 a3 a4 a5 a6 a7 a8 a9 a10 a11 a12 a13 a14 a15 a16 a17 a18 a19 a20 a21 a22 : Option V} {x : Option V} {v : V} {r : St} {H : Hp} {Q : St → Hp → Prop} (h : Q (a0 :: a1 :: a2 :: a3 :: a4 :: a5 :: a6 :: a7 :: a8 :: a9 :: a10 :: a11 :: a12 :: a13 :: a14 :: a15 :: a16 :: a17 :: a18 :: a19 :: a20 :: a21 :: a22 :: some v :: r) H) : gName 23 v (a0 :: a1 :: a2 :: a3 :: a4 :: a5 :: a6 :: a7 :: a8 :: a9 :: a10 :: a11 :: a12 :: a13 :: a14 :: a15 :: a16 :: a17 :: a18 :: a19 :: a20 :: a21 :: a22 :: x :: r) H Q := h
theorem w_v24 {a0 a1 a2 a3 a4 a5 a6 a7 a8 a9 a10 a11 a12 a13 a14 a15 a16 a17 a18 a19 a20 a21 a22 a23 : Option V} {v : V} {r : St} {H : Hp} {Q : VK} (h : Q v H) : tVar 24 (a0 :: a1 :: a2 :: a3 :: a4 :: a5 :: a6 :: a7 :: a8 :: a9 :: a10 :: a11 :: a12 :: a13 :: a14 :: a15 :: a16 :: a17 :: a18 :: a19 :: a20 :: a21 :: a22 :: a23 :: some v :: r) H Q := ⟨v, rfl, h⟩
theorem w_g24 {a0 a1 a2 a3 a4 a5 a6 a7 a8 a9 a10 a11 a12 a13 a14 a15 a16 a17 a18 a19 a20 a21 a22 a23 : Option V} {x : Option V} {v : V} {r : St} {H : Hp} {Q : St → Hp → Prop} (h : Q (a0 :: a1 :: a2 :: a3 :: a4 :: a5 :: a6 :: a7 :: a8 :: a9 :: a10 :: a11 :: a12 :: a13 :: a14 :: a15 :: a16 :: a17 :: a18 :: a19 :: a20 :: a21 :: a22 :: a23 :: some v :: r) H) : gName 24 v (a0 :: a1 :: a2 :: a3 :: a4 :: a5 :: a6 :: a7 :: a8 :: a9 :: a10 :: a11 :: a12 :: a13 :: a14 :: a15 :: a16 :: a17 :: a18 :: a19 :: a20 :: a21 :: a22 :: a23 :: x :: r) H Q := h
theorem w_v25 {a0 a1 a2 a3 a4 a5 a6 a7 a8 a9 a10 a11 a12 a13 a14 a15 a16 a17 a18 a19 a20 a21 a22 a23 a24 : Option V} {v : V} {r : St} {H : Hp} {Q : VK} (h : Q v H) : tVar 25 (a0 :: a1 :: a2 :: a3 :: a4 :: a5 :: a6 :: a7 :: a8 :: a9 :: a10 :: a11 :: a12 :: a13 :: a14 :: a15 :: a16 :: a17 :: a18 :: a19 :: a20 :: a21 :: a22 :: a23 :: a24 :: some v :: r) H Q := ⟨v, rfl, h⟩
theorem w_g25 {a0 a1 a2 a3 a4 a5 a6 a7 a8 a9 a10 a11 a12 a13 a14 a15 a16 a17 a18 a19 a20 a21 a22 a23 a24 : Option V} {x : Option V} {v : V} {r : St} {H : Hp} {Q : St → Hp → Prop} (h : Q (a0 :: a1 :: a2 :: a3 :: a4 :: a5 :: a6 :: a7 :: a8 :: a9 :: a10 :: a11 :: a12 :: a13 :: a14 :: a15 :: a16 :: a17 :: a18 :: a19 :: a20 :: a21 :: a22 :: a23 :: a24 :: some v :: r) H) : gName 25 v (a0 :: a1 :: a2 :: a3 :: a4 :: a5 :: a6 :: a7 :: a8 :: a9 :: a10 :: a11 :: a12 :: a13 :: a14 :: a15 :: a16 :: a17 :: a18 :: a19 :: a20 :: a21 :: a22 :: a23 :: a24 :: x :: r) H Q := h
/-- the truth of a proposition, not to be reckoned out -/
noncomputable def bD (p : Prop) : Bool := @decide p (Classical.propDecidable p)
theorem bD_eq {p : Prop} [d : Decidable p] : bD p = decide p := by
  unfold bD
  congr
theorem bD_t {p : Prop} (h : p) : bD p = true := @decide_eq_true p (Classical.propDecidable p) h
theorem bD_f {p : Prop} (h : ¬ p) : bD p = false := @decide_eq_false p (Classical.propDecidable p) h
theorem bT {p : Prop} (h : bD p = true) : p := @of_decide_eq_true p (Classical.propDecidable p) h
theorem bF {p : Prop} (h : bD p = false) : ¬ p := @of_decide_eq_false p (Classical.propDecidable p) h
theorem bD_congr {p q : Prop} (h : p ↔ q) : bD p = bD q := by rw [propext h]
theorem w_dT {p : Prop} {A B : Prop} (h : p) (q : A) : if bD p = true then A else B := by rw [bD_t h]; exact iteT q
theorem w_dF {p : Prop} {A B : Prop} (h : ¬ p) (q : B) : if bD p = true then A else B := by rw [bD_f h]; exact iteF q
theorem w_nT {p : Prop} {A B : Prop} (h : ¬ p) (q : A) : if (!bD p) = true then A else B := by rw [bD_f h]; exact iteT q
theorem w_nF {p : Prop} {A B : Prop} (h : p) (q : B) : if (!bD p) = true then A else B := by rw [bD_t h]; exact iteF q
/-! ### readings, step by step -/
section
variable {K : PySem.W.Frag} {σ : St} {H : Hp} {Q : VK} {QT : Bool → Hp → Prop} {QA : List V → Hp → Prop} {QS : St → Hp → Prop} {D : Ends} {te ta tb tc : TE} {t u : TS} {tt tu : TT} {tas : TA} {g : TG} {gs : TGs} {r r' : R2} {v x y : V} {i j : Int} {a b p : Addr} {xs ys : List V} {z z' : Str}
theorem w_seq (h : t { D with nx := u D } σ H) : tSeq t u D σ H := h
theorem w_next (h : D.nx σ H) : tNext D σ H := h
theorem w_asg (h : te σ H fun x H1 => g x σ H1 D.nx) : tAsg te g D σ H := h
theorem w_c (h : Q v H) : tC v σ H Q := h
theorem w_op (h : ta σ H fun x H1 => tb σ H1 fun y H2 => r x y H2 Q) : tOp r ta tb σ H Q := h
theorem w_test (h : ta σ H fun x H' => ∃ k, x = .bl k ∧ QT k H') : tTest ta σ H QT := h
theorem w_tB (h : ta σ H fun x H' => ∃ k, x = .bl k ∧ QT k H') : tB ta σ H QT := h
theorem w_exb {R : Bool → Prop} {k : Bool} (h : R k) : ∃ k', V.bl k = .bl k' ∧ R k' := ⟨k, rfl, h⟩
theorem w_exi {R : Int → Prop} {k : Int} (h : R k) : ∃ k', V.int k = .int k' ∧ R k' := ⟨k, rfl, h⟩
theorem w_exs {R : Str → Prop} (h : R z) : ∃ k', V.str z = .str k' ∧ R k' := ⟨z, rfl, h⟩
theorem w_ifS (h : tt σ H fun b H1 => if b = true then t D σ H1 else u D σ H1) : tIfS tt t u D σ H := h
theorem w_if (h : tt σ H fun c H1 => if c = true then ta σ H1 Q else tb σ H1 Q) : tIf tt ta tb σ H Q := h
theorem w_and (h : tt σ H fun c H1 => if c = true then tu σ H1 QT else QT false H1) : tAnd tt tu σ H QT := h
theorem w_or (h : tt σ H fun c H1 => if c = true then QT true H1 else tu σ H1 QT) : tOr tt tu σ H QT := h
theorem w_not (h : tt σ H fun c H1 => QT (!c) H1) : tNot tt σ H QT := h
theorem w_andV (h : ta σ H fun x H1 => ∃ c, x = .bl c ∧ if c = true then tb σ H1 Q else Q (.bl false) H1) : tAndV ta tb σ H Q := h
theorem w_orV (h : ta σ H fun x H1 => ∃ c, x = .bl c ∧ if c = true then Q (.bl true) H1 else tb σ H1 Q) : tOrV ta tb σ H Q := h
theorem w_notV (h : ta σ H fun x H1 => ∃ c, x = .bl c ∧ Q (.bl (!c)) H1) : tNotV ta σ H Q := h
theorem w_ret (h : te σ H D.rt) : tRet te D σ H := h
theorem w_retN (h : D.rt .non H) : tRetN D σ H := h
theorem w_drop (h : te σ H fun _ H1 => D.nx σ H1) : tDrop te D σ H := h
theorem w_brk (h : D.bk σ H) : tBreak D σ H := h
theorem w_cont (h : D.ct σ H) : tCont D σ H := h
theorem w_cons {tr : TA} (h : ta σ H fun x H1 => tr σ H1 fun xs H2 => QA (x :: xs) H2) : tCons ta tr σ H QA := h
theorem w_nil (h : QA [] H) : tNil σ H QA := h
theorem w_tup (h : tas σ H fun xs H1 => xs.length ≤ sizeLine ∧ ∀ p, H1 p = none → Q (.ref p) (upd H1 p (.tup xs))) : tTup tas σ H Q := h
theorem w_lst (h : tas σ H fun xs H1 => xs.length ≤ sizeLine ∧ ∀ p, H1 p = none → Q (.ref p) (upd H1 p (.lst xs))) : tLst tas σ H Q := h
theorem w_cb {f : List V → Hp → VK → Prop} (h : tas σ H fun vs H1 => f vs H1 Q) : tCB f tas σ H Q := h
theorem w_call {sp : Sp} {E : XK} (h : tas σ H fun vs H1 => sp (vs ++ []) H1 Q E) : tCall sp [] E tas σ H Q := h
theorem w_sl {rs : V → Option Int → Option Int → Hp → VK → Prop} {tl th : TO} (h : te σ H fun x H1 => tl σ H1 fun l H2 => th σ H2 fun u H3 => rs x l u H3 Q) : tSl rs te tl th σ H Q := h
theorem w_part {Q : Option Int → Hp → Prop} (h : te σ H fun x H1 => ∃ i, x = .int i ∧ Q (some i) H1) : tPart te σ H Q := h
theorem w_nopart {Q : Option Int → Hp → Prop} (h : Q none H) : tNoPart σ H Q := h
theorem w_par {i j : Nat} (h : tas σ H fun vs H1 => ∃ v w, vs = [v, w] ∧ gName i v σ H1 fun σ' H2 => gName j w σ' H2 D.nx) : tPar i j tas D σ H := h
theorem w_par3 {i j l : Nat} (h : tas σ H fun vs H1 => ∃ u v w, vs = [u, v, w] ∧ gName i u σ H1 fun σ' H2 => gName j v σ' H2 fun σ2 H3 => gName l w σ2 H3 D.nx) : tPar3 i j l tas D σ H := h
theorem w_ex2 {R : V → V → Prop} (h : R x y) : ∃ v w, [x, y] = [v, w] ∧ R v w := ⟨x, y, rfl, h⟩
theorem w_ex3 {R : V → V → V → Prop} (h : R v x y) : ∃ u v' w, [v, x, y] = [u, v', w] ∧ R u v' w := ⟨v, x, y, rfl, h⟩
theorem w_gsub {to ti : TE} {ts : TSet} (h : to σ H fun o H1 => ti σ H1 fun i H2 => ts o i v H2 fun H3 => QS σ H3) : gSub to ti ts v σ H QS := h
theorem w_gtup {n : Nat} (h : SqT K H a xs) (hl : xs.length = n) (q : gs xs σ H QS) : gTup K n gs (.ref a) σ H QS := ⟨a, xs, rfl, h, hl, q⟩
theorem w_gcons {g : TG} (q : g v σ H fun σ' H' => gs xs σ' H' QS) : gCons g gs (v :: xs) σ H QS := ⟨v, xs, rfl, q⟩
theorem w_gnil (q : QS σ H) : gNil [] σ H QS := ⟨rfl, q⟩
theorem w_addI (h : Q (.int (i + j)) H) : rAddI (.int i) (.int j) H Q := ⟨i, j, rfl, rfl, h⟩
theorem w_subI (h : Q (.int (i - j)) H) : rSubI (.int i) (.int j) H Q := ⟨i, j, rfl, rfl, h⟩
theorem w_mulI (c : CMul i j) (h : Q (.int (i * j)) H) : rMulI (.int i) (.int j) H Q := ⟨i, j, rfl, rfl, c, h⟩
theorem w_divI (c : CDiv i j) (h : Q (.int (i / j)) H) : rDivI (.int i) (.int j) H Q := ⟨i, j, rfl, rfl, c, h⟩
theorem w_modI (c : 0 < j) (h : Q (.int (i % j)) H) : rModI (.int i) (.int j) H Q := ⟨i, j, rfl, rfl, c, h⟩
theorem w_ltI (h : Q (.bl (bD (i < j))) H) : rLtI (.int i) (.int j) H Q := ⟨i, j, rfl, rfl, by rw [bD_eq] at h; exact h⟩
theorem w_leI (h : Q (.bl (bD (i ≤ j))) H) : rLeI (.int i) (.int j) H Q := ⟨i, j, rfl, rfl, by rw [bD_eq] at h; exact h⟩
theorem w_gtI (h : Q (.bl (bD (j < i))) H) : rGtI (.int i) (.int j) H Q := ⟨i, j, rfl, rfl, by rw [bD_eq] at h; exact h⟩
theorem w_geI (h : Q (.bl (bD (j ≤ i))) H) : rGeI (.int i) (.int j) H Q := ⟨i, j, rfl, rfl, by rw [bD_eq] at h; exact h⟩
theorem w_addS (c : z.length + z'.length ≤ sizeLine) (h : Q (.str (z ++ z')) H) : rAddS (.str z) (.str z') H Q := ⟨z, z', rfl, rfl, c, h⟩
theorem w_inC {c : Nat} (h : Q (.bl (bD (c ∈ z.cps.toList))) H) : rInC (.str ⟨#[c]⟩) (.str z) H Q := ⟨c, z, rfl, rfl, by rw [bD_eq] at h; exact h⟩
theorem w_notInC {c : Nat} (h : Q (.bl (!bD (c ∈ z.cps.toList))) H) : rNotInC (.str ⟨#[c]⟩) (.str z) H Q := ⟨c, z, rfl, rfl, by rw [bD_eq] at h; exact h⟩
theorem w_isNon (h : Q (.bl (bD (x = .non))) H) : rIsNon x .non H Q := ⟨rfl, by rw [bD_eq] at h; exact h⟩
theorem w_notNon (h : Q (.bl (!bD (x = .non))) H) : rNotNon x .non H Q := ⟨rfl, by rw [bD_eq] at h; exact h⟩
theorem w_gtS (h : Q (.bl (bD (z'.cps.toList < z.cps.toList))) H) : rGtS (.str z) (.str z') H Q := ⟨z, z', rfl, rfl, by rw [bD_eq] at h; exact h⟩
theorem w_mulS (c : MulOk z i) (h : Q (.str (Txt.mul z i)) H) : rMulS (.str z) (.int i) H Q := ⟨z, i, rfl, rfl, c, h⟩
theorem w_eqI (h : Q (.bl (bD (i = j))) H) : rEq (.int i) (.int j) H Q := ⟨rfl, by rw [show decide (V.int i = V.int j) = bD (i = j) from by rw [bD_eq]; exact decide_eq_decide.mpr ⟨V.int.inj, congrArg _⟩]; exact h⟩
theorem w_neI (h : Q (.bl (!bD (i = j))) H) : rNe (.int i) (.int j) H Q := ⟨rfl, by rw [show decide (V.int i = V.int j) = bD (i = j) from by rw [bD_eq]; exact decide_eq_decide.mpr ⟨V.int.inj, congrArg _⟩]; exact h⟩
theorem w_eqS (h : Q (.bl (bD (z = z'))) H) : rEq (.str z) (.str z') H Q := ⟨rfl, by rw [show decide (V.str z = V.str z') = bD (z = z') from by rw [bD_eq]; exact decide_eq_decide.mpr ⟨V.str.inj, congrArg _⟩]; exact h⟩
theorem w_neS (h : Q (.bl (!bD (z = z'))) H) : rNe (.str z) (.str z') H Q := ⟨rfl, by rw [show decide (V.str z = V.str z') = bD (z = z') from by rw [bD_eq]; exact decide_eq_decide.mpr ⟨V.str.inj, congrArg _⟩]; exact h⟩
theorem w_eqV (c : scal x y = true) (h : Q (.bl (decide (x = y))) H) : rEq x y H Q := ⟨c, h⟩
theorem w_neV (c : scal x y = true) (h : Q (.bl (!decide (x = y))) H) : rNe x y H Q := ⟨c, h⟩
theorem w_ixL (h : SqL K H p xs) (e : atI xs i = some v) (q : Q v H) : rIxL K (.ref p) (.int i) H Q := ⟨p, xs, i, v, rfl, rfl, h, e, q⟩
theorem w_ixT (h : SqT K H p xs) (e : atI xs i = some v) (q : Q v H) : rIxT K (.ref p) (.int i) H Q := ⟨p, xs, i, v, rfl, rfl, h, e, q⟩
theorem w_lenL (h : SqL K H p xs) (q : Q (.int xs.length) H) : rLenQ K [.ref p] H Q := ⟨p, xs, rfl, .inl h, q⟩
theorem w_lenT (h : SqT K H p xs) (q : Q (.int xs.length) H) : rLenQ K [.ref p] H Q := ⟨p, xs, rfl, .inr h, q⟩
theorem w_lenS (h : z.length ≤ sizeLine) (q : Q (.int z.length) H) : rLenT [.str z] H Q := ⟨z, rfl, h, q⟩
theorem w_max2 (q : Q (.int (if j > i then j else i)) H) : rMax2 [.int i, .int j] H Q := ⟨i, j, rfl, q⟩
theorem w_min2 (q : Q (.int (if j < i then j else i)) H) : rMin2 [.int i, .int j] H Q := ⟨i, j, rfl, q⟩
theorem w_intB {k : Bool} (q : Q (.int (if k then 1 else 0)) H) : rIntQ [.bl k] H Q := .inr ⟨k, rfl, q⟩
theorem w_bm {T : String} {f : V → List V → Hp → VK → Prop} {to : TE} (h : to σ H fun x H1 => tyV K T x H1 ∧ tas σ H1 fun xs H2 => f x xs H2 Q) : tBM K T f to tas σ H Q := h
theorem w_bm0 {T : String} {f : V → List V → Hp → VK → Prop} {to : TE} (h : to σ H fun x H1 => tyV K T x H1 ∧ f x [] H1 Q) : tBM0 K T f to σ H Q := h
theorem w_tyL {R : Prop} (h : SqL K H p xs) (q : R) : tyV K "list" (.ref p) H ∧ R := ⟨.inl ⟨rfl, xs, h⟩, q⟩
theorem w_append (h : H p = some (.lst xs)) (hz : xs.length < sizeLine) (q : Q .non (upd H p (.lst (xs ++ [v])))) : rAppend (.ref p) [v] H Q := ⟨p, xs, v, rfl, rfl, h, hz, q⟩
theorem w_join1 {f : V → List V → Hp → VK → Prop} {to : TE} (h : to σ H fun x H1 => (∃ a, x = .str a) ∧ te σ H1 fun y H2 => f x [y] H2 Q) : tM1 f to te σ H Q := h
theorem w_isStr {R : Prop} (q : R) : (∃ a, V.str z = .str a) ∧ R := ⟨⟨z, rfl⟩, q⟩
theorem w_for {wi : TI} {tb : TS} (h : wi σ H fun J H1 => ∃ W : Nat → Nat → St → Hp → Prop, (∃ m, W 0 m σ H1) ∧ ∀ i m σ H, W i m σ H →
      (J.stop i H ∧ D.nx σ H) ∨ (J.go i H ∧ ∃ N : St → Hp → Prop, (∀ σ' H', N σ' H' → ∃ m', m' < m ∧ W (i + 1) m' σ' H') ∧ ∀ x H', J.yld i H x H' → g x σ H' fun σ2 H2 => tb { D with nx := N, ct := N, bk := D.nx } σ2 H2)) : tFor wi g tb D σ H := h
theorem w_iT {R : It → Hp → Prop} (h : te σ H fun x H1 => ∃ a, x = .ref a ∧ (∃ xs, SqT K H1 a xs) ∧ R (Itt K a) H1) : iTup K te σ H R := h
theorem w_iL {R : It → Hp → Prop} (h : te σ H fun x H1 => ∃ a, x = .ref a ∧ (∃ xs, SqL K H1 a xs) ∧ R (Itl K a) H1) : iList K te σ H R := h
theorem w_iS {R : It → Hp → Prop} (h : te σ H fun v H1 => ∃ x, v = .str x ∧ R (Its x) H1) : iStr te σ H R := h
theorem w_iR1 {R : It → Hp → Prop} (h : tas σ H fun vs H1 => ∃ j : Int, vs = [.int j] ∧ -(2 ^ 62) ≤ j ∧ j < 2 ^ 62 ∧ R (Itr 0 j.toNat) H1) : iRng1 tas σ H R := h
theorem w_iR2 {R : It → Hp → Prop} (h : tas σ H fun vs H1 => ∃ i j : Int, vs = [.int i, .int j] ∧ (-(2 ^ 62) ≤ i ∧ i < 2 ^ 62 ∧ -(2 ^ 62) ≤ j ∧ j < 2 ^ 62) ∧ R (Itr i (j - i).toNat) H1) : iRng2 tas σ H R := h
theorem w_exT {R : Addr → Prop} (h : SqT K H p xs) (q : R p) : ∃ a, V.ref p = .ref a ∧ (∃ xs, SqT K H a xs) ∧ R a := ⟨p, rfl, ⟨xs, h⟩, q⟩
theorem w_exL {R : Addr → Prop} (h : SqL K H p xs) (q : R p) : ∃ a, V.ref p = .ref a ∧ (∃ xs, SqL K H a xs) ∧ R a := ⟨p, rfl, ⟨xs, h⟩, q⟩
end
end HH
namespace L2
open PySem PySem.Spec
/-! ### defs of the top -/
structure DefOk (P : Program) (w : World) (K : PySem.W.Frag) (mg : Str → Option Value) (base : Heap) (CX : CXT) (k : Nat) (x : Str) (ps : List Str) (sp : Sp) : Prop where
  ex : ∃ (f : Addr) (fd : FuncData), FnOk P w K mg base CX k f fd ps sp ∧ mg x = some (.ref f) ∧ PySem.W.keepIn K (.ref f) = true ∧ Binds K fd ps []
theorem DefOk.of {P : Program} {w : World} {K : PySem.W.Frag} {mg : Str → Option Value} {base : Heap} {CX : CXT} {k : Nat} {x : Str} {ps : List Str} {sp : Sp} {st : Stmt} {f : Addr} {fd : FuncData} (F : Fun K x x st f fd) (gf : mg x = some (.ref f))
    (hb : ∀ (kV doc pm : Value) (an : Option Addr) (cdv ct : Value) (us : List Value), us.length = ps.length → bindArgs (PySem.W.fnOf x x (defArgs st) (defBody st) (defScope st) .none kV doc pm an cdv ct) ⟨us, []⟩ = pure (ps.zip us))
    (ok : FnOk P w K mg base CX k f fd ps sp) : DefOk P w K mg base CX k x ps sp := ⟨f, fd, ok, gf, F.kp, F.binds hb⟩
theorem pe_d {X : Cx} {k : Nat} {ps : List Str} {sp : Sp} {x : Str} {p pos : Pos} {e : Expr} {es : List Expr} {t : TA} (D : DefOk X.prog X.w X.K X.mg X.base CX0 k x ps sp) (hr : Room k X.A) (hg : Gl X x) (ha : PA X (e :: es) t)
    (hdb : (x == ("__debug__" : Str)) = false := by decide) (he : starEach (e :: es) X.env = (false, eval e X.env) :: starEach es X.env := by rfl) (hpl : (backTo pos (starEach es X.env)).any (·.1) = false := by rfl) :
    PE X (.Call (.Name x p) (e :: es) [] pos) (tCall sp [] E0 t) := by
  obtain ⟨f, fd, F, gf, kp, b⟩ := D.ex
  exact pe_call F hr hg gf kp b .nil pass0 ha hdb he hpl
theorem pe_d0 {X : Cx} {k : Nat} {ps : List Str} {sp : Sp} {x : Str} {p pos : Pos} (D : DefOk X.prog X.w X.K X.mg X.base CX0 k x ps sp) (hr : Room k X.A) (hg : Gl X x) (hdb : (x == ("__debug__" : Str)) = false := by decide) :
    PE X (.Call (.Name x p) [] [] pos) (tCall sp [] E0 tNil) := by
  obtain ⟨f, fd, F, gf, kp, b⟩ := D.ex
  exact pe_call0 F hr hg gf kp b .nil pass0 hdb

/-! ### heaps -/
section
variable {K : PySem.W.Frag} {H H1 H2 H' : Hp} {a b c p : Addr} {xs ys : List V} {o u : HO} {x v : V} {d : PyData}
theorem same_new (h : H p = none) : Same H (upd H p o) := fun b x e => by
  rw [upd_ne (ne_of_none e h)]
  exact e
/-- an object that H does not know is changed -/
theorem same_mut (s : Same H H1) (h : H p = none) : Same H (upd H1 p o) := fun b x e => by
  rw [upd_ne (ne_of_none e h)]
  exact s b x e
theorem Same.rd (s : Same H H') (h : Rd H a u) : Rd H' a u := by
  rcases h with h | ⟨o, h⟩
  · exact .inl (s _ _ h)
  · exact .inr ⟨o, s _ _ h⟩
theorem Same.sqT (s : Same H H') (h : SqT K H a xs) : SqT K H' a xs := by
  rcases h with h | h
  · exact .inl (s.rd h)
  · exact .inr h
theorem sqL_at (h : H a = some (.lst xs)) : SqL K H a xs := .inl (.inl h)
theorem sqT_at (h : H a = some (.tup xs)) : SqT K H a xs := .inl (.inl h)
theorem sqL_new : SqL K (upd H a (.lst xs)) a xs := sqL_at upd_same
theorem sqT_new : SqT K (upd H a (.tup xs)) a xs := sqT_at upd_same
theorem szOk (n : Nat) (h : n ≤ 10000000 := by first | decide | omega) : n ≤ sizeLine := Nat.le_trans h (by decide)
theorem szLt (n : Nat) (h : n < 10000000 := by first | decide | omega) : n < sizeLine := Nat.lt_of_lt_of_le h (by decide)
/-- the tuples stay -/
def Tp (K : PySem.W.Frag) (H H' : Hp) : Prop := ∀ a xs, SqT K H a xs → SqT K H' a xs
theorem Same.tp (s : Same H H') : Tp K H H' := fun _ _ h => s.sqT h
theorem Tp.refl : Tp K H H := fun _ _ h => h
theorem Tp.trans (s : Tp K H H1) (t : Tp K H1 H2) : Tp K H H2 := fun _ _ h => t _ _ (s _ _ h)
mutual
theorem Same.dp (s : Same H H') : ∀ (d : PyData) (v : V), Dp K H v d → Dp K H' v d
  | .none, _, h => by cases h; exact .non
  | .bool b, _, h => by cases h; exact .bl b
  | .int i, _, h => by cases h; exact .int i
  | .str x, _, h => by cases h; exact .str x
  | .list ds, _, h => by
    cases h with
    | lst hs ha => exact .lst (s.seq hs) (Same.dpAll s ds _ ha)
  | .tuple ds, _, h => by
    cases h with
    | tup hs ha => exact .tup (s.sqT hs) (Same.dpAll s ds _ ha)
  | .dict _, _, h => by cases h
theorem Same.dpAll (s : Same H H') : ∀ (ds : List PyData) (vs : List V), DpAll K H vs ds → DpAll K H' vs ds
  | [], _, h => by cases h; exact .nil
  | d :: ds, _, h => by
    cases h with
    | cons h1 h2 => exact .cons (Same.dp s d _ h1) (Same.dpAll s ds _ h2)
end
theorem Same.dat (s : Same H H') (h : Dp K H v d) : Dp K H' v d := s.dp d v h
mutual
/-- no list within -/
def noL : PyData → Bool
  | .none => true
  | .bool _ => true
  | .int _ => true
  | .str _ => true
  | .list _ => false
  | .tuple ds => noLs ds
  | .dict _ => false
def noLs : List PyData → Bool
  | [] => true
  | d :: ds => noL d && noLs ds
end
mutual
theorem Tp.dp (s : Tp K H H') : ∀ (d : PyData) (v : V), noL d = true → Dp K H v d → Dp K H' v d
  | .none, _, _, h => by cases h; exact .non
  | .bool b, _, _, h => by cases h; exact .bl b
  | .int i, _, _, h => by cases h; exact .int i
  | .str x, _, _, h => by cases h; exact .str x
  | .list ds, _, n, h => by cases (show false = true from n)
  | .tuple ds, _, n, h => by
    cases h with
    | tup hs ha => exact .tup (s _ _ hs) (Tp.dpAll s ds _ n ha)
  | .dict _, _, _, h => by cases h
theorem Tp.dpAll (s : Tp K H H') : ∀ (ds : List PyData) (vs : List V), noLs ds = true → DpAll K H vs ds → DpAll K H' vs ds
  | [], _, _, h => by cases h; exact .nil
  | d :: ds, _, n, h => by
    cases h with
    | cons h1 h2 =>
      have n' : (noL d && noLs ds) = true := n
      rw [Bool.and_eq_true] at n'
      exact .cons (Tp.dp s d _ n'.1 h1) (Tp.dpAll s ds _ n'.2 h2)
end
theorem DpAll.len : ∀ {vs : List V} {ds : List PyData}, DpAll K H vs ds → vs.length = ds.length
  | _, _, .nil => rfl
  | _, _, .cons _ t => congrArg (· + 1) t.len
theorem DpAll.get : ∀ {vs : List V} {ds : List PyData} {i : Nat} {v : V}, DpAll K H vs ds → vs[i]? = some v → ∃ d, ds[i]? = some d ∧ Dp K H v d
  | _, _, _, _, .nil, e => by simp at e
  | _, _, 0, _, .cons h _, e => by simp at e; subst e; exact ⟨_, rfl, h⟩
  | _, _, i + 1, v, .cons _ t, e => by
    obtain ⟨d, h1, h2⟩ := DpAll.get (i := i) t (by simpa using e)
    exact ⟨d, by simpa using h1, h2⟩
theorem DpAll.get' {vs : List V} {ds : List PyData} {i : Nat} {d : PyData} (h : DpAll K H vs ds) (e : ds[i]? = some d) : ∃ v, vs[i]? = some v ∧ Dp K H v d := by
  have hi : i < ds.length := (List.getElem?_eq_some_iff.mp e).1
  have hv : i < vs.length := by rw [h.len]; exact hi
  obtain ⟨d', e', q⟩ := h.get (List.getElem?_eq_getElem hv)
  rw [e] at e'
  cases e'
  exact ⟨_, List.getElem?_eq_getElem hv, q⟩
theorem DpAll.app : ∀ {vs ws : List V} {ds es : List PyData}, DpAll K H vs ds → DpAll K H ws es → DpAll K H (vs ++ ws) (ds ++ es)
  | _, _, _, _, .nil, s => s
  | _, _, _, _, .cons r t, s => .cons r (DpAll.app t s)
theorem DpAll.take : ∀ {vs : List V} {ds : List PyData} (n : Nat), DpAll K H vs ds → DpAll K H (vs.take n) (ds.take n)
  | _, _, 0, _ => .nil
  | _, _, _ + 1, .nil => .nil
  | _, _, n + 1, .cons r t => .cons r (DpAll.take n t)
theorem DpAll.drop : ∀ {vs : List V} {ds : List PyData} (n : Nat), DpAll K H vs ds → DpAll K H (vs.drop n) (ds.drop n)
  | _, _, 0, r => r
  | _, _, _ + 1, .nil => .nil
  | _, _, n + 1, .cons _ t => DpAll.drop n t
theorem DpAll.rev : ∀ {vs : List V} {ds : List PyData}, DpAll K H vs ds → DpAll K H vs.reverse ds.reverse
  | _, _, .nil => .nil
  | _, _, .cons r t => by
    rw [List.reverse_cons, List.reverse_cons]
    exact DpAll.app t.rev (.cons r .nil)
theorem dp_int {i : Int} (h : Dp K H v (.int i)) : v = .int i := by cases h; rfl
theorem dp_str {z : Str} (h : Dp K H v (.str z)) : v = .str z := by cases h; rfl
theorem dp_tup {ds : List PyData} (h : Dp K H v (.tuple ds)) : ∃ a xs, v = .ref a ∧ SqT K H a xs ∧ DpAll K H xs ds := by
  cases h with
  | tup hs ha => exact ⟨_, _, rfl, hs, ha⟩
theorem dp_lst {ds : List PyData} (h : Dp K H v (.list ds)) : ∃ a xs, v = .ref a ∧ SqL K H a xs ∧ DpAll K H xs ds := by
  cases h with
  | lst hs ha => exact ⟨_, _, rfl, hs, ha⟩

/-! ### a list changed: all else stays -/
structure Mv (b : Addr) (H H' : Hp) : Prop where
  but : ∀ a o, a ≠ b → H a = some o → H' a = some o
  l0 : ∃ xs, H b = some (.lst xs)
  l1 : ∃ xs, H' b = some (.lst xs)
theorem Mv.of_same (s : Same H H') (h : H b = some (.lst xs)) : Mv b H H' := ⟨fun a o _ e => s a o e, ⟨xs, h⟩, ⟨xs, s _ _ h⟩⟩
theorem Mv.trans (s : Mv b H H1) (t : Mv b H1 H2) : Mv b H H2 := ⟨fun a o n e => t.but a o n (s.but a o n e), s.l0, t.l1⟩
theorem Mv.same (s : Mv b H H1) (t : Same H1 H2) : Mv b H H2 := by
  obtain ⟨xs, h⟩ := s.l1
  exact s.trans (.of_same t h)
theorem Mv.set (s : Mv b H H1) : Mv b H (upd H1 b (.lst xs)) := ⟨fun a o n e => by rw [upd_ne n]; exact s.but a o n e, s.l0, xs, upd_same⟩
theorem Mv.none (s : Mv b H H') (h : H' p = none) : H p = none := by
  cases e : H p with
  | none => rfl
  | some o =>
    by_cases hb : p = b
    · obtain ⟨xs, q⟩ := s.l1
      rw [hb, q] at h
      cases h
    · rw [s.but p o hb e] at h
      cases h
theorem Mv.sqT (s : Mv b H H') (h : SqT K H a xs) : SqT K H' a xs := by
  obtain ⟨ys, q⟩ := s.l0
  rcases h with (h | ⟨o, h⟩) | h
  · exact .inl (.inl (s.but a _ (fun e => by rw [e, q] at h; cases h) h))
  · exact .inl (.inr ⟨o, s.but a _ (fun e => by rw [e, q] at h; cases h) h⟩)
  · exact .inr h
theorem Mv.tp (s : Mv b H H') : Tp K H H' := fun _ _ h => s.sqT h
theorem Mv.sqL (s : Mv b H H') (n : a ≠ b) (h : SqL K H a xs) : SqL K H' a xs := by
  rcases h with (h | ⟨o, h⟩) | h
  · exact .inl (.inl (s.but a _ n h))
  · exact .inl (.inr ⟨o, s.but a _ n h⟩)
  · exact .inr h
end
end L2
namespace HH
open PySem PySem.Spec L2
theorem w_chain {r r' : R2} {ta tb tc : TE} {σ : St} {H : Hp} {Q : VK} (h : ta σ H fun x H1 => tb σ H1 fun y H2 => r x y H2 fun z H3 => ∃ k, z = .bl k ∧ (if k = true then tc σ H3 fun w' H4 => r' y w' H4 Q else Q (.bl false) H3)) : tChain r r' ta tb tc σ H Q := h
theorem w_ifB {b : Bool} {A B : Prop} (h1 : b = true → A) (h2 : b = false → B) : if b = true then A else B := by
  cases b with
  | true => exact h1 rfl
  | false => exact h2 rfl
theorem w_all {K : PySem.W.Frag} {H : Hp} {Q : VK} {a : Addr} (bs : List Bool) (h : SqL K H a (bs.map V.bl)) (q : Q (.bl (bs.all id)) H) : rAll K [.ref a] H Q := ⟨a, bs, rfl, h, q⟩
theorem w_inT {K : PySem.W.Frag} {neg : Bool} {H : Hp} {Q : VK} {p : Addr} {x : V} {xs : List V} (h : SqT K H p xs) (hx : flatV x = true) (ha : xs.all flatV = true) (q : Q (.bl (if neg then !inV x xs else inV x xs)) H) : rIn K neg x (.ref p) H Q :=
  ⟨p, xs, rfl, .inr h, hx, ha, q⟩
theorem w_inL {K : PySem.W.Frag} {neg : Bool} {H : Hp} {Q : VK} {p : Addr} {x : V} {xs : List V} (h : SqL K H p xs) (hx : flatV x = true) (ha : xs.all flatV = true) (q : Q (.bl (if neg then !inV x xs else inV x xs)) H) : rIn K neg x (.ref p) H Q :=
  ⟨p, xs, rfl, .inl h, hx, ha, q⟩
theorem w_lc {wi : TI} {g : TG} {tt : TT} {te : TE} {vs : List Nat} {σ : St} {H : Hp} {Q : VK} (h : wi σ H fun J H1 => ∀ D, H1 D = none → ∃ W : Nat → Nat → Hp → Prop, (∃ m, W 0 m (upd H1 D (.lst []))) ∧ ∀ i m H, W i m H →
      (J.stop i H ∧ Q (.ref D) H) ∨ (J.go i H ∧ ∃ Nx : Hp → Prop, (∀ H', Nx H' → ∃ m', m' < m ∧ W (i + 1) m' H') ∧ ∀ x H', J.yld i H x H' → g x (wipe σ vs) H' fun σ2 H2 => wipe σ2 vs = wipe σ vs ∧ tt σ2 H2 fun b H3 =>
        if b = true then te σ2 H3 fun y H4 => ∃ acc, H4 D = some (.lst acc) ∧ acc.length < sizeLine ∧ Nx (upd H4 D (.lst (acc ++ [y]))) else Nx H3)) : tLc wi g tt te vs σ H Q := h
theorem w_yes {σ : St} {H : Hp} {Q : Bool → Hp → Prop} (h : Q true H) : tYes σ H Q := h
end HH
namespace HH
open PySem PySem.Spec L2
/-- between two turns of a comprehension that leaves all that stood: the new list at D is out i -/
def LcP (H1 : Hp) (D : Addr) (out : Nat → List V) (i : Nat) (H : Hp) : Prop := Same H1 H ∧ H D = some (.lst (out i))
theorem lc_put {H1 H H4 : Hp} {D : Addr} {out : Nat → List V} {i : Nat} {y : V} (nD : H1 D = none) (p : LcP H1 D out i H) (s : Same H H4) (hz : (out i).length < sizeLine) (e : out (i + 1) = out i ++ [y]) :
    ∃ acc, H4 D = some (.lst acc) ∧ acc.length < sizeLine ∧ LcP H1 D out (i + 1) (upd H4 D (.lst (acc ++ [y]))) :=
  ⟨out i, s _ _ p.2, hz, same_mut (p.1.trans s) nD, by rw [upd_same, e]⟩
theorem lc_skip {H1 H H3 : Hp} {D : Addr} {out : Nat → List V} {i : Nat} (p : LcP H1 D out i H) (s : Same H H3) (e : out (i + 1) = out i) : LcP H1 D out (i + 1) H3 :=
  ⟨p.1.trans s, by rw [e]; exact s _ _ p.2⟩
theorem lc_same {J : It} {n : Nat} {G : Hp → Prop} {Y : Nat → Hp → V → Hp → Prop} (w : Walk J n G Y) {g : TG} {tt : TT} {te : TE} {vs : List Nat} {σ : St} {H1 : Hp} {D : Addr} {Qd : Hp → Prop} (nD : H1 D = none) (σw : St) (hw : wipe σ vs = σw) (out : Nat → List V) (h0 : out 0 = []) (hG : ∀ H, Same H1 H → G H)
    (hs : ∀ i x H H', i < n → LcP H1 D out i H → Y i H x H' → g x σw H' fun σ2 H2 => wipe σ2 vs = σw ∧ tt σ2 H2 fun b H3 =>
      if b = true then te σ2 H3 fun y H4 => ∃ acc, H4 D = some (.lst acc) ∧ acc.length < sizeLine ∧ LcP H1 D out (i + 1) (upd H4 D (.lst (acc ++ [y]))) else LcP H1 D out (i + 1) H3)
    (hd : ∀ H, Same H1 H → H D = some (.lst (out n)) → Qd H) :
    ∃ W : Nat → Nat → Hp → Prop, (∃ m, W 0 m (upd H1 D (.lst []))) ∧ ∀ i m H, W i m H →
      (J.stop i H ∧ Qd H) ∨ (J.go i H ∧ ∃ Nx : Hp → Prop, (∀ H', Nx H' → ∃ m', m' < m ∧ W (i + 1) m' H') ∧ ∀ x H', J.yld i H x H' → g x (wipe σ vs) H' fun σ2 H2 => wipe σ2 vs = wipe σ vs ∧ tt σ2 H2 fun b H3 =>
        if b = true then te σ2 H3 fun y H4 => ∃ acc, H4 D = some (.lst acc) ∧ acc.length < sizeLine ∧ Nx (upd H4 D (.lst (acc ++ [y]))) else Nx H3) := by
  subst hw
  exact lc_it w (LcP H1 D out) ⟨same_new nD, by rw [upd_same, h0]⟩ (fun i H _ p => hG H p.1) (fun i x H H' hi p y => hs i x H H' hi p y) (fun H p => hd H p.1 p.2)
end HH
namespace HH
open PySem PySem.Spec L2
/-- one step of a reading -/
class Stp (P : Prop) (P' : outParam Prop) : Prop where
  h : P' → P
section
variable {K : PySem.W.Frag} {σ : St} {H : Hp} {Q : VK} {QT : Bool → Hp → Prop} {QA : List V → Hp → Prop} {QS : St → Hp → Prop} {D : Ends} {te ta tb tc : TE} {t u : TS} {tt tu : TT} {tas : TA} {g : TG} {gs : TGs} {r r' : R2} {v x y : V} {i j : Int} {a b p : Addr} {xs ys : List V} {z z' : Str}
theorem stp {P P' : Prop} [s : Stp P P'] (h : P') : P := s.h h
instance i_w_seq : Stp (tSeq t u D σ H) (t { D with nx := u D } σ H) := ⟨w_seq⟩
instance i_w_next : Stp (tNext D σ H) (D.nx σ H) := ⟨w_next⟩
instance i_w_asg : Stp (tAsg te g D σ H) (te σ H fun x H1 => g x σ H1 D.nx) := ⟨w_asg⟩
instance i_w_c : Stp (tC v σ H Q) (Q v H) := ⟨w_c⟩
instance i_w_op : Stp (tOp r ta tb σ H Q) (ta σ H fun x H1 => tb σ H1 fun y H2 => r x y H2 Q) := ⟨w_op⟩
instance i_w_test : Stp (tTest ta σ H QT) (ta σ H fun x H' => ∃ k, x = .bl k ∧ QT k H') := ⟨w_test⟩
instance i_w_tB : Stp (tB ta σ H QT) (ta σ H fun x H' => ∃ k, x = .bl k ∧ QT k H') := ⟨w_tB⟩
instance i_w_exb {R : Bool → Prop} {k : Bool} : Stp (∃ k', V.bl k = .bl k' ∧ R k') (R k) := ⟨w_exb⟩
instance i_w_exi {R : Int → Prop} {k : Int} : Stp (∃ k', V.int k = .int k' ∧ R k') (R k) := ⟨w_exi⟩
instance i_w_exs {R : Str → Prop} : Stp (∃ k', V.str z = .str k' ∧ R k') (R z) := ⟨w_exs⟩
instance i_w_ifS : Stp (tIfS tt t u D σ H) (tt σ H fun b H1 => if b = true then t D σ H1 else u D σ H1) := ⟨w_ifS⟩
instance i_w_if : Stp (tIf tt ta tb σ H Q) (tt σ H fun c H1 => if c = true then ta σ H1 Q else tb σ H1 Q) := ⟨w_if⟩
instance i_w_and : Stp (tAnd tt tu σ H QT) (tt σ H fun c H1 => if c = true then tu σ H1 QT else QT false H1) := ⟨w_and⟩
instance i_w_or : Stp (tOr tt tu σ H QT) (tt σ H fun c H1 => if c = true then QT true H1 else tu σ H1 QT) := ⟨w_or⟩
instance i_w_not : Stp (tNot tt σ H QT) (tt σ H fun c H1 => QT (!c) H1) := ⟨w_not⟩
instance i_w_andV : Stp (tAndV ta tb σ H Q) (ta σ H fun x H1 => ∃ c, x = .bl c ∧ if c = true then tb σ H1 Q else Q (.bl false) H1) := ⟨w_andV⟩
instance i_w_orV : Stp (tOrV ta tb σ H Q) (ta σ H fun x H1 => ∃ c, x = .bl c ∧ if c = true then Q (.bl true) H1 else tb σ H1 Q) := ⟨w_orV⟩
instance i_w_notV : Stp (tNotV ta σ H Q) (ta σ H fun x H1 => ∃ c, x = .bl c ∧ Q (.bl (!c)) H1) := ⟨w_notV⟩
instance i_w_ret : Stp (tRet te D σ H) (te σ H D.rt) := ⟨w_ret⟩
instance i_w_retN : Stp (tRetN D σ H) (D.rt .non H) := ⟨w_retN⟩
instance i_w_drop : Stp (tDrop te D σ H) (te σ H fun _ H1 => D.nx σ H1) := ⟨w_drop⟩
instance i_w_brk : Stp (tBreak D σ H) (D.bk σ H) := ⟨w_brk⟩
instance i_w_cont : Stp (tCont D σ H) (D.ct σ H) := ⟨w_cont⟩
instance i_w_cons {tr : TA} : Stp (tCons ta tr σ H QA) (ta σ H fun x H1 => tr σ H1 fun xs H2 => QA (x :: xs) H2) := ⟨w_cons⟩
instance i_w_nil : Stp (tNil σ H QA) (QA [] H) := ⟨w_nil⟩
instance i_w_tup : Stp (tTup tas σ H Q) (tas σ H fun xs H1 => xs.length ≤ sizeLine ∧ ∀ p, H1 p = none → Q (.ref p) (upd H1 p (.tup xs))) := ⟨w_tup⟩
instance i_w_lst : Stp (tLst tas σ H Q) (tas σ H fun xs H1 => xs.length ≤ sizeLine ∧ ∀ p, H1 p = none → Q (.ref p) (upd H1 p (.lst xs))) := ⟨w_lst⟩
instance i_w_cb {f : List V → Hp → VK → Prop} : Stp (tCB f tas σ H Q) (tas σ H fun vs H1 => f vs H1 Q) := ⟨w_cb⟩
instance i_w_call {sp : Sp} {E : XK} : Stp (tCall sp [] E tas σ H Q) (tas σ H fun vs H1 => sp (vs ++ []) H1 Q E) := ⟨w_call⟩
instance i_w_sl {rs : V → Option Int → Option Int → Hp → VK → Prop} {tl th : TO} : Stp (tSl rs te tl th σ H Q) (te σ H fun x H1 => tl σ H1 fun l H2 => th σ H2 fun u H3 => rs x l u H3 Q) := ⟨w_sl⟩
instance i_w_part {Q : Option Int → Hp → Prop} : Stp (tPart te σ H Q) (te σ H fun x H1 => ∃ i, x = .int i ∧ Q (some i) H1) := ⟨w_part⟩
instance i_w_nopart {Q : Option Int → Hp → Prop} : Stp (tNoPart σ H Q) (Q none H) := ⟨w_nopart⟩
instance i_w_par {i j : Nat} : Stp (tPar i j tas D σ H) (tas σ H fun vs H1 => ∃ v w, vs = [v, w] ∧ gName i v σ H1 fun σ' H2 => gName j w σ' H2 D.nx) := ⟨w_par⟩
instance i_w_par3 {i j l : Nat} : Stp (tPar3 i j l tas D σ H) (tas σ H fun vs H1 => ∃ u v w, vs = [u, v, w] ∧ gName i u σ H1 fun σ' H2 => gName j v σ' H2 fun σ2 H3 => gName l w σ2 H3 D.nx) := ⟨w_par3⟩
instance i_w_ex2 {R : V → V → Prop} : Stp (∃ v w, [x, y] = [v, w] ∧ R v w) (R x y) := ⟨w_ex2⟩
instance i_w_ex3 {R : V → V → V → Prop} : Stp (∃ u v' w, [v, x, y] = [u, v', w] ∧ R u v' w) (R v x y) := ⟨w_ex3⟩
instance i_w_gsub {to ti : TE} {ts : TSet} : Stp (gSub to ti ts v σ H QS) (to σ H fun o H1 => ti σ H1 fun i H2 => ts o i v H2 fun H3 => QS σ H3) := ⟨w_gsub⟩
instance i_w_gcons {g : TG} : Stp (gCons g gs (v :: xs) σ H QS) (g v σ H fun σ' H' => gs xs σ' H' QS) := ⟨w_gcons⟩
instance i_w_gnil : Stp (gNil [] σ H QS) (QS σ H) := ⟨w_gnil⟩
instance i_w_addI : Stp (rAddI (.int i) (.int j) H Q) (Q (.int (i + j)) H) := ⟨w_addI⟩
instance i_w_subI : Stp (rSubI (.int i) (.int j) H Q) (Q (.int (i - j)) H) := ⟨w_subI⟩
instance i_w_ltI : Stp (rLtI (.int i) (.int j) H Q) (Q (.bl (bD (i < j))) H) := ⟨w_ltI⟩
instance i_w_leI : Stp (rLeI (.int i) (.int j) H Q) (Q (.bl (bD (i ≤ j))) H) := ⟨w_leI⟩
instance i_w_gtI : Stp (rGtI (.int i) (.int j) H Q) (Q (.bl (bD (j < i))) H) := ⟨w_gtI⟩
instance i_w_geI : Stp (rGeI (.int i) (.int j) H Q) (Q (.bl (bD (j ≤ i))) H) := ⟨w_geI⟩
instance i_w_inC {c : Nat} : Stp (rInC (.str ⟨#[c]⟩) (.str z) H Q) (Q (.bl (bD (c ∈ z.cps.toList))) H) := ⟨w_inC⟩
instance i_w_notInC {c : Nat} : Stp (rNotInC (.str ⟨#[c]⟩) (.str z) H Q) (Q (.bl (!bD (c ∈ z.cps.toList))) H) := ⟨w_notInC⟩
instance i_w_isNon : Stp (rIsNon x .non H Q) (Q (.bl (bD (x = .non))) H) := ⟨w_isNon⟩
instance i_w_notNon : Stp (rNotNon x .non H Q) (Q (.bl (!bD (x = .non))) H) := ⟨w_notNon⟩
instance i_w_gtS : Stp (rGtS (.str z) (.str z') H Q) (Q (.bl (bD (z'.cps.toList < z.cps.toList))) H) := ⟨w_gtS⟩
instance i_w_eqI : Stp (rEq (.int i) (.int j) H Q) (Q (.bl (bD (i = j))) H) := ⟨w_eqI⟩
instance i_w_neI : Stp (rNe (.int i) (.int j) H Q) (Q (.bl (!bD (i = j))) H) := ⟨w_neI⟩
instance i_w_eqS : Stp (rEq (.str z) (.str z') H Q) (Q (.bl (bD (z = z'))) H) := ⟨w_eqS⟩
instance i_w_neS : Stp (rNe (.str z) (.str z') H Q) (Q (.bl (!bD (z = z'))) H) := ⟨w_neS⟩
instance i_w_max2 : Stp (rMax2 [.int i, .int j] H Q) (Q (.int (if j > i then j else i)) H) := ⟨w_max2⟩
instance i_w_min2 : Stp (rMin2 [.int i, .int j] H Q) (Q (.int (if j < i then j else i)) H) := ⟨w_min2⟩
instance i_w_intB {k : Bool} : Stp (rIntQ [.bl k] H Q) (Q (.int (if k then 1 else 0)) H) := ⟨w_intB⟩
instance i_w_bm {T : String} {f : V → List V → Hp → VK → Prop} {to : TE} : Stp (tBM K T f to tas σ H Q) (to σ H fun x H1 => tyV K T x H1 ∧ tas σ H1 fun xs H2 => f x xs H2 Q) := ⟨w_bm⟩
instance i_w_bm0 {T : String} {f : V → List V → Hp → VK → Prop} {to : TE} : Stp (tBM0 K T f to σ H Q) (to σ H fun x H1 => tyV K T x H1 ∧ f x [] H1 Q) := ⟨w_bm0⟩
instance i_w_join1 {f : V → List V → Hp → VK → Prop} {to : TE} : Stp (tM1 f to te σ H Q) (to σ H fun x H1 => (∃ a, x = .str a) ∧ te σ H1 fun y H2 => f x [y] H2 Q) := ⟨w_join1⟩
instance i_w_isStr {R : Prop} : Stp ((∃ a, V.str z = .str a) ∧ R) (R) := ⟨w_isStr⟩
instance i_w_for {wi : TI} {tb : TS} : Stp (tFor wi g tb D σ H) (wi σ H fun J H1 => ∃ W : Nat → Nat → St → Hp → Prop, (∃ m, W 0 m σ H1) ∧ ∀ i m σ H, W i m σ H →
      (J.stop i H ∧ D.nx σ H) ∨ (J.go i H ∧ ∃ N : St → Hp → Prop, (∀ σ' H', N σ' H' → ∃ m', m' < m ∧ W (i + 1) m' σ' H') ∧ ∀ x H', J.yld i H x H' → g x σ H' fun σ2 H2 => tb { D with nx := N, ct := N, bk := D.nx } σ2 H2)) := ⟨w_for⟩
instance i_w_iT {R : It → Hp → Prop} : Stp (iTup K te σ H R) (te σ H fun x H1 => ∃ a, x = .ref a ∧ (∃ xs, SqT K H1 a xs) ∧ R (Itt K a) H1) := ⟨w_iT⟩
instance i_w_iL {R : It → Hp → Prop} : Stp (iList K te σ H R) (te σ H fun x H1 => ∃ a, x = .ref a ∧ (∃ xs, SqL K H1 a xs) ∧ R (Itl K a) H1) := ⟨w_iL⟩
instance i_w_iS {R : It → Hp → Prop} : Stp (iStr te σ H R) (te σ H fun v H1 => ∃ x, v = .str x ∧ R (Its x) H1) := ⟨w_iS⟩
instance i_w_iR1 {R : It → Hp → Prop} : Stp (iRng1 tas σ H R) (tas σ H fun vs H1 => ∃ j : Int, vs = [.int j] ∧ -(2 ^ 62) ≤ j ∧ j < 2 ^ 62 ∧ R (Itr 0 j.toNat) H1) := ⟨w_iR1⟩
instance i_w_iR2 {R : It → Hp → Prop} : Stp (iRng2 tas σ H R) (tas σ H fun vs H1 => ∃ i j : Int, vs = [.int i, .int j] ∧ (-(2 ^ 62) ≤ i ∧ i < 2 ^ 62 ∧ -(2 ^ 62) ≤ j ∧ j < 2 ^ 62) ∧ R (Itr i (j - i).toNat) H1) := ⟨w_iR2⟩
instance i_w_chain {r r' : R2} {ta tb tc : TE} {σ : St} {H : Hp} {Q : VK} : Stp (tChain r r' ta tb tc σ H Q) (ta σ H fun x H1 => tb σ H1 fun y H2 => r x y H2 fun z H3 => ∃ k, z = .bl k ∧ (if k = true then tc σ H3 fun w' H4 => r' y w' H4 Q else Q (.bl false) H3)) := ⟨w_chain⟩
instance i_w_lc {wi : TI} {g : TG} {tt : TT} {te : TE} {vs : List Nat} {σ : St} {H : Hp} {Q : VK} : Stp (tLc wi g tt te vs σ H Q) (wi σ H fun J H1 => ∀ D, H1 D = none → ∃ W : Nat → Nat → Hp → Prop, (∃ m, W 0 m (upd H1 D (.lst []))) ∧ ∀ i m H, W i m H →
      (J.stop i H ∧ Q (.ref D) H) ∨ (J.go i H ∧ ∃ Nx : Hp → Prop, (∀ H', Nx H' → ∃ m', m' < m ∧ W (i + 1) m' H') ∧ ∀ x H', J.yld i H x H' → g x (wipe σ vs) H' fun σ2 H2 => wipe σ2 vs = wipe σ vs ∧ tt σ2 H2 fun b H3 =>
        if b = true then te σ2 H3 fun y H4 => ∃ acc, H4 D = some (.lst acc) ∧ acc.length < sizeLine ∧ Nx (upd H4 D (.lst (acc ++ [y]))) else Nx H3)) := ⟨w_lc⟩
instance i_w_yes {σ : St} {H : Hp} {Q : Bool → Hp → Prop} : Stp (tYes σ H Q) (Q true H) := ⟨w_yes⟩
instance i_v0 {v : V} {r : St} {H : Hp} {Q : VK} : Stp (tVar 0 (some v :: r) H Q) (Q v H) := ⟨w_v0⟩
instance i_g0 {x : Option V} {v : V} {r : St} {H : Hp} {Q : St → Hp → Prop} : Stp (gName 0 v (x :: r) H Q) (Q (some v :: r) H) := ⟨w_g0⟩
instance i_v1 {a0 : Option V} {v : V} {r : St} {H : Hp} {Q : VK} : Stp (tVar 1 (a0 :: some v :: r) H Q) (Q v H) := ⟨w_v1⟩
instance i_g1 {a0 : Option V} {x : Option V} {v : V} {r : St} {H : Hp} {Q : St → Hp → Prop} : Stp (gName 1 v (a0 :: x :: r) H Q) (Q (a0 :: some v :: r) H) := ⟨w_g1⟩
instance i_v2 {a0 a1 : Option V} {v : V} {r : St} {H : Hp} {Q : VK} : Stp (tVar 2 (a0 :: a1 :: some v :: r) H Q) (Q v H) := ⟨w_v2⟩
instance i_g2 {a0 a1 : Option V} {x : Option V} {v : V} {r : St} {H : Hp} {Q : St → Hp → Prop} : Stp (gName 2 v (a0 :: a1 :: x :: r) H Q) (Q (a0 :: a1 :: some v :: r) H) := ⟨w_g2⟩
instance i_v3 {a0 a1 a2 : Option V} {v : V} {r : St} {H : Hp} {Q : VK} : Stp (tVar 3 (a0 :: a1 :: a2 :: some v :: r) H Q) (Q v H) := ⟨w_v3⟩
instance i_g3 {a0 a1 a2 : Option V} {x : Option V} {v : V} {r : St} {H : Hp} {Q : St → Hp → Prop} : Stp (gName 3 v (a0 :: a1 :: a2 :: x :: r) H Q) (Q (a0 :: a1 :: a2 :: some v :: r) H) := ⟨w_g3⟩
instance i_v4 {a0 a1 a2 a3 : Option V} {v : V} {r : St} {H : Hp} {Q : VK} : Stp (tVar 4 (a0 :: a1 :: a2 :: a3 :: some v :: r) H Q) (Q v H) := ⟨w_v4⟩
instance i_g4 {a0 a1 a2 a3 : Option V} {x : Option V} {v : V} {r : St} {H : Hp} {Q : St → Hp → Prop} : Stp (gName 4 v (a0 :: a1 :: a2 :: a3 :: x :: r) H Q) (Q (a0 :: a1 :: a2 :: a3 :: some v :: r) H) := ⟨w_g4⟩
instance i_v5 {a0 a1 a2 a3 a4 : Option V} {v : V} {r : St} {H : Hp} {Q : VK} : Stp (tVar 5 (a0 :: a1 :: a2 :: a3 :: a4 :: some v :: r) H Q) (Q v H) := ⟨w_v5⟩
instance i_g5 {a0 a1 a2 a3 a4 : Option V} {x : Option V} {v : V} {r : St} {H : Hp} {Q : St → Hp → Prop} : Stp (gName 5 v (a0 :: a1 :: a2 :: a3 :: a4 :: x :: r) H Q) (Q (a0 :: a1 :: a2 :: a3 :: a4 :: some v :: r) H) := ⟨w_g5⟩
instance i_v6 {a0 a1 a2 a3 a4 a5 : Option V} {v : V} {r : St} {H : Hp} {Q : VK} : Stp (tVar 6 (a0 :: a1 :: a2 :: a3 :: a4 :: a5 :: some v :: r) H Q) (Q v H) := ⟨w_v6⟩
instance i_g6 {a0 a1 a2 a3 a4 a5 : Option V} {x : Option V} {v : V} {r : St} {H : Hp} {Q : St → Hp → Prop} : Stp (gName 6 v (a0 :: a1 :: a2 :: a3 :: a4 :: a5 :: x :: r) H Q) (Q (a0 :: a1 :: a2 :: a3 :: a4 :: a5 :: some v :: r) H) := ⟨w_g6⟩
instance i_v7 {a0 a1 a2 a3 a4 a5 a6 : Option V} {v : V} {r : St} {H : Hp} {Q : VK} : Stp (tVar 7 (a0 :: a1 :: a2 :: a3 :: a4 :: a5 :: a6 :: some v :: r) H Q) (Q v H) := ⟨w_v7⟩
instance i_g7 {a0 a1 a2 a3 a4 a5 a6 : Option V} {x : Option V} {v : V} {r : St} {H : Hp} {Q : St → Hp → Prop} : Stp (gName 7 v (a0 :: a1 :: a2 :: a3 :: a4 :: a5 :: a6 :: x :: r) H Q) (Q (a0 :: a1 :: a2 :: a3 :: a4 :: a5 :: a6 :: some v :: r) H) := ⟨w_g7⟩
instance i_v8 {a0 a1 a2 a3 a4 a5 a6 a7 : Option V} {v : V} {r : St} {H : Hp} {Q : VK} : Stp (tVar 8 (a0 :: a1 :: a2 :: a3 :: a4 :: a5 :: a6 :: a7 :: some v :: r) H Q) (Q v H) := ⟨w_v8⟩
instance i_g8 {a0 a1 a2 a3 a4 a5 a6 a7 : Option V} {x : Option V} {v : V} {r : St} {H : Hp} {Q : St → Hp → Prop} : Stp (gName 8 v (a0 :: a1 :: a2 :: a3 :: a4 :: a5 :: a6 :: a7 :: x :: r) H Q) (Q (a0 :: a1 :: a2 :: a3 :: a4 :: a5 :: a6 :: a7 :: some v :: r) H) := ⟨w_g8⟩
instance i_v9 {a0 a1 a2 a3 a4 a5 a6 a7 a8 : Option V} {v : V} {r : St} {H : Hp} {Q : VK} : Stp (tVar 9 (a0 :: a1 :: a2 :: a3 :: a4 :: a5 :: a6 :: a7 :: a8 :: some v :: r) H Q) (Q v H) := ⟨w_v9⟩
instance i_g9 {a0 a1 a2 a3 a4 a5 a6 a7 a8 : Option V} {x : Option V} {v : V} {r : St} {H : Hp} {Q : St → Hp → Prop} : Stp (gName 9 v (a0 :: a1 :: a2 :: a3 :: a4 :: a5 :: a6 :: a7 :: a8 :: x :: r) H Q) (Q (a0 :: a1 :: a2 :: a3 :: a4 :: a5 :: a6 :: a7 :: a8 :: some v :: r) H) := ⟨w_g9⟩
instance i_v10 {a0 a1 a2 a3 a4 a5 a6 a7 a8 a9 : Option V} {v : V} {r : St} {H : Hp} {Q : VK} : Stp (tVar 10 (a0 :: a1 :: a2 :: a3 :: a4 :: a5 :: a6 :: a7 :: a8 :: a9 :: some v :: r) H Q) (Q v H) := ⟨w_v10⟩
instance i_g10 {a0 a1 a2 a3 a4 a5 a6 a7 a8 a9 : Option V} {x : Option V} {v : V} {r : St} {H : Hp} {Q : St → Hp → Prop} : Stp (gName 10 v (a0 :: a1 :: a2 :: a3 :: a4 :: a5 :: a6 :: a7 :: a8 :: a9 :: x :: r) H Q) (Q (a0 :: a1 :: a2 :: a3 :: a4 :: a5 :: a6 :: a7 :: a8 :: a9 :: some v :: r) H) := ⟨w_g10⟩
instance i_v11 {a0 a1 a2 a3 a4 a5 a6 a7 a8 a9 a10 : Option V} {v : V} {r : St} {H : Hp} {Q : VK} : Stp (tVar 11 (a0 :: a1 :: a2 :: a3 :: a4 :: a5 :: a6 :: a7 :: a8 :: a9 :: a10 :: some v :: r) H Q) (Q v H) := ⟨w_v11⟩
instance i_g11 {a0 a1 a2 a3 a4 a5 a6 a7 a8 a9 a10 : Option V} {x : Option V} {v : V} {r : St} {H : Hp} {Q : St → Hp → Prop} : Stp (gName 11 v (a0 :: a1 :: a2 :: a3 :: a4 :: a5 :: a6 :: a7 :: a8 :: a9 :: a10 :: x :: r) H Q) (Q (a0 :: a1 :: a2 :: a3 :: a4 :: a5 :: a6 :: a7 :: a8 :: a9 :: a10 :: some v :: r) H) := ⟨w_g11⟩
instance i_v12 {a0 a1 a2 a3 a4 a5 a6 a7 a8 a9 a10 a11 : Option V} {v : V} {r : St} {H : Hp} {Q : VK} : Stp (tVar 12 (a0 :: a1 :: a2 :: a3 :: a4 :: a5 :: a6 :: a7 :: a8 :: a9 :: a10 :: a11 :: some v :: r) H Q) (Q v H) := ⟨w_v12⟩
instance i_g12 {a0 a1 a2 a3 a4 a5 a6 a7 a8 a9 a10 a11 : Option V} {x : Option V} {v : V} {r : St} {H : Hp} {Q : St → Hp → Prop} : Stp (gName 12 v (a0 :: a1 :: a2 :: a3 :: a4 :: a5 :: a6 :: a7 :: a8 :: a9 :: a10 :: a11 :: x :: r) H Q) (Q (a0 :: a1 :: a2 :: a3 :: a4 :: a5 :: a6 :: a7 :: a8 :: a9 :: a10 :: a11 :: some v :: r) H) := ⟨w_g12⟩
instance i_v13 {a0 a1 a2 a3 a4 a5 a6 a7 a8 a9 a10 a11 a12 : Option V} {v : V} {r : St} {H : Hp} {Q : VK} : Stp (tVar 13 (a0 :: a1 :: a2 :: a3 :: a4 :: a5 :: a6 :: a7 :: a8 :: a9 :: a10 :: a11 :: a12 :: some v :: r) H Q) (Q v H) := ⟨w_v13⟩
instance i_g13 {a0 a1 a2 a3 a4 a5 a6 a7 a8 a9 a10 a11 a12 : Option V} {x : Option V} {v : V} {r : St} {H : Hp} {Q : St → Hp → Prop} : Stp (gName 13 v (a0 :: a1 :: a2 :: a3 :: a4 :: a5 :: a6 :: a7 :: a8 :: a9 :: a10 :: a11 :: a12 :: x :: r) H Q) (Q (a0 :: a1 :: a2 :: a3 :: a4 :: a5 :: a6 :: a7 :: a8 :: a9 :: a10 :: a11 :: a12 :: some v :: r) H) := ⟨w_g13⟩
instance i_v14 {a0 a1 a2 a3 a4 a5 a6 a7 a8 a9 a10 a11 a12 a13 : Option V} {v : V} {r : St} {H : Hp} {Q : VK} : Stp (tVar 14 (a0 :: a1 :: a2 :: a3 :: a4 :: a5 :: a6 :: a7 :: a8 :: a9 :: a10 :: a11 :: a12 :: a13 :: some v :: r) H Q) (Q v H) := ⟨w_v14⟩
instance i_g14 {a0 a1 a2 a3 a4 a5 a6 a7 a8 a9 a10 a11 a12 a13 : Option V} {x : Option V} {v : V} {r : St} {H : Hp} {Q : St → Hp → Prop} : Stp (gName 14 v (a0 :: a1 :: a2 :: a3 :: a4 :: a5 :: a6 :: a7 :: a8 :: a9 :: a10 :: a11 :: a12 :: a13 :: x :: r) H Q) (Q (a0 :: a1 :: a2 :: a3 :: a4 :: a5 :: a6 :: a7 :: a8 :: a9 :: a10 :: a11 :: a12 :: a13 :: some v :: r) H) := ⟨w_g14⟩
instance i_v15 {a0 a1 a2 a3 a4 a5 a6 a7 a8 a9 a10 a11 a12 a13 a14 : Option V} {v : V} {r : St} {H : Hp} {Q : VK} : Stp (tVar 15 (a0 :: a1 :: a2 :: a3 :: a4 :: a5 :: a6 :: a7 :: a8 :: a9 :: a10 :: a11 :: a12 :: a13 :: a14 :: some v :: r) H Q) (Q v H) := ⟨w_v15⟩
instance i_g15 {a0 a1 a2 a3 a4 a5 a6 a7 a8 a9 a10 a11 a12 a13 a14 : Option V} {x : Option V} {v : V} {r : St} {H : Hp} {Q : St → Hp → Prop} : Stp (gName 15 v (a0 :: a1 :: a2 :: a3 :: a4 :: a5 :: a6 :: a7 :: a8 :: a9 :: a10 :: a11 :: a12 :: a13 :: a14 :: x :: r) H Q) (Q (a0 :: a1 :: a2 :: a3 :: a4 :: a5 :: a6 :: a7 :: a8 :: a9 :: a10 :: a11 :: a12 :: a13 :: a14 :: some v :: r) H) := ⟨w_g15⟩
instance i_v16 {a0 a1 a2 a3 a4 a5 a6 a7 a8 a9 a10 a11 a12 a13 a14 a15 : Option V} {v : V} {r : St} {H : Hp} {Q : VK} : Stp (tVar 16 (a0 :: a1 :: a2 :: a3 :: a4 :: a5 :: a6 :: a7 :: a8 :: a9 :: a10 :: a11 :: a12 :: a13 :: a14 :: a15 :: some v :: r) H Q) (Q v H) := ⟨w_v16⟩
instance i_g16 {a0 a1 a2 a3 a4 a5 a6 a7 a8 a9 a10 a11 a12 a13 a14 a15 : Option V} {x : Option V} {v : V} {r : St} {H : Hp} {Q : St → Hp → Prop} : Stp (gName 16 v (a0 :: a1 :: a2 :: a3 :: a4 :: a5 :: a6 :: a7 :: a8 :: a9 :: a10 :: a11 :: a12 :: a13 :: a14 :: a15 :: x :: r) H Q) (Q (a0 :: a1 :: a2 :: a3 :: a4 :: a5 :: a6 :: a7 :: a8 :: a9 :: a10 :: a11 :: a12 :: a13 :: a14 :: a15 :: some v :: r) H) := ⟨w_g16⟩
instance i_v17 {a0 a1 a2 a3 a4 a5 a6 a7 a8 a9 a10 a11 a12 a13 a14 a15 a16 : Option V} {v : V} {r : St} {H : Hp} {Q : VK} : Stp (tVar 17 (a0 :: a1 :: a2 :: a3 :: a4 :: a5 :: a6 :: a7 :: a8 :: a9 :: a10 :: a11 :: a12 :: a13 :: a14 :: a15 :: a16 :: some v :: r) H Q) (Q v H) := ⟨w_v17⟩
instance i_g17 {a0 a1 a2 a3 a4 a5 a6 a7 a8 a9 a10 a11 a12 a13 a14 a15 a16 : Option V} {x : Option V} {v : V} {r : St} {H : Hp} {Q : St → Hp → Prop} : Stp (gName 17 v (a0 :: a1 :: a2 :: a3 :: a4 :: a5 :: a6 :: a7 :: a8 :: a9 :: a10 :: a11 :: a12 :: a13 :: a14 :: a15 :: a16 :: x :: r) H Q) (Q (a0 :: a1 :: a2 :: a3 :: a4 :: a5 :: a6 :: a7 :: a8 :: a9 :: a10 :: a11 :: a12 :: a13 :: a14 :: a15 :: a16 :: some v :: r) H) := ⟨w_g17⟩
instance i_v18 {a0 a1 a2 a3 a4 a5 a6 a7 a8 a9 a10 a11 a12 a13 a14 a15 a16 a17 : Option V} {v : V} {r : St} {H : Hp} {Q : VK} : Stp (tVar 18 (a0 :: a1 :: a2 :: a3 :: a4 :: a5 :: a6 :: a7 :: a8 :: a9 :: a10 :: a11 :: a12 :: a13 :: a14 :: a15 :: a16 :: a17 :: some v :: r) H Q) (Q v H) := ⟨w_v18⟩
instance i_g18 {a0 a1 a2 a3 a4 a5 a6 a7 a8 a9 a10 a11 a12 a13 a14 a15 a16 a17 : Option V} {x : Option V} {v : V} {r : St} {H : Hp} {Q : St → Hp → Prop} : Stp (gName 18 v (a0 :: a1 :: a2 :: a3 :: a4 :: a5 :: a6 :: a7 :: a8 :: a9 :: a10 :: a11 :: a12 :: a13 :: a14 :: a15 :: a16 :: a17 :: x :: r) H Q) (Q (a0 :: a1 :: a2 :: a3 :: a4 :: a5 :: a6 :: a7 :: a8 :: a9 :: a10 :: a11 :: a12 :: a13 :: a14 :: a15 :: a16 :: a17 :: some v :: r) H) := ⟨w_g18⟩
instance i_v19 {a0 a1 a2 a3 a4 a5 a6 a7 a8 a9 a10 a11 a12 a13 a14 a15 a16 a17 a18 : Option V} {v : V} {r : St} {H : Hp} {Q : VK} : Stp (tVar 19 (a0 :: a1 :: a2 :: a3 :: a4 :: a5 :: a6 :: a7 :: a8 :: a9 :: a10 :: a11 :: a12 :: a13 :: a14 :: a15 :: a16 :: a17 :: a18 :: some v :: r) H Q) (Q v H) := ⟨w_v19⟩
instance i_g19 {a0 a1 a2 a3 a4 a5 a6 a7 a8 a9 a10 a11 a12 a13 a14 a15 a16 a17 a18 : Option V} {x : Option V} {v : V} {r : St} {H : Hp} {Q : St → Hp → Prop} : Stp (gName 19 v (a0 :: a1 :: a2 :: a3 :: a4 :: a5 :: a6 :: a7 :: a8 :: a9 :: a10 :: a11 :: a12 :: a13 :: a14 :: a15 :: a16 :: a17 :: a18 :: x :: r) H Q) (Q (a0 :: a1 :: a2 :: a3 :: a4 :: a5 :: a6 :: a7 :: a8 :: a9 :: a10 :: a11 :: a12 :: a13 :: a14 :: a15 :: a16 :: a17 :: a18 :: some v :: r) H) := ⟨w_g19⟩
instance i_v20 {a0 a1 a2 a3 a4 a5 a6 a7 a8 a9 a10 a11 a12 a13 a14 a15 a16 a17 a18 a19 : Option V} {v : V} {r : St} {H : Hp} {Q : VK} : Stp (tVar 20 (a0 :: a1 :: a2 :: a3 :: a4 :: a5 :: a6 :: a7 :: a8 :: a9 :: a10 :: a11 :: a12 :: a13 :: a14 :: a15 :: a16 :: a17 :: a18 :: a19 :: some v :: r) H Q) (Q v H) := ⟨w_v20⟩
instance i_g20 {a0 a1 a2 a3 a4 a5 a6 a7 a8 a9 a10 a11 a12 a13 a14 a15 a16 a17 a18 a19 : Option V} {x : Option V} {v : V} {r : St} {H : Hp} {Q : St → Hp → Prop} : Stp (gName 20 v (a0 :: a1 :: a2 :: a3 :: a4 :: a5 :: a6 :: a7 :: a8 :: a9 :: a10 :: a11 :: a12 :: a13 :: a14 :: a15 :: a16 :: a17 :: a18 :: a19 :: x :: r) H Q) (Q (a0 :: a1 :: a2 :: a3 :: a4 :: a5 :: a6 :: a7 :: a8 :: a9 :: a10 :: a11 :: a12 :: a13 :: a14 :: a15 :: a16 :: a17 :: a18 :: a19 :: some v :: r) H) := ⟨w_g20⟩
instance i_v21 {a0 a1 a2 a3 a4 a5 a6 a7 a8 a9 a10 a11 a12 a13 a14 a15 a16 a17 a18 a19 a20 : Option V} {v : V} {r : St} {H : Hp} {Q : VK} : Stp (tVar 21 (a0 :: a1 :: a2 :: a3 :: a4 :: a5 :: a6 :: a7 :: a8 :: a9 :: a10 :: a11 :: a12 :: a13 :: a14 :: a15 :: a16 :: a17 :: a18 :: a19 :: a20 :: some v :: r) H Q) (Q v H) := ⟨w_v21⟩
instance i_g21 {a0 a1 a2 a3 a4 a5 a6 a7 a8 a9 a10 a11 a12 a13 a14 a15 a16 a17 a18 a19 a20 : Option V} {x : Option V} {v : V} {r : St} {H : Hp} {Q : St → Hp → Prop} : Stp (gName 21 v (a0 :: a1 :: a2 :: a3 :: a4 :: a5 :: a6 :: a7 :: a8 :: a9 :: a10 :: a11 :: a12 :: a13 :: a14 :: a15 :: a16 :: a17 :: a18 :: a19 :: a20 :: x :: r) H Q) (Q (a0 :: a1 :: a2 :: a3 :: a4 :: a5 :: a6 :: a7 :: a8 :: a9 :: a10 :: a11 :: a12 :: a13 :: a14 :: a15 :: a16 :: a17 :: a18 :: a19 :: a20 :: some v :: r) H) := ⟨w_g21⟩
instance i_v22 {a0 a1 a2 a3 a4 a5 a6 a7 a8 a9 a10 a11 a12 a13 a14 a15 a16 a17 a18 a19 a20 a21 : Option V} {v : V} {r : St} {H : Hp} {Q : VK} : Stp (tVar 22 (a0 :: a1 :: a2 :: a3 :: a4 :: a5 :: a6 :: a7 :: a8 :: a9 :: a10 :: a11 :: a12 :: a13 :: a14 :: a15 :: a16 :: a17 :: a18 :: a19 :: a20 :: a21 :: some v :: r) H Q) (Q v H) := ⟨w_v22⟩
instance i_g22 {a0 a1 a2 a3 a4 a5 a6 a7 a8 a9 a10 a11 a12 a13 a14 a15 a16 a17 a18 a19 a20 a21 : Option V} {x : Option V} {v : V} {r : St} {H : Hp} {Q : St → Hp → Prop} : Stp (gName 22 v (a0 :: a1 :: a2 :: a3 :: a4 :: a5 :: a6 :: a7 :: a8 :: a9 :: a10 :: a11 :: a12 :: a13 :: a14 :: a15 :: a16 :: a17 :: a18 :: a19 :: a20 :: a21 :: x :: r) H Q) (Q (a0 :: a1 :: a2 :: a3 :: a4 :: a5 :: a6 :: a7 :: a8 :: a9 :: a10 :: a11 :: a12 :: a13 :: a14 :: a15 :: a16 :: a17 :: a18 :: a19 :: a20 :: a21 :: some v :: r) H) := ⟨w_g22⟩
instance i_v23 {a0 a1 a2 a3 a4 a5 a6 a7 a8 a9 a10 a11 a12 a13 a14 a15 a16 a17 a18 a19 a20 a21 a22 : Option V} {v : V} {r : St} {H : Hp} {Q : VK} : Stp (tVar 23 (a0 :: a1 :: a2 :: a3 :: a4 :: a5 :: a6 :: a7 :: a8 :: a9 :: a10 :: a11 :: a12 :: a13 :: a14 :: a15 :: a16 :: a17 :: a18 :: a19 :: a20 :: a21 :: a22 :: some v :: r) H Q) (Q v H) := ⟨w_v23⟩
instance i_g23 {a0 a1 a2 a3 a4 a5 a6 a7 a8 a9 a10 a11 a12 a13 a14 a15 a16 a17 a18 a19 a20 a21 a22 : Option V} {x : Option V} {v : V} {r : St} {H : Hp} {Q : St → Hp → Prop} : Stp (gName 23 v (a0 :: a1 :: a2 :: a3 :: a4 :: a5 :: a6 :: a7 :: a8 :: a9 :: a10 :: a11 :: a12 :: a13 :: a14 :: a15 :: a16 :: a17 :: a18 :: a19 :: a20 :: a21 :: a22 :: x :: r) H Q) (Q (a0 :: a1 :: a2 :: a3 :: a4 :: a5 :: a6 :: a7 :: a8 :: a9 :: a10 :: a11 :: a12 :: a13 :: a14 :: a15 :: a16 :: a17 :: a18 :: a19 :: a20 :: a21 :: a22 :: some v :: r) H) := ⟨w_g23⟩
instance i_v24 {a0 a1 a2 a3 a4 a5 a6 a7 a8 a9 a10 a11 a12 a13 a14 a15 a16 a17 a18 a19 a20 a21 a22 a23 : Option V} {v : V} {r : St} {H : Hp} {Q : VK} : Stp (tVar 24 (a0 :: a1 :: a2 :: a3 :: a4 :: a5 :: a6 :: a7 :: a8 :: a9 :: a10 :: a11 :: a12 :: a13 :: a14 :: a15 :: a16 :: a17 :: a18 :: a19 :: a20 :: a21 :: a22 :: a23 :: some v :: r) H Q) (Q v H) := ⟨w_v24⟩
instance i_g24 {a0 a1 a2 a3 a4 a5 a6 a7 a8 a9 a10 a11 a12 a13 a14 a15 a16 a17 a18 a19 a20 a21 a22 a23 : Option V} {x : Option V} {v : V} {r : St} {H : Hp} {Q : St → Hp → Prop} : Stp (gName 24 v (a0 :: a1 :: a2 :: a3 :: a4 :: a5 :: a6 :: a7 :: a8 :: a9 :: a10 :: a11 :: a12 :: a13 :: a14 :: a15 :: a16 :: a17 :: a18 :: a19 :: a20 :: a21 :: a22 :: a23 :: x :: r) H Q) (Q (a0 :: a1 :: a2 :: a3 :: a4 :: a5 :: a6 :: a7 :: a8 :: a9 :: a10 :: a11 :: a12 :: a13 :: a14 :: a15 :: a16 :: a17 :: a18 :: a19 :: a20 :: a21 :: a22 :: a23 :: some v :: r) H) := ⟨w_g24⟩
instance i_v25 {a0 a1 a2 a3 a4 a5 a6 a7 a8 a9 a10 a11 a12 a13 a14 a15 a16 a17 a18 a19 a20 a21 a22 a23 a24 : Option V} {v : V} {r : St} {H : Hp} {Q : VK} : Stp (tVar 25 (a0 :: a1 :: a2 :: a3 :: a4 :: a5 :: a6 :: a7 :: a8 :: a9 :: a10 :: a11 :: a12 :: a13 :: a14 :: a15 :: a16 :: a17 :: a18 :: a19 :: a20 :: a21 :: a22 :: a23 :: a24 :: some v :: r) H Q) (Q v H) := ⟨w_v25⟩
instance i_g25 {a0 a1 a2 a3 a4 a5 a6 a7 a8 a9 a10 a11 a12 a13 a14 a15 a16 a17 a18 a19 a20 a21 a22 a23 a24 : Option V} {x : Option V} {v : V} {r : St} {H : Hp} {Q : St → Hp → Prop} : Stp (gName 25 v (a0 :: a1 :: a2 :: a3 :: a4 :: a5 :: a6 :: a7 :: a8 :: a9 :: a10 :: a11 :: a12 :: a13 :: a14 :: a15 :: a16 :: a17 :: a18 :: a19 :: a20 :: a21 :: a22 :: a23 :: a24 :: x :: r) H Q) (Q (a0 :: a1 :: a2 :: a3 :: a4 :: a5 :: a6 :: a7 :: a8 :: a9 :: a10 :: a11 :: a12 :: a13 :: a14 :: a15 :: a16 :: a17 :: a18 :: a19 :: a20 :: a21 :: a22 :: a23 :: a24 :: some v :: r) H) := ⟨w_g25⟩
theorem ite_T {b : Bool} {A B : Prop} (e : b = true) (h : A) : if b = true then A else B := by rw [e]; exact iteT h
end
end HH
namespace HH
open PySem PySem.Spec L2
section
variable {H : Hp} {Q : VK}
instance i_p18 : Stp (rPowI (.int 10) (.int 18) H Q) (Q (.int 1000000000000000000) H) := ⟨fun h => ⟨10, 18, rfl, rfl, ⟨by decide, by decide, by decide⟩, h⟩⟩
instance i_p15 : Stp (rPowI (.int 10) (.int 15) H Q) (Q (.int 1000000000000000) H) := ⟨fun h => ⟨10, 15, rfl, rfl, ⟨by decide, by decide, by decide⟩, h⟩⟩
instance i_p14 : Stp (rPowI (.int 10) (.int 14) H Q) (Q (.int 100000000000000) H) := ⟨fun h => ⟨10, 14, rfl, rfl, ⟨by decide, by decide, by decide⟩, h⟩⟩
instance i_p13 : Stp (rPowI (.int 10) (.int 13) H Q) (Q (.int 10000000000000) H) := ⟨fun h => ⟨10, 13, rfl, rfl, ⟨by decide, by decide, by decide⟩, h⟩⟩
end
end HH
namespace HH
open PySem PySem.Spec L2
theorem w_setL {H : Hp} {p : Addr} {xs : List V} {k : Int} {j : Nat} {v : V} {Q : Hp → Prop} (h : H p = some (.lst xs)) (e : ixN xs.length k = some j) (q : Q (upd H p (.lst (xs.set j v)))) : rSetL (.ref p) (.int k) v H Q := ⟨p, xs, k, j, rfl, rfl, h, e, q⟩
theorem w_tupL {K : PySem.W.Frag} {H : Hp} {p : Addr} {ys : List V} {Q : VK} (h : SqL K H p ys) (q : ∀ l, H l = none → Q (.ref l) (upd H l (.tup ys))) : rTupQ K [.ref p] H Q := ⟨p, ys, rfl, .inl ⟨h, q⟩⟩
theorem w_joinQ {K : PySem.W.Frag} {H : Hp} {p : Addr} {a : Str} {Q : VK} (ys : List Str) (h : SqL K H p (ys.map V.str)) (z : (ys.map (·.length)).sum + ys.length * a.length ≤ 16777216) (q : Q (.str (Txt.join a ys)) H) : rJoin K (.str a) [.ref p] H Q := ⟨a, p, ys, rfl, rfl, .inl h, z, q⟩
theorem w_ixS {H : Hp} {z : Str} {i : Int} {c : Nat} {Q : VK} (hz : z.length ≤ sizeLine) (e : atI z.cps.toList i = some c) (q : Q (.str ⟨#[c]⟩) H) : rIxS (.str z) (.int i) H Q := ⟨z, i, c, rfl, rfl, hz, e, q⟩
theorem w_cat {H : Hp} {l b : Addr} {xs zs : List V} {Q : VK} (h1 : H l = some (.lst xs)) (h2 : H b = some (.lst zs)) (z : xs.length + zs.length ≤ sizeLine) (q : ∀ p, H p = none → Q (.ref p) (upd H p (.lst (xs ++ zs)))) : rCat (.ref l) (.ref b) H Q := ⟨l, b, xs, zs, rfl, rfl, h1, h2, z, q⟩
end HH
namespace HH
open PySem PySem.Spec L2
theorem isIf {tt : TT} {t u : TS} {D : Ends} {σ : St} {H : Hp} (h : tIfS tt t u D σ H) : tIfS tt t u D σ H := h
/-- an if whose test is false on every way -/
theorem w_ifNo {tt : TT} {t u : TS} {D : Ends} {σ : St} {H : Hp} (P : Hp → Prop) (h1 : ∀ QT : Bool → Hp → Prop, (∀ H', P H' → QT false H') → tt σ H QT) (h2 : ∀ H', P H' → u D σ H') : tIfS tt t u D σ H :=
  h1 _ fun H' p => iteF (h2 H' p)
end HH

namespace HH
open PySem PySem.Spec PyProof.Rows L2
section
variable {prog : Program} {w : World} {A : Around} {E : Value → Shared → Prop} {s : Shared}
theorem rev_adjust (n : Nat) : Builtin.Slice.sliceAdjust none none (-1) (n : Int) = ((n : Int) - 1, -1) := rfl
theorem rev_places (n : Nat) : Builtin.Slice.slicePlaces ((n : Int) - 1) (-1) (-1) = n := by
  unfold Builtin.Slice.slicePlaces
  rw [if_neg (by decide)]
  by_cases h : n = 0
  · subst h
    rfl
  · rw [if_pos (by omega)]
    have : ((n : Int) - 1 - -1 - 1) / (- -1) + 1 = n := by
      rw [show (- -1 : Int) = 1 from rfl, Int.ediv_one]
      omega
    rw [this]
    exact Int.toNat_natCast n
theorem sliceApplied_rev {sl : Addr} {vl vu vs : Value} {n : Nat} {Q : Int × Int × Nat → Shared → Prop} (hs : s.heap.IsSliceOf sl vl vu vs) (pl : IsPart vl none) (pu : IsPart vu none) (ps : IsPart vs (some (-1)))
    (h : Q ((n : Int) - 1, -1, n) s) : wpAny (model prog w) A (Builtin.Slice.sliceApplied (.ref sl) (pure (n : Int))) Q E s := by
  obtain ⟨os, hos, hcs, hds⟩ := id hs
  unfold Builtin.Slice.sliceApplied Builtin.Slice.sliceFields
  refine wpAny_bind (wpAny_bind (wpAny_field hos hds (x := vl) rfl (wpAny_bind (wpAny_field hos hds (x := vu) rfl (wpAny_bind (wpAny_field hos hds (x := vs) rfl (wpAny_pure ?_)))))))
  refine wpAny_bind (HT.slicePart_ ps ?_)
  show wpAny _ _ (if ((-1 : Int) == 0) = true then _ else _) _ _ s
  rw [if_neg (by decide)]
  refine wpAny_bind (HT.slicePart_ pl (wpAny_bind (HT.slicePart_ pu (wpAny_bind (wpAny_pure ?_)))))
  show wpAny _ _ (match Builtin.Slice.sliceAdjust none none (-1) (n : Int) with | (lo, hi) => pure (lo, (-1 : Int), Builtin.Slice.slicePlaces lo hi (-1))) _ _ s
  rw [rev_adjust n]
  show wpAny _ _ (pure ((n : Int) - 1, (-1 : Int), Builtin.Slice.slicePlaces ((n : Int) - 1) (-1) (-1))) _ _ s
  rw [rev_places]
  exact wpAny_pure h
theorem fm_map {α β : Type} {f : α → Option β} {g : α → β} : ∀ {l : List α}, (∀ m ∈ l, f m = some (g m)) → l.filterMap f = l.map g
  | [], _ => rfl
  | a :: l, h => by
    rw [List.filterMap_cons, h a List.mem_cons_self, List.map_cons, fm_map fun m hm => h m (List.mem_cons_of_mem _ hm)]
theorem pick_rev (xs : Array Value) : ((List.range xs.size).filterMap fun (m : Nat) => xs[(((xs.size : Int) - 1) + (m : Int) * (-1)).toNat]?).toArray = xs.toList.reverse.toArray := by
  have e : ∀ m ∈ List.range xs.size, (fun (m : Nat) => xs[(((xs.size : Int) - 1) + (m : Int) * (-1)).toNat]?) m = some (xs.toList.reverse[m]?.getD .none) := by
    intro m hm
    have hm' : m < xs.size := List.mem_range.mp hm
    have : (((xs.size : Int) - 1) + (m : Int) * (-1)).toNat = xs.size - 1 - m := by omega
    show xs[(((xs.size : Int) - 1) + (m : Int) * (-1)).toNat]? = _
    rw [this, List.getElem?_reverse (by simpa using hm'), Array.length_toList]
    have h2 : xs.size - 1 - m < xs.size := by omega
    simp [h2]
  rw [fm_map e]
  congr 1
  apply List.ext_getElem?
  intro i
  rw [List.getElem?_map]
  by_cases hi : i < xs.size
  · rw [List.getElem?_range hi]
    have : i < xs.toList.reverse.length := by simpa using hi
    simp [this, hi]
  · have h1 : (List.range xs.size)[i]? = none := List.getElem?_eq_none (by simpa using Nat.le_of_not_lt hi)
    rw [h1, List.getElem?_eq_none (by simpa using Nat.le_of_not_lt hi)]
    rfl
theorem getItem_tuple_rev {t sl : Addr} {items : Array Value} {vl vu vs : Value} {Q : Value → Shared → Prop} (ht : PyProof.Rows.IsTup s.heap t items) (hs : s.heap.IsSliceOf sl vl vu vs) (pl : IsPart vl none) (pu : IsPart vu none) (ps : IsPart vs (some (-1)))
    (h : Q (.ref s.heap.objs.size) { s with heap := s.heap.push { cls := .type "tuple", data := .seq items.toList.reverse.toArray } })
    (hsz : items.size ≤ sizeLine) : wpAny (model prog w) A (getItem (.ref t) (.ref sl)) Q E s := by
  have htake : sizeOk (.seq items.toList.reverse.toArray) := by
    show items.toList.reverse.toArray.size ≤ sizeLine
    rw [List.size_toArray, List.length_reverse, Array.length_toList]
    exact hsz
  obtain ⟨os, hos, hcs, hds⟩ := id hs
  have hTs : s.TypeIs (.ref sl) "slice" := ⟨os, hos, hcs⟩
  unfold getItem
  try with_reducible refine wpAny_holding ?_
  first | refine wpAny_bind (wpAny_pure ?_) | skip
  refine wpAny_bind (wpAny_sequenceKey ht.typeIs (by decide) ?_)
  refine wpAny_bind (wpAny_callSpecial?_slot (name := Str.ofString "__getitem__") ht.typeIs PyProof.Rows.slot_tuple_getitem
    (wpAny_call_entry PyProof.Rows.slot_tuple_getitem ht.typeIs PyProof.Rows.entry_tuple_getitem ?_ (PyProof.Rows.args_tuple_getitem _ _)))
  show wpAny _ _ (Builtin.Tuple.tupleItemsOf (.ref t) >>= _) _ _ s
  refine wpAny_bind (PyProof.Rows.tupleItemsOf_ ht ?_)
  refine wpAny_bind (wpAny_typeOf hTs ?_)
  rw [if_pos (by decide)]
  refine wpAny_bind (sliceApplied_rev hs pl pu ps ?_)
  have hno : ¬ (((((items.size : Int) - 1)) == 0 && (-1 : Int) == 1 && items.size == items.size) = true) := by
    intro q
    rw [Bool.and_eq_true, Bool.and_eq_true] at q
    exact absurd q.1.2 (by decide)
  show wpAny _ _ (if ((((items.size : Int) - 1)) == 0 && (-1 : Int) == 1 && items.size == items.size) = true then _ else _) _ _ s
  rw [if_neg hno, pick_rev]
  first
    | exact wpAny_bind (m := Builtin.Tuple.tupleExact _) (wpAny_newObj_type (wpAny_pure ⟨_, rfl, wpAny_pure h⟩) htake)
    | exact wpAny_bind (m := Builtin.Tuple.tupleExact _) (wpAny_newObj_type (wpAny_bind (wpAny_pure (wpAny_pure ⟨_, rfl, wpAny_pure h⟩))) htake)
    | exact wpAny_bind (wpAny_bind (m := Builtin.Tuple.tupleExact _) (wpAny_newObj_type (wpAny_pure (wpAny_pure ⟨_, rfl, wpAny_pure h⟩)) htake))
    | exact wpAny_bind (wpAny_bind (m := Builtin.Tuple.tupleExact _) (wpAny_newObj_type (wpAny_pure ⟨_, rfl, wpAny_pure h⟩) htake))
end
/-- t[::-1] -/
def tRevT (K : PySem.W.Frag) (te : TE) : TE := fun σ H Q => te σ H fun x H1 => ∃ a xs, x = .ref a ∧ SqT K H1 a xs ∧ ∀ p, H1 p = none → Q (.ref p) (upd H1 p (.tup xs.reverse))
theorem pe_revT {X : Cx} {e : Expr} {te : TE} {k : Nat} {p1 p2 p3 pos : Pos} (he : PE X e te) : PE X (.Subscript e (.Slice none none (some (.UnaryOp .USub (.Constant (.int 1) k p1) p2)) p3) pos) (tRevT X.K te) := by
  refine ⟨fun pins s σ H Q I h => ?_⟩
  refine PyProof.Rows.Subscript_ (thn (he.run pins s σ H _ I h) fun v s1 ⟨x, H1, I1, r1, q1⟩ => ?_)
  obtain ⟨a, xs, ex, hx, q⟩ := q1
  subst ex
  cases r1
  have hst : PO X (some (.UnaryOp .USub (.Constant (.int 1) k p1) p2)) (tPart (tUn (rU fun i => .int (-i)) (tC (.int 1)))) := po_some (pe_un un_neg pe_int)
  refine wpAny_Slice (thn (po_none.run pins s1 σ H1 (fun o H2 => o = none ∧ H2 = H1) I1 ⟨rfl, rfl⟩) fun vl s2 ⟨l, H2, I2, pl, el, e2⟩ => ?_)
  subst el e2
  refine thn (po_none.run pins s2 σ H2 (fun o H3 => o = none ∧ H3 = H2) I2 ⟨rfl, rfl⟩) fun vu s3 ⟨u, H3, I3, pu, eu, e3⟩ => ?_
  subst eu e3
  refine thn (hst.run pins s3 σ H3 (fun o H4 => o = some (-1) ∧ H4 = H3) I3 ⟨1, rfl, -1, rfl, rfl, rfl⟩) fun vs s4 ⟨o, H4, I4, ps, eo, e4⟩ => ?_
  subst eo e4
  have I5 : Inv X pins σ H4 { s4 with heap := s4.heap.push { cls := .type "slice", data := .fields #[vl, vu, vs] } } := I4.kept (t' := s4.toks) fun b ob q => Heap.get?_push_of_some _ q
  obtain ⟨its, r, ht, hz⟩ := I5.tuple hx
  have hlen := r.length
  show wpAny (model X.prog X.w) X.A (subscriptTail e (.Slice none none (some (.UnaryOp .USub (.Constant (.int 1) k p1) p2)) p3) (.ref a) (.ref s4.heap.objs.size)) (EP X pins σ Q) X.xe { s4 with heap := s4.heap.push { cls := .type "slice", data := .fields #[vl, vu, vs] } }
  refine PyProof.Rows.tail_any (ops := [.ref a, .ref s4.heap.objs.size]) ht.typeIs (PyProof.Rows.slot_tuple_getitem.lookup) ?_ (by with_unfolding_all rfl)
  refine getItem_tuple_rev ht (Heap.IsSliceOf.new _ vl vu vs) pl pu ps ?_ (by rw [List.size_toArray]; omega)
  refine ⟨.ref _, _, I5.laid (t' := s4.toks) (o := .tup xs.reverse) (fun b ob q => Heap.get?_push_of_some _ q) (Nat.le_refl _) ?_, rfl, q _ (I5.hok.fresh (Nat.le_refl _))⟩
  exact ⟨by rw [List.length_reverse]; exact hz, _, r.reverse, PyProof.Rows.IsTup.new _ _⟩
end HH

namespace HH
open PySem PySem.Spec PyProof.Rows L2
/-! ### enumerate(tuple) -/
theorem meets_enum1 {v : Value} {o : Obj} {H : Heap → Prop} (B : Begins v o H) :
    Meets (Builtin.«enumerate.__new__» ⟨[.type "enumerate", v], []⟩) (fun _ R s => H s.heap ∧
      R (.ok (.ret (.ref (s.heap.push o).objs.size))) { s with heap := (s.heap.push o).push { cls := .type "enumerate", data := .fields #[.none, .bool false, .ref s.heap.objs.size, rawInt 0, .none, .none] } }) :=
  .of_wp fun prog w A R s h => by
    obtain ⟨hp, g, d, tk, os⟩ := s; obtain ⟨h1, h⟩ := h
    have hsub := sub_enumerate
    have q1 : ∀ {A' : Around} {E : Value → Shared → Prop} {Q : Value → Shared → Prop}, Q (.ref hp.objs.size) ⟨hp.push o, g, d, tk, os⟩ → wpAny (model prog w) A' (pyIter v) Q E ⟨hp, g, d, tk, os⟩ :=
      fun q => B.iter prog w _ _ ⟨hp, g, d, tk, os⟩ _ h1 q
    wp_walk using q1
    refine wpAny_stack_any fun st => wpAny_pure ?_
    split
    · rename_i c _ _ _ _ _
      cases (c == Value.type "enumerate")
      · wp_walk using q1
        exact ⟨_, rfl, h⟩
      · wp_walk using q1
        exact ⟨_, rfl, h⟩
    · wp_walk using q1
      exact ⟨_, rfl, h⟩
section
variable {prog : Program} {w : World} {A : Around} {E : Value → Shared → Prop} {s : Shared}
theorem enum_begins1 {v : Value} {o : Obj} {H : Heap → Prop} {Q : Value → Shared → Prop} (B : Begins v o H) (h1 : H s.heap)
    (h : ∀ h', IsEnum h' (s.heap.objs.size + 1) s.heap.objs.size 0 .none → h'.get? s.heap.objs.size = some o → h'.objs.size = s.heap.objs.size + 2 →
      (∀ b o, s.heap.get? b = some o → h'.get? b = some o) → Q (.ref (s.heap.objs.size + 1)) { s with heap := h' }) :
    wpAny (model prog w) A (call (.type "enumerate") [v]) Q E s := by
  refine callType_new F.called_enumerate (by decide) (F.typeCall_enumerate_1 _) (F.newCall_enumerate_1 _) (fun obj => F.args_object_init_2 obj _) F.entry_enumerate_new
    (meets_enum1 B) ⟨h1, ?_⟩
  have hz : (s.heap.push o).objs.size = s.heap.objs.size + 1 := Heap.size_push ..
  show _ ∧ _
  rw [hz]
  have he : IsEnum ((s.heap.push o).push { cls := .type "enumerate", data := .fields #[.none, .bool false, .ref s.heap.objs.size, rawInt 0, .none, .none] }) (s.heap.objs.size + 1) s.heap.objs.size 0 .none := by
    have := Heap.get?_push_size (s.heap.push o) (o := { cls := .type "enumerate", data := .fields #[.none, .bool false, .ref s.heap.objs.size, rawInt 0, .none, .none] }) rfl
    rw [hz] at this; exact this
  refine ⟨⟨_, he, rfl⟩, h _ he (Heap.get?_push_of_some _ (Heap.get?_push_size _ B.free)) (by rw [Heap.size_push, hz]) fun b o x => Heap.get?_push_of_some _ (Heap.get?_push_of_some _ x)⟩
end
def IteT (K : PySem.W.Frag) (a : Addr) : It :=
  ⟨fun i H => ∃ (xs : List V) (x : V), SqT K H a xs ∧ xs[i]? = some x, fun i H v H' => ∃ T x, v = .ref T ∧ H T = none ∧ H' = upd H T (.tup [.int (i : Nat), x]) ∧ ∀ xs, SqT K H a xs → xs[i]? = some x, fun i H => ∃ xs : List V, SqT K H a xs ∧ xs.length = i⟩
theorem turn_enumT {P : Program} {w : World} {K : PySem.W.Frag} {elts : List Expr} {kk : Nat} {tpos : Pos} (a e it : Addr) (hai : a ≠ it) (hae : a ≠ e) :
    Turn P w K (.Tuple elts kk tpos) (IteT K a) [e, it] e (fun i h => (∃ old, IsEnum h e it ((i : Nat) : Int) old) ∧ h.IsTupleIter it a i ∧ e ≠ it) where
  mem := by simp
  obj := fun i h st b hb => by
    obtain ⟨⟨old, he⟩, ⟨o, ho, hc, hd⟩, _⟩ := st
    have e' : b = e ∨ b = it := by simpa using hb
    rcases e' with z | z
    · rw [z]; exact ⟨_, he, fun v q => nomatch q⟩
    · rw [z]; exact ⟨o, ho, fun v q => by rw [hd] at q; cases q⟩
  keep := fun i h h' st k => let ⟨⟨old, he⟩, hi, hne⟩ := st; ⟨⟨old, k e (by simp) _ he⟩, hi.at fun o q => k it (by simp) o q, hne⟩
  item := by
    intro X hP hw hK hc i pins s σ H E I hf st hg
    subst hP hw hK
    obtain ⟨⟨old, he⟩, hit, hne⟩ := st
    obtain ⟨xs, x, hq, hx⟩ := hg
    obtain ⟨its, rv, p, hz⟩ := I.tuple hq
    obtain ⟨u, hu, ru⟩ := rv.get hx
    have hel : e < s.heap.objs.size := Heap.lt_size he
    have hil : it < s.heap.objs.size := by obtain ⟨_, q, _⟩ := hit; exact Heap.lt_size q
    have hlt : i < its.toArray.size := by
      have := (List.getElem?_eq_some_iff.mp hu).1
      simpa using this
    refine wpAny_pyNext_enum_itemC (Draws.tuple (prog := X.prog) (w := X.w) (A := X.A.in1) (I.ok.hd hc) it a hai its.toArray) he ⟨hit, p⟩ hlt hne (by simp [hne, Ne.symm hae]) fun y h' tk hy ho st' hT hsz hk => ?_
    have ey : y = u := by
      have h1 : its.toArray[i]? = some u := by simpa using hu
      exact Option.some.inj (hy.symm.trans h1)
    subst ey
    refine ⟨_, rfl, wpAny_letOwnedTupleGo_enum (s := { s with heap := h', toks := tk + 1 }) ho fun h'' he' sb => ?_⟩
    have hT2 : h''.get? s.heap.objs.size = some { cls := .type "tuple", data := .seq #[.int i tk, y] } := (sb.2 _ (Nat.ne_of_gt hel)).trans hT
    have new : ObjOk X.prog X.w (upd H s.heap.objs.size (.tup [.int (i : Nat), x])) h'' s.heap.objs.size (.tup [.int (i : Nat), x]) :=
      ⟨by show 2 ≤ sizeLine; decide, [.int i tk, y], .cons ⟨_, rfl⟩ (.cons ru .nil), ⟨_, hT2, rfl, _, rfl⟩⟩
    have I1 : Inv X pins σ (upd H s.heap.objs.size (.tup [.int (i : Nat), x])) { s with heap := h'', toks := tk + 1 } :=
      I.turnedNew (ch := [e, it]) (fun b ob hb q => (sb.2 b (fun z => hb (by simp [z]))).trans (hk b ob (fun z => hb (by simp [z])) (fun z => hb (by simp [z])) q)) hf (Nat.le_refl _) new
    refine ⟨.ref s.heap.objs.size, _, I1, rfl, ⟨_, x, rfl, I.hok.fresh (Nat.le_refl _), rfl, fun ys hy => by rw [I.tuple_inj hy hq]; exact hx⟩, ⟨⟨y, ?_⟩, st'.1.at fun o q => (sb.2 it (Ne.symm hne)).trans q, hne⟩, fun b hb => ?_⟩
    · have e1 : ((i + 1 : Nat) : Int) = (i : Int) + 1 := by omega
      rw [e1]; exact he'
    · have hb' : b < s.heap.objs.size := by
        have e' : b = e ∨ b = it := by simpa using hb
        rcases e' with z | z
        · rw [z]; exact hel
        · rw [z]; exact hil
      rw [upd_ne (Nat.ne_of_lt hb')]
      exact (hf b hb).1
  done := by
    intro X hP hw hK hc i pins s σ H E I hf st hg
    subst hP hw hK
    obtain ⟨⟨old, he⟩, hit, hne⟩ := st
    obtain ⟨xs, hq, hx⟩ := hg
    obtain ⟨its, rv, p, hz⟩ := I.tuple hq
    obtain ⟨f0, f1, f2, f3, f4, f5⟩ := hf it (by simp)
    have hl := rv.length
    have hn : its.toArray.size = i := by simp; omega
    exact wpAny_pyNext_enum_endD (Draws.tuple (prog := X.prog) (w := X.w) (A := X.A.in1) (I.ok.hd hc) it a hai its.toArray) he (show _ ∧ _ from ⟨by rw [hn]; exact hit, p⟩) fun h' eb => ⟨rfl, I.turned (t' := s.toks) (fun b o hb q => eb b o hb q) f0 f1 f3 f4 f5⟩
  self := fun A i s Q E st h => let ⟨⟨_, he⟩, _⟩ := st; wpAny_pyIter_enum he h
def iEnumT (K : PySem.W.Frag) (ta : TA) : TI := fun σ H R => ta σ H fun vs H1 => ∃ a xs, vs = [.ref a] ∧ SqT K H1 a xs ∧ R (IteT K a) H1
theorem pi_enumT {X : Cx} {e : Expr} {ta : TA} {p pos tpos : Pos} {elts : List Expr} {kk : Nat} (hg : Gl X "enumerate") (hm : X.mg "enumerate" = none) (ha : PA X [e] ta) (hs : starEach [e] X.env = [(false, eval e X.env)] := by rfl) :
    PI X (.Tuple elts kk tpos) (.Call (.Name "enumerate" p) [e] [] pos) (iEnumT X.K ta) := by
  refine ⟨fun pins s σ H R I h => ?_⟩
  refine Call_ (ld_blt I hg hm boot_enumerate (PyProof.Rows.callWith_type1 (thn (ha.run pos pins s σ H _ I h) fun us s1 ⟨vs, H1, I1, r1, q1⟩ => ?_) hs rfl))
  obtain ⟨a, xs, ex, hq, q⟩ := q1
  subst ex
  cases r1 with
  | cons r rr =>
    cases rr
    cases r
    obtain ⟨its, rv, p', hz⟩ := I1.tuple hq
    refine enum_begins1 (begins_tuple a its.toArray) p' fun h' he hit hsz hk => wpAny_pyIter_enum he ?_
    have I2 : Inv X pins σ H1 { s1 with heap := h' } := I1.kept (t' := s1.toks) hk
    have hal : a < s1.heap.objs.size := by obtain ⟨_, q, _⟩ := p'; exact Heap.lt_size q
    have hit' : h'.IsTupleIter s1.heap.objs.size a 0 := ⟨_, hit, rfl, rfl⟩
    refine ⟨s1.heap.objs.size + 1, [s1.heap.objs.size + 1, s1.heap.objs.size], _, _, H1, rfl, I2, turn_enumT a (s1.heap.objs.size + 1) s1.heap.objs.size (Nat.ne_of_lt hal) (Nat.ne_of_lt (Nat.lt_succ_of_lt hal)), ⟨⟨.none, he⟩, hit', Nat.succ_ne_self _⟩, fun b hb => ?_, q⟩
    have e' : b = s1.heap.objs.size + 1 ∨ b = s1.heap.objs.size := by simpa using hb
    have hle : s1.heap.objs.size ≤ b := by
      rcases e' with z | z
      · rw [z]; exact Nat.le_add_right _ _
      · rw [z]; exact Nat.le_refl _
    exact I1.fpOk hle (I1.hok.fresh hle)
theorem walk_enumT {K : PySem.W.Frag} {a : Addr} {xs : List V} : Walk (IteT K a) xs.length (fun H => SqT K H a xs) (YPair (fun i => some (.int (i : Nat))) (fun i => xs[i]?)) := by
  refine ⟨fun i _ hi q => ⟨xs, xs[i], q, by simp [hi]⟩, fun _ q => ⟨xs, q, rfl⟩, fun i H v H' _ q y => ?_⟩
  obtain ⟨T, x, h1, h2, h3, h4⟩ := y
  exact ⟨T, .int (i : Nat), x, h1, h2, h3, rfl, h4 xs q⟩
instance i_enumT {K : PySem.W.Frag} {tas : TA} {σ : L2.St} {H : Hp} {R : It → Hp → Prop} : Stp (iEnumT K tas σ H R) (tas σ H fun vs H1 => ∃ a xs, vs = [.ref a] ∧ SqT K H1 a xs ∧ R (IteT K a) H1) := ⟨fun h => h⟩
end HH

namespace HH
open PySem PySem.Spec L2
local macro_rules | `(tactic| walk_at "cy") => `(tactic| first
  | assumption
  | exact L2.upd_same
  | exact L2.sqL_new
  | exact L2.sqT_new
  | exact L2.sqL_at (by assumption)
  | exact L2.sqT_at (by assumption)
  | (refine' L2.Same.seq (by assumption) ?k0; (case k0 => walk_at "cy"))
  | (refine' L2.Same.sqT (by assumption) ?k0; (case k0 => walk_at "cy"))
  | (refine' L2.Same.dat (by assumption) ?k0; (case k0 => walk_at "cy"))
  | (refine' (by assumption : L2.Same _ _) _ _ ?k0; (case k0 => walk_at "cy"))
  | (refine' L2.Same.seq (L2.same_new (by assumption)) ?k0; (case k0 => walk_at "cy"))
  | (refine' L2.Same.sqT (L2.same_new (by assumption)) ?k0; (case k0 => walk_at "cy"))
  | (refine' L2.Same.dat (L2.same_new (by assumption)) ?k0; (case k0 => walk_at "cy"))
  | (refine' L2.same_new (by assumption) _ _ ?k0; (case k0 => walk_at "cy"))
  | (refine' L2.Mv.sqT (by assumption) ?k0; (case k0 => walk_at "cy")))
local macro_rules | `(tactic| walk_at "w") => `(tactic| repeat (first
  | refine HH.stp ?_
  | with_reducible refine L2.iteT ?_
  | with_reducible refine L2.iteF ?_
  | ((with_reducible refine' HH.w_gtup ?k1 ?k2 ?_); (case k1 => walk_at "cy"); (case k2 => exact rfl))
  | ((with_reducible refine' HH.w_ixT ?k1 ?k2 ?_); (case k1 => walk_at "cy"); (case k2 => exact rfl))
  | ((with_reducible refine' HH.w_ixL ?k1 ?k2 ?_); (case k1 => walk_at "cy"); (case k2 => exact rfl))
  | ((with_reducible refine' HH.w_lenL ?k1 ?_); (case k1 => walk_at "cy"))
  | ((with_reducible refine' HH.w_lenT ?k1 ?_); (case k1 => walk_at "cy"))
  | ((with_reducible refine' HH.w_exT ?k1 ?_); (case k1 => walk_at "cy"))
  | ((with_reducible refine' HH.w_exL ?k1 ?_); (case k1 => walk_at "cy"))
  | ((with_reducible refine' HH.w_tyL ?k1 ?_); (case k1 => walk_at "cy"))
  | ((with_reducible refine' HH.w_setL ?k1 ?k2 ?_); (case k1 => walk_at "cy"); (case k2 => exact rfl))
  | ((with_reducible refine' HH.w_modI ?k1 ?_); (case k1 => first | (with_reducible assumption) | omega))
  | ((with_reducible refine' HH.w_divI ?k1 ?_); (case k1 => (constructor <;> omega)))))
local macro_rules | `(tactic| walk_at "v") => `(tactic| ((repeat ((fail_if_success (with_reducible refine HH.isIf ?_)); first
  | refine HH.stp ?_
  | with_reducible refine L2.iteT ?_
  | with_reducible refine L2.iteF ?_
  | ((with_reducible refine' HH.w_gtup ?k1 ?k2 ?_); (case k1 => walk_at "cy"); (case k2 => exact rfl))
  | ((with_reducible refine' HH.w_ixT ?k1 ?k2 ?_); (case k1 => walk_at "cy"); (case k2 => exact rfl))
  | ((with_reducible refine' HH.w_ixL ?k1 ?k2 ?_); (case k1 => walk_at "cy"); (case k2 => exact rfl))
  | ((with_reducible refine' HH.w_lenL ?k1 ?_); (case k1 => walk_at "cy"))
  | ((with_reducible refine' HH.w_lenT ?k1 ?_); (case k1 => walk_at "cy"))
  | ((with_reducible refine' HH.w_exT ?k1 ?_); (case k1 => walk_at "cy"))
  | ((with_reducible refine' HH.w_exL ?k1 ?_); (case k1 => walk_at "cy"))
  | ((with_reducible refine' HH.w_tyL ?k1 ?_); (case k1 => walk_at "cy"))
  | ((with_reducible refine' HH.w_setL ?k1 ?k2 ?_); (case k1 => walk_at "cy"); (case k2 => exact rfl))
  | ((with_reducible refine' HH.w_modI ?k1 ?_); (case k1 => first | (with_reducible assumption) | omega))
  | ((with_reducible refine' HH.w_divI ?k1 ?_); (case k1 => (constructor <;> omega)))))); (try (with_reducible refine HH.isIf ?_)))
/-! ### folk: data and their readings -/
inductive Folk where
  | hears (a b : Nat)
  | ctr (tw : Bool) (e c : Nat)
  deriving DecidableEq, Inhabited
def kindOf : Bool → Str
  | true => "twice"
  | false => "drop"
def sg (c : Nat) : Str := ⟨#[c]⟩
def folkV : Folk → List V
  | .hears a b => [.str "hears", .str (sg a), .str (sg b)]
  | .ctr tw e c => [.str (kindOf tw), .int (e : Nat), .int (c : Nat)]
def folkD : Folk → PyData
  | .hears a b => .tuple [.str "hears", .str (sg a), .str (sg b)]
  | .ctr tw e c => .tuple [.str (kindOf tw), .int (e : Nat), .int (c : Nat)]
abbrev Row := List Folk
def rowD (r : Row) : PyData := .tuple (r.map folkD)
def isSmall (c : Nat) : Bool := decide (97 ≤ c) && decide (c ≤ 122)
def Folk.ok : Folk → Bool
  | .hears a b => isSmall a && isSmall b && decide (a ≠ b)
  | .ctr _ e c => decide (2 ≤ e) && decide (e ≤ 6) && decide (c < e)
def Row.Ok (r : Row) : Prop := r.length ≤ 4 ∧ ∀ f ∈ r, f.ok = true
mutual
/-- texts of at most 10,000 signs -/
def fitD : PyData → Bool
  | .str z => decide (z.length ≤ 10000)
  | .list ds => fitDs ds
  | .tuple ds => fitDs ds
  | _ => true
def fitDs : List PyData → Bool
  | [] => true
  | d :: ds => fitD d && fitDs ds
end
theorem fitDs_get : ∀ {ds : List PyData} {d : PyData}, fitDs ds = true → d ∈ ds → fitD d = true
  | e :: ds, d, h, m => by
    have h' : (fitD e && fitDs ds) = true := h
    rw [Bool.and_eq_true] at h'
    rcases List.mem_cons.mp m with rfl | m
    · exact h'.1
    · exact fitDs_get h'.2 m
/-! what the program tests of any thing -/
def isWithinD : PyData → Int → Int → Bool
  | .int n, lo, hi => decide (lo ≤ n) && decide (n ≤ hi)
  | _, _, _ => false
def isLetterD : PyData → Bool
  | .str z => decide (z.length = 1) && isSmall (z.cps.getD 0 0)
  | _ => false
def belowD : PyData → PyData → Bool
  | .int n, e => isWithinD e 0 (n - 1)
  | _, _ => false
def isOneD : PyData → Bool
  | .tuple [.str k, d, e] => if k = "hears" then isLetterD d && (isLetterD e && !PyData.eqv d e) else
      if k = "drop" ∨ k = "twice" then isWithinD d 2 6 && belowD d e else false
  | _ => false
def isRowD : PyData → Bool
  | .tuple ds => decide (ds.length ≤ 4) && ds.all isOneD
  | _ => false
section
variable {K : PySem.W.Frag} {H H' : Hp} {x : V}
theorem folk_inv {f : Folk} (h : Dp K H x (folkD f)) : ∃ a, x = .ref a ∧ SqT K H a (folkV f) := by
  cases f with
  | hears a b =>
    obtain ⟨p, xs, rfl, hs, ha⟩ := dp_tup h
    cases ha with
    | cons h1 t => cases t with
      | cons h2 t => cases t with
        | cons h3 t =>
          cases t
          cases dp_str h1; cases dp_str h2; cases dp_str h3
          exact ⟨p, rfl, hs⟩
  | ctr tw e c =>
    obtain ⟨p, xs, rfl, hs, ha⟩ := dp_tup h
    cases ha with
    | cons h1 t => cases t with
      | cons h2 t => cases t with
        | cons h3 t =>
          cases t
          cases dp_str h1; cases dp_int h2; cases dp_int h3
          exact ⟨p, rfl, hs⟩
theorem folk_of {f : Folk} {a : Addr} (h : SqT K H a (folkV f)) : Dp K H (.ref a) (folkD f) := by
  cases f with
  | hears a b => exact .tup h (.cons (.str _) (.cons (.str _) (.cons (.str _) .nil)))
  | ctr tw e c => exact .tup h (.cons (.str _) (.cons (.int _) (.cons (.int _) .nil)))
theorem noL_folk (f : Folk) : noL (folkD f) = true := by cases f <;> rfl
theorem noLs_folks : ∀ r : Row, noLs (r.map folkD) = true
  | [] => rfl
  | f :: r => by
    show (noL (folkD f) && noLs (r.map folkD)) = true
    rw [noL_folk f, noLs_folks r]
    rfl
theorem noL_row (r : Row) : noL (rowD r) = true := noLs_folks r
end
section
variable (K : PySem.W.Frag)
def sp_is_within : Sp := fun vs H Q _ => ∃ (x : V) (lo hi : Int) (d : PyData), vs = [x, .int lo, .int hi] ∧ Dp K H x d ∧ Q (.bl (isWithinD d lo hi)) H
def sp_is_letter : Sp := fun vs H Q _ => ∃ (x : V) (d : PyData), vs = [x] ∧ Dp K H x d ∧ fitD d = true ∧ Q (.bl (isLetterD d)) H
def sp_is_one : Sp := fun vs H Q _ => ∃ (x : V) (d : PyData), vs = [x] ∧ Dp K H x d ∧ fitD d = true ∧ ∀ H', Same H H' → Q (.bl (isOneD d)) H'
def sp_is_row : Sp := fun vs H Q _ => ∃ (x : V) (d : PyData), vs = [x] ∧ Dp K H x d ∧ fitD d = true ∧ ∀ H', Same H H' → Q (.bl (isRowD d)) H'
def sp_need_row : Sp := fun vs H Q _ => ∃ (x : V) (d : PyData), vs = [x] ∧ Dp K H x d ∧ fitD d = true ∧ isRowD d = true ∧ ∀ H', Same H H' → Q .non H'
theorem len_is_within : ∀ vs H Q E, sp_is_within K vs H Q E → vs.length = 3 := by rintro _ _ _ _ ⟨_, _, _, _, rfl, _⟩; rfl
theorem len_is_letter : ∀ vs H Q E, sp_is_letter K vs H Q E → vs.length = 1 := by rintro _ _ _ _ ⟨_, _, rfl, _⟩; rfl
theorem len_is_one : ∀ vs H Q E, sp_is_one K vs H Q E → vs.length = 1 := by rintro _ _ _ _ ⟨_, _, rfl, _⟩; rfl
theorem len_is_row : ∀ vs H Q E, sp_is_row K vs H Q E → vs.length = 1 := by rintro _ _ _ _ ⟨_, _, rfl, _⟩; rfl
theorem len_need_row : ∀ vs H Q E, sp_need_row K vs H Q E → vs.length = 1 := by rintro _ _ _ _ ⟨_, _, rfl, _⟩; rfl
end
/-! isinstance of data -/
def tyD : PyData → String
  | .none => "NoneType"
  | .bool _ => "bool"
  | .int _ => "int"
  | .str _ => "str"
  | .list _ => "list"
  | .tuple _ => "tuple"
  | .dict _ => "dict"
theorem ty_of {K : PySem.W.Frag} {H : Hp} {x : V} {d : PyData} (h : Dp K H x d) : TyX K H x (.type (tyD d)) := by
  cases h with
  | non => exact .base .non
  | bl b => exact .base (.bl b)
  | int i => exact .base (.int i)
  | str z => exact .base (.str z)
  | lst hs ha =>
    rcases hs with (h | ⟨o, h⟩) | ⟨o, its, n, e, c, _⟩
    · exact .base (.lst h)
    · exact .base (.frz h)
    · exact .kList e c
  | tup hs ha =>
    rcases hs with (h | ⟨o, h⟩) | ⟨o, its, n, e, c, _⟩
    · exact .base (.tup h)
    · exact .fTuple h
    · exact .kTuple e c
theorem w_isi {K : PySem.W.Frag} {H : Hp} {Q : VK} {x : V} {d : PyData} {c : String} {b : Bool} (h : Dp K H x d) (e : kitB (tyD d) c = some b) (q : Q (.bl b) H) : rIsi K [x, .ty c] H Q :=
  ⟨x, .ty c, .type (tyD d), .type c, b, rfl, .ty c, ty_of h, kit_ty e, q⟩
def isIntD : PyData → Bool | .int _ => true | .bool _ => true | _ => false
def isBoolD : PyData → Bool | .bool _ => true | _ => false
def isStrD : PyData → Bool | .str _ => true | _ => false
def isTupD : PyData → Bool | .tuple _ => true | _ => false
def isLstD : PyData → Bool | .list _ => true | _ => false
theorem kit_int (d : PyData) : kitB (tyD d) "int" = some (isIntD d) := by
  cases d with
  | none => exact (by decide +kernel : kitB "NoneType" "int" = some false)
  | bool _ => exact (by decide +kernel : kitB "bool" "int" = some true)
  | int _ => exact (by decide +kernel : kitB "int" "int" = some true)
  | str _ => exact (by decide +kernel : kitB "str" "int" = some false)
  | list _ => exact (by decide +kernel : kitB "list" "int" = some false)
  | tuple _ => exact (by decide +kernel : kitB "tuple" "int" = some false)
  | dict _ => exact (by decide +kernel : kitB "dict" "int" = some false)
theorem w_is_int {K : PySem.W.Frag} {H : Hp} {Q : VK} {x : V} {d : PyData} (h : Dp K H x d) (q : Q (.bl (isIntD d)) H) : rIsi K [x, .ty "int"] H Q := w_isi h (kit_int d) q
theorem kit_bool (d : PyData) : kitB (tyD d) "bool" = some (isBoolD d) := by
  cases d with
  | none => exact (by decide +kernel : kitB "NoneType" "bool" = some false)
  | bool _ => exact (by decide +kernel : kitB "bool" "bool" = some true)
  | int _ => exact (by decide +kernel : kitB "int" "bool" = some false)
  | str _ => exact (by decide +kernel : kitB "str" "bool" = some false)
  | list _ => exact (by decide +kernel : kitB "list" "bool" = some false)
  | tuple _ => exact (by decide +kernel : kitB "tuple" "bool" = some false)
  | dict _ => exact (by decide +kernel : kitB "dict" "bool" = some false)
theorem w_is_bool {K : PySem.W.Frag} {H : Hp} {Q : VK} {x : V} {d : PyData} (h : Dp K H x d) (q : Q (.bl (isBoolD d)) H) : rIsi K [x, .ty "bool"] H Q := w_isi h (kit_bool d) q
theorem kit_str (d : PyData) : kitB (tyD d) "str" = some (isStrD d) := by
  cases d with
  | none => exact (by decide +kernel : kitB "NoneType" "str" = some false)
  | bool _ => exact (by decide +kernel : kitB "bool" "str" = some false)
  | int _ => exact (by decide +kernel : kitB "int" "str" = some false)
  | str _ => exact (by decide +kernel : kitB "str" "str" = some true)
  | list _ => exact (by decide +kernel : kitB "list" "str" = some false)
  | tuple _ => exact (by decide +kernel : kitB "tuple" "str" = some false)
  | dict _ => exact (by decide +kernel : kitB "dict" "str" = some false)
theorem w_is_str {K : PySem.W.Frag} {H : Hp} {Q : VK} {x : V} {d : PyData} (h : Dp K H x d) (q : Q (.bl (isStrD d)) H) : rIsi K [x, .ty "str"] H Q := w_isi h (kit_str d) q
theorem kit_tuple (d : PyData) : kitB (tyD d) "tuple" = some (isTupD d) := by
  cases d with
  | none => exact (by decide +kernel : kitB "NoneType" "tuple" = some false)
  | bool _ => exact (by decide +kernel : kitB "bool" "tuple" = some false)
  | int _ => exact (by decide +kernel : kitB "int" "tuple" = some false)
  | str _ => exact (by decide +kernel : kitB "str" "tuple" = some false)
  | list _ => exact (by decide +kernel : kitB "list" "tuple" = some false)
  | tuple _ => exact (by decide +kernel : kitB "tuple" "tuple" = some true)
  | dict _ => exact (by decide +kernel : kitB "dict" "tuple" = some false)
theorem w_is_tuple {K : PySem.W.Frag} {H : Hp} {Q : VK} {x : V} {d : PyData} (h : Dp K H x d) (q : Q (.bl (isTupD d)) H) : rIsi K [x, .ty "tuple"] H Q := w_isi h (kit_tuple d) q
theorem kit_list (d : PyData) : kitB (tyD d) "list" = some (isLstD d) := by
  cases d with
  | none => exact (by decide +kernel : kitB "NoneType" "list" = some false)
  | bool _ => exact (by decide +kernel : kitB "bool" "list" = some false)
  | int _ => exact (by decide +kernel : kitB "int" "list" = some false)
  | str _ => exact (by decide +kernel : kitB "str" "list" = some false)
  | list _ => exact (by decide +kernel : kitB "list" "list" = some true)
  | tuple _ => exact (by decide +kernel : kitB "tuple" "list" = some false)
  | dict _ => exact (by decide +kernel : kitB "dict" "list" = some false)
theorem w_is_list {K : PySem.W.Frag} {H : Hp} {Q : VK} {x : V} {d : PyData} (h : Dp K H x d) (q : Q (.bl (isLstD d)) H) : rIsi K [x, .ty "list"] H Q := w_isi h (kit_list d) q
def t_is_within (K : PySem.W.Frag) : TS :=
  (tRet (tAndV (tCB (rIsi K) (tCons (tVar 0) (tCons (tC (.ty "int")) tNil))) (tAndV (tNotV (tCB (rIsi K) (tCons (tVar 0) (tCons (tC (.ty "bool")) tNil)))) (tChain rLeI rLeI (tVar 1) (tVar 0) (tVar 2)))))

def t_is_letter (K : PySem.W.Frag) : TS :=
  (tRet (tAndV (tCB (rIsi K) (tCons (tVar 0) (tCons (tC (.ty "str")) tNil))) (tAndV (tOp rEq (tCB rLenT (tCons (tVar 0) tNil)) (tC (.int 1))) (tOp rInC (tVar 0) (tC (.str "abcdefghijklmnopqrstuvwxyz"))))))

def t_is_one (K : PySem.W.Frag) : TS :=
  (tSeq (tIfS (tOr (tNot (tB (tCB (rIsi K) (tCons (tVar 0) (tCons (tC (.ty "tuple")) tNil))))) (tOr (tTest (tOp rNe (tCB (rLenQ K) (tCons (tVar 0) tNil)) (tC (.int 3)))) (tNot (tB (tCB (rIsi K) (tCons (tOp (rIxT K) (tVar 0) (tC (.int 0))) (tCons (tC (.ty "str")) tNil))))))) (tRet (tC (.bl false))) tNext)
  (tSeq (tIfS (tTest (tOp rEq (tOp (rIxT K) (tVar 0) (tC (.int 0))) (tC (.str "hears")))) (tRet (tAndV (tCall (sp_is_letter K) [] E0 (tCons (tOp (rIxT K) (tVar 0) (tC (.int 1))) tNil)) (tAndV (tCall (sp_is_letter K) [] E0 (tCons (tOp (rIxT K) (tVar 0) (tC (.int 2))) tNil)) (tOp rNe (tOp (rIxT K) (tVar 0) (tC (.int 1))) (tOp (rIxT K) (tVar 0) (tC (.int 2))))))) tNext)
  (tSeq (tIfS (tOr (tTest (tOp (rIn K true) (tOp (rIxT K) (tVar 0) (tC (.int 0))) (tTup (tCons (tC (.str "drop")) (tCons (tC (.str "twice")) tNil))))) (tNot (tB (tCall (sp_is_within K) [] E0 (tCons (tOp (rIxT K) (tVar 0) (tC (.int 1))) (tCons (tC (.int 2)) (tCons (tC (.int 6)) tNil))))))) (tRet (tC (.bl false))) tNext)
  (tRet (tCall (sp_is_within K) [] E0 (tCons (tOp (rIxT K) (tVar 0) (tC (.int 2))) (tCons (tC (.int 0)) (tCons (tOp rSubI (tOp (rIxT K) (tVar 0) (tC (.int 1))) (tC (.int 1))) tNil))))))))

def t_is_row (K : PySem.W.Frag) : TS :=
  (tRet (tAndV (tCB (rIsi K) (tCons (tVar 0) (tCons (tC (.ty "tuple")) tNil))) (tAndV (tOp rLeI (tCB (rLenQ K) (tCons (tVar 0) tNil)) (tC (.int 4))) (tCB (rAll K) (tCons (tLc (iTup K (tVar 0)) (gName 1) tYes (tCall (sp_is_one K) [] E0 (tCons (tVar 1) tNil)) [1]) tNil)))))

def t_need_row (K : PySem.W.Frag) : TS :=
  (tIfS (tNot (tB (tCall (sp_is_row K) [] E0 (tCons (tVar 0) tNil)))) tNever tNext)

local macro_rules | `(tactic| walk_at "is") => `(tactic| first
  | ((with_reducible refine' w_is_int ?k1 ?_); (case k1 => walk_at "cy"))
  | ((with_reducible refine' w_is_bool ?k1 ?_); (case k1 => walk_at "cy"))
  | ((with_reducible refine' w_is_str ?k1 ?_); (case k1 => walk_at "cy"))
  | ((with_reducible refine' w_is_tuple ?k1 ?_); (case k1 => walk_at "cy"))
  | ((with_reducible refine' w_is_list ?k1 ?_); (case k1 => walk_at "cy")))
section
variable (K : PySem.W.Frag)
theorem sem_is_within : ∀ vs H Q E, sp_is_within K vs H Q E → t_is_within K { nx := fun _ H' => Q .non H', rt := Q } (start ["thing", "low", "high"] vs) H := by
  rintro vs H Q E ⟨x, lo, hi, d, rfl, hd, q⟩
  show t_is_within K _ [some x, some (.int lo), some (.int hi)] H
  unfold t_is_within
  walk_at "w"; walk_at "is"; walk_at "w"
  cases d with
  | int n =>
    cases hd
    refine iteT ?_
    walk_at "w"
    refine w_is_bool (.int n) ?_
    walk_at "w"
    refine iteT ?_
    walk_at "w"
    refine w_ifB (fun e => ?_) (fun e => ?_) <;> rw [bD_eq] at e
    · walk_at "w"
      rw [bD_eq]
      rw [show (isWithinD (PyData.int n) lo hi) = (decide (lo ≤ n) && decide (n ≤ hi)) from rfl, e] at q
      exact q
    · rw [show (isWithinD (PyData.int n) lo hi) = (decide (lo ≤ n) && decide (n ≤ hi)) from rfl, e] at q
      exact q
  | bool b =>
    cases hd
    refine iteT ?_
    walk_at "w"
    refine w_is_bool (.bl b) ?_
    walk_at "w"
    exact iteF q
  | _ => exact iteF q
theorem small_mem (c : Nat) : decide (c ∈ (Str.ofString "abcdefghijklmnopqrstuvwxyz").cps.toList) = isSmall c := by
  have e : (Str.ofString "abcdefghijklmnopqrstuvwxyz").cps.toList = [97, 98, 99, 100, 101, 102, 103, 104, 105, 106, 107, 108, 109, 110, 111, 112, 113, 114, 115, 116, 117, 118, 119, 120, 121, 122] := by decide +kernel
  rw [e]
  unfold isSmall
  by_cases h : 97 ≤ c ∧ c ≤ 122
  · obtain ⟨h1, h2⟩ := h
    rw [decide_eq_true h1, decide_eq_true h2]
    simp
    omega
  · have : ¬ (c ∈ [97, 98, 99, 100, 101, 102, 103, 104, 105, 106, 107, 108, 109, 110, 111, 112, 113, 114, 115, 116, 117, 118, 119, 120, 121, 122]) := by
      simp
      omega
    rw [decide_eq_false this]
    by_cases h1 : 97 ≤ c
    · rw [decide_eq_true h1, decide_eq_false (by omega : ¬ c ≤ 122)]
      rfl
    · rw [decide_eq_false h1]
      rfl
theorem one_sign {z : Str} (h : z.length = 1) : ∃ c, z = sg c := by
  obtain ⟨⟨l⟩⟩ := z
  have h' : l.length = 1 := h
  match l, h' with
  | [c], _ => exact ⟨c, rfl⟩
theorem lenS_sg (c : Nat) : (sg c).length = 1 := rfl
theorem sem_is_letter : ∀ vs H Q E, sp_is_letter K vs H Q E → t_is_letter K { nx := fun _ H' => Q .non H', rt := Q } (start ["thing"] vs) H := by
  rintro vs H Q E ⟨x, d, rfl, hd, hf, q⟩
  show t_is_letter K _ [some x] H
  unfold t_is_letter
  walk_at "w"; walk_at "is"; walk_at "w"
  cases d with
  | str z =>
    cases hd
    refine iteT ?_
    walk_at "w"
    refine w_lenS (szOk _ (Nat.le_trans (of_decide_eq_true hf) (by decide))) ?_
    walk_at "w"
    refine w_ifB (fun e => ?_) (fun e => ?_)
    · have e' : z.length = 1 := Int.ofNat.inj (bT e)
      obtain ⟨c, rfl⟩ := one_sign e'
      walk_at "w"
      refine w_inC ?_
      rw [bD_eq, small_mem]
      exact q
    · have e' : ¬ z.length = 1 := fun h => (bF e) (congrArg Int.ofNat h)
      rw [show isLetterD (.str z) = (decide (z.length = 1) && isSmall (z.cps.getD 0 0)) from rfl, decide_eq_false e'] at q
      exact q
  | _ => exact iteF q
theorem eqv_str (z z' : Str) : PyData.eqv (.str z) (.str z') = decide (z = z') := by
  rw [Bool.eq_iff_iff, decide_eq_true_iff]
  show (z == z') = true ↔ _
  rw [beq_iff_eq]
theorem dAll_3 {H : Hp} {vs : List V} {d1 d2 d3 : PyData} (h : DpAll K H vs [d1, d2, d3]) : ∃ x y z, vs = [x, y, z] ∧ Dp K H x d1 ∧ Dp K H y d2 ∧ Dp K H z d3 := by
  cases h with
  | cons h1 t => cases t with
    | cons h2 t => cases t with
      | cons h3 t => cases t; exact ⟨_, _, _, rfl, h1, h2, h3⟩
theorem sem_is_one : ∀ vs H Q E, sp_is_one K vs H Q E → t_is_one K { nx := fun _ H' => Q .non H', rt := Q } (start ["thing"] vs) H := by
  rintro vs H Q E ⟨x, d, rfl, hd, hf, q⟩
  show t_is_one K _ [some x] H
  unfold t_is_one
  walk_at "w"; walk_at "is"; walk_at "w"
  cases d with
  | tuple ds =>
    refine iteF ?_
    obtain ⟨a, xs, rfl, hs, ha⟩ := dp_tup hd
    walk_at "w"
    refine w_ifB (fun e => ?_) (fun e => ?_)
    · refine iteT ?_
      walk_at "w"
      have e' : ¬ ds.length = 3 := fun h => by
        rw [Bool.not_eq_true'] at e
        exact bF e (by rw [ha.len, h]; rfl)
      have : isOneD (.tuple ds) = false := by
        unfold isOneD
        split
        · rename_i h; cases h; exact absurd rfl e'
        · rfl
      rw [this] at q
      exact q H (Same.refl H)
    · have e' : ds.length = 3 := by
        rw [ha.len] at e
        have e2 : bD ((ds.length : Int) = 3) = true := by rw [Bool.not_eq_false'] at e; exact e
        have := bT e2
        omega
      match ds, e' with
      | [d1, d2, d3], _ =>
        obtain ⟨x1, x2, x3, rfl, h1, h2, h3⟩ := dAll_3 K ha
        have hf' : (fitD d1 && (fitD d2 && (fitD d3 && true))) = true := hf
        simp only [Bool.and_eq_true] at hf'
        obtain ⟨f1, f2, f3, _⟩ := hf'
        walk_at "w"; walk_at "is"; walk_at "w"
        cases d1 with
        | str k =>
          cases h1
          refine iteF ?_
          walk_at "w"
          refine w_ifB (fun e => ?_) (fun e => ?_)
          · walk_at "w"
            have ek : k = "hears" := bT e
            subst ek
            refine ⟨x2, d2, rfl, h2, f2, ?_⟩
            walk_at "w"
            rw [show isOneD (.tuple [.str "hears", d2, d3]) = (isLetterD d2 && (isLetterD d3 && !PyData.eqv d2 d3)) from rfl] at q
            refine w_ifB (fun e2 => ?_) (fun e2 => ?_)
            · walk_at "w"
              refine ⟨x3, d3, rfl, h3, f3, ?_⟩
              walk_at "w"
              refine w_ifB (fun e3 => ?_) (fun e3 => ?_)
              · walk_at "w"
                rw [e2, e3] at q
                cases d2 with
                | str z2 =>
                  cases d3 with
                  | str z3 =>
                    cases h2; cases h3
                    refine w_neS ?_
                    rw [bD_eq]
                    rw [show PyData.eqv (.str z2) (.str z3) = decide (z2 = z3) from eqv_str z2 z3] at q
                    exact q H (Same.refl H)
                  | _ => cases e3
                | _ => cases e2
              · rw [e2, e3] at q
                exact q H (Same.refl H)
            · rw [e2] at q
              exact q H (Same.refl H)
          · walk_at "w"
            have ek : ¬ k = "hears" := bF e
            refine ⟨szOk 2, fun p np => ?_⟩
            refine w_inT sqT_new rfl rfl ?_
            walk_at "w"
            rw [show isOneD (.tuple [.str k, d2, d3]) = (if k = "hears" then isLetterD d2 && (isLetterD d3 && !PyData.eqv d2 d3) else if k = "drop" ∨ k = "twice" then isWithinD d2 2 6 && belowD d2 d3 else false) from rfl, if_neg ek] at q
            have ein : inV (.str k) [.str "drop", .str "twice"] = decide (k = "drop" ∨ k = "twice") := by
              show (("drop" : Str) == k || (("twice" : Str) == k || false)) = _
              rw [Bool.or_false, Bool.eq_iff_iff, Bool.or_eq_true, beq_iff_eq, beq_iff_eq, decide_eq_true_iff]
              exact ⟨fun h => h.imp Eq.symm Eq.symm, fun h => h.imp Eq.symm Eq.symm⟩
            rw [if_pos rfl, ein]
            refine w_ifB (fun e2 => ?_) (fun e2 => ?_)
            · walk_at "w"
              have e2' : ¬ (k = "drop" ∨ k = "twice") := of_decide_eq_false (by rw [Bool.not_eq_true'] at e2; exact e2)
              rw [if_neg e2'] at q
              exact q _ (same_new np)
            · walk_at "w"
              have e2' : (k = "drop" ∨ k = "twice") := of_decide_eq_true (by rw [Bool.not_eq_false'] at e2; exact e2)
              rw [if_pos e2'] at q
              refine ⟨x2, 2, 6, d2, rfl, (same_new np).dat h2, ?_⟩
              walk_at "w"
              refine w_ifB (fun e3 => ?_) (fun e3 => ?_)
              · walk_at "w"
                rw [show isWithinD d2 2 6 = false from by rw [Bool.not_eq_true'] at e3; exact e3] at q
                exact q _ (same_new np)
              · walk_at "w"
                rw [show isWithinD d2 2 6 = true from by rw [Bool.not_eq_false'] at e3; exact e3] at q
                cases d2 with
                | int n =>
                  cases h2
                  walk_at "w"
                  refine ⟨x3, 0, n - 1, d3, rfl, (same_new np).dat h3, ?_⟩
                  exact q _ (same_new np)
                | _ => cases e3
        | _ =>
          refine iteT ?_
          walk_at "w"
          exact q H (Same.refl H)
  | _ => exact iteT (q H (Same.refl H))
theorem sem_is_row : ∀ vs H Q E, sp_is_row K vs H Q E → t_is_row K { nx := fun _ H' => Q .non H', rt := Q } (start ["thing", "one"] vs) H := by
  rintro vs H Q E ⟨x, d, rfl, hd, hf, q⟩
  show t_is_row K _ [some x, none] H
  unfold t_is_row
  walk_at "w"; walk_at "is"; walk_at "w"
  cases d with
  | tuple ds =>
    refine iteT ?_
    obtain ⟨a, xs, rfl, hs, ha⟩ := dp_tup hd
    walk_at "w"
    rw [show isRowD (.tuple ds) = (decide (ds.length ≤ 4) && ds.all isOneD) from rfl] at q
    refine w_ifB (fun e => ?_) (fun e => ?_)
    · walk_at "w"
      have el : ds.length ≤ 4 := by rw [ha.len] at e; have := bT e; omega
      rw [decide_eq_true el] at q
      intro D nD
      refine lc_same (walk_tup (K := K) (a := a) (xs := xs)) nD [some (.ref a), none] rfl (fun i => ((ds.take i).map isOneD).map V.bl) rfl (fun H1 s => s.sqT hs) (fun i x H1 H1' hi p y => ?_) (fun H1 s hD => ?_)
      · obtain ⟨rfl, hx⟩ := y
        obtain ⟨d', hd', dd⟩ := ha.get hx
        walk_at "w"
        refine ⟨rfl, ?_⟩
        walk_at "w"
        refine ⟨x, d', rfl, p.1.dat dd, fitDs_get hf (List.mem_of_getElem? hd'), fun H' s' => ?_⟩
        refine lc_put nD p s' (szLt _ ?_) ?_
        · rw [List.length_map, List.length_map, List.length_take]
          omega
        · rw [List.take_add_one, hd', List.map_append, List.map_append]
          rfl
      · walk_at "w"
        refine w_all (ds.map isOneD) (sqL_at (by rw [hD, ha.len, List.take_length])) ?_
        rw [show (ds.map isOneD).all id = ds.all isOneD from by rw [List.all_map]; rfl]
        exact q H1 s
    · have el : ¬ ds.length ≤ 4 := by rw [ha.len] at e; have := bF e; omega
      rw [decide_eq_false el] at q
      exact q H (Same.refl H)
  | _ => exact iteF (q H (Same.refl H))
theorem sem_need_row : ∀ vs H Q E, sp_need_row K vs H Q E → t_need_row K { nx := fun _ H' => Q .non H', rt := Q } (start ["row"] vs) H := by
  rintro vs H Q E ⟨x, d, rfl, hd, hf, hr, q⟩
  show t_need_row K _ [some x] H
  unfold t_need_row
  walk_at "w"
  refine ⟨x, d, rfl, hd, hf, fun H' s => ?_⟩
  rw [hr]
  walk_at "w"
  refine iteF ?_
  exact q H' s
end
end HH

namespace HH
open PySem PySem.Spec L2
/-! ### the mathematics: what one does to signs, how many come -/
def stepOne (f : Folk) (n s : Nat) : List Nat × Nat :=
  match f with
  | .hears a b => ([if s = a then b else s], n)
  | .ctr tw e _ => (if (n + 1) % e = 0 then (if tw then [s, s] else []) else [s], (n + 1) % e)
def runOne (f : Folk) : Nat → List Nat → List Nat × Nat
  | n, [] => ([], n)
  | n, s :: ss => ((stepOne f n s).1 ++ (runOne f (stepOne f n s).2 ss).1, (runOne f (stepOne f n s).2 ss).2)
/-- signs through a row: what comes out, the counts behind it -/
def told : Row → List Nat → List Nat → List Nat × List Nat
  | f :: r, c :: cs, ss => ((told r cs (runOne f c ss).1).1, (runOne f c ss).2 :: (told r cs (runOne f c ss).1).2)
  | _, cs, ss => (ss, cs)
def Folk.begun : Folk → Nat
  | .hears _ _ => 0
  | .ctr _ _ c => c
def begun (r : Row) : List Nat := r.map Folk.begun
/-- what comes out of a word -/
def comes (r : Row) (w : List Nat) : List Nat := (told r (begun r) w).1
def Folk.now : Folk → Nat → Folk
  | .hears a b, _ => .hears a b
  | .ctr tw e _, n => .ctr tw e n
def passed : Folk → Nat → Nat
  | .hears _ _, n => n
  | .ctr tw e c, n => if tw then n + (n + c) / e else n - (n + c) / e
def wanted : Folk → Nat → Nat
  | .hears _ _, n => n
  | .ctr tw e c, n => if n = 0 then 0 else if tw then (n + c) - (n + c) / (e + 1) - c else (n + c) + (n + c - 1) / (e - 1) - c
def allCome : Row → Nat → Nat
  | [], n => n
  | f :: r, n => allCome r (passed f n)
def fewest : Row → Nat → Nat
  | [], n => n
  | f :: r, n => wanted f (fewest r n)
def fok (f : Folk) : Prop := match f with
  | .hears _ _ => True
  | .ctr _ e c => 2 ≤ e ∧ e ≤ 6 ∧ c < e
theorem fok_of {f : Folk} (h : f.ok = true) : fok f := by
  cases f with
  | hears a b => trivial
  | ctr tw e c =>
    have h' : (decide (2 ≤ e) && decide (e ≤ 6) && decide (c < e)) = true := h
    simp only [Bool.and_eq_true, decide_eq_true_eq] at h'
    exact ⟨h'.1.1, h'.1.2, h'.2⟩
def rok (r : Row) : Prop := ∀ f ∈ r, fok f
theorem runOne_app (f : Folk) : ∀ (n : Nat) (a b : List Nat), runOne f n (a ++ b) = ((runOne f n a).1 ++ (runOne f (runOne f n a).2 b).1, (runOne f (runOne f n a).2 b).2)
  | n, [], b => rfl
  | n, s :: a, b => by
    show ((stepOne f n s).1 ++ (runOne f (stepOne f n s).2 (a ++ b)).1, (runOne f (stepOne f n s).2 (a ++ b)).2) = _
    rw [runOne_app f _ a b]
    show _ = ((stepOne f n s).1 ++ (runOne f (stepOne f n s).2 a).1 ++ _, _)
    rw [List.append_assoc]
    rfl
theorem told_len : ∀ (r : Row) (cs ss : List Nat), (told r cs ss).2.length = cs.length
  | [], _, _ => rfl
  | _ :: _, [], _ => rfl
  | f :: r, c :: cs, ss => congrArg (· + 1) (told_len r cs _)
theorem told_app : ∀ (r : Row) (cs a b : List Nat), told r cs (a ++ b) = ((told r cs a).1 ++ (told r (told r cs a).2 b).1, (told r (told r cs a).2 b).2)
  | [], _, _, _ => rfl
  | _ :: _, [], _, _ => rfl
  | f :: r, c :: cs, a, b => by
    show ((told r cs (runOne f c (a ++ b)).1).1, (runOne f c (a ++ b)).2 :: (told r cs (runOne f c (a ++ b)).1).2) = _
    rw [runOne_app f c a b]
    show ((told r cs ((runOne f c a).1 ++ (runOne f (runOne f c a).2 b).1)).1, _ :: (told r cs ((runOne f c a).1 ++ (runOne f (runOne f c a).2 b).1)).2) = _
    rw [told_app r cs _ _]
    rfl
/-- how long one's words are, what one has counted behind them -/
theorem run_ctr (tw : Bool) (e : Nat) (he : 2 ≤ e) (c0 : Nat) : ∀ (ss : List Nat) (n : Nat), n < e → (runOne (.ctr tw e c0) n ss).1.length = passed (.ctr tw e n) ss.length ∧ (runOne (.ctr tw e c0) n ss).2 = (n + ss.length) % e ∧ (ss.length + n) / e ≤ ss.length
  | [], n, hn => by
    have h : (0 + n) / e = 0 := by rw [Nat.zero_add]; exact Nat.div_eq_of_lt hn
    refine ⟨?_, (Nat.mod_eq_of_lt hn).symm, ?_⟩
    · show 0 = if tw then 0 + (0 + n) / e else 0 - (0 + n) / e
      rw [h]
      cases tw <;> rfl
    · show (0 + n) / e ≤ 0
      rw [h]
      exact Nat.le_refl _
  | s :: ss, n, hn => by
    have hm : (n + 1) % e < e := Nat.mod_lt _ (by omega)
    obtain ⟨h1, h2, h3⟩ := run_ctr tw e he c0 ss ((n + 1) % e) hm
    have e2 : (runOne (.ctr tw e c0) n (s :: ss)).2 = (runOne (.ctr tw e c0) ((n + 1) % e) ss).2 := rfl
    have e1 : (runOne (.ctr tw e c0) n (s :: ss)).1.length = (if (n + 1) % e = 0 then (if tw then [s, s] else []) else [s]).length + (runOne (.ctr tw e c0) ((n + 1) % e) ss).1.length := by
      show ((if (n + 1) % e = 0 then (if tw then [s, s] else []) else [s]) ++ (runOne (.ctr tw e c0) ((n + 1) % e) ss).1).length = _
      rw [List.length_append]
    rw [e1, e2, h1, h2]
    have hl : (s :: ss).length = ss.length + 1 := rfl
    rw [hl]
    by_cases hz : (n + 1) % e = 0
    · have hne : n + 1 = e := by
        have := Nat.le_of_dvd (by omega) (Nat.dvd_of_mod_eq_zero hz)
        omega
      rw [hz, if_pos rfl]
      have q : (ss.length + 1 + n) / e = ss.length / e + 1 := by
        rw [show ss.length + 1 + n = ss.length + e by omega, Nat.add_div_right _ (by omega)]
      rw [hz, Nat.add_zero] at h3
      refine ⟨?_, ?_, by omega⟩
      · show _ + (if tw then ss.length + (ss.length + 0) / e else ss.length - (ss.length + 0) / e) = if tw then (ss.length + 1) + (ss.length + 1 + n) / e else (ss.length + 1) - (ss.length + 1 + n) / e
        rw [q, Nat.add_zero]
        cases tw
        · show 0 + (ss.length - ss.length / e) = (ss.length + 1) - (ss.length / e + 1)
          omega
        · show 2 + (ss.length + ss.length / e) = (ss.length + 1) + (ss.length / e + 1)
          omega
      · rw [show n + (ss.length + 1) = ss.length + e by omega, Nat.add_mod_right, Nat.zero_add]
    · have hlt : n + 1 < e := by
        rcases Nat.lt_or_ge (n + 1) e with h | h
        · exact h
        · exfalso
          exact hz (by rw [show n + 1 = e by omega, Nat.mod_self])
      rw [Nat.mod_eq_of_lt hlt] at h3 ⊢
      rw [if_neg (by omega)]
      rw [show ss.length + (n + 1) = ss.length + 1 + n by omega] at h3
      refine ⟨?_, ?_, by omega⟩
      · show 1 + (if tw then ss.length + (ss.length + (n + 1)) / e else ss.length - (ss.length + (n + 1)) / e) = if tw then (ss.length + 1) + (ss.length + 1 + n) / e else (ss.length + 1) - (ss.length + 1 + n) / e
        rw [show ss.length + (n + 1) = ss.length + 1 + n by omega]
        cases tw
        · show 1 + (ss.length - (ss.length + 1 + n) / e) = (ss.length + 1) - (ss.length + 1 + n) / e
          omega
        · show 1 + (ss.length + (ss.length + 1 + n) / e) = (ss.length + 1) + (ss.length + 1 + n) / e
          omega
      · rw [show n + 1 + ss.length = n + (ss.length + 1) by omega]
theorem run_hears (a b : Nat) : ∀ (ss : List Nat) (n : Nat), runOne (.hears a b) n ss = (ss.map fun s => if s = a then b else s, n)
  | [], n => rfl
  | s :: ss, n => by
    show ([if s = a then b else s] ++ (runOne (.hears a b) n ss).1, (runOne (.hears a b) n ss).2) = _
    rw [run_hears a b ss n]
    rfl
/-- the counts fit the row -/
def fit : Row → List Nat → Prop
  | [], [] => True
  | .hears _ _ :: r, c :: cs => c = 0 ∧ fit r cs
  | .ctr _ e _ :: r, c :: cs => c < e ∧ fit r cs
  | _, _ => False
/-- the row as it is now -/
def nowRow : Row → List Nat → Row
  | f :: r, c :: cs => f.now c :: nowRow r cs
  | _, _ => []
theorem fit_len : ∀ {r : Row} {cs : List Nat}, fit r cs → cs.length = r.length
  | [], [], _ => rfl
  | .hears _ _ :: r, c :: cs, h => congrArg (· + 1) (fit_len h.2)
  | .ctr _ _ _ :: r, c :: cs, h => congrArg (· + 1) (fit_len h.2)
  | [], _ :: _, h => h.elim
  | .hears _ _ :: _, [], h => h.elim
  | .ctr _ _ _ :: _, [], h => h.elim
theorem fit_begun : ∀ {r : Row}, rok r → fit r (begun r)
  | [], _ => trivial
  | .hears _ _ :: r, h => ⟨rfl, fit_begun fun f hf => h f (List.mem_cons_of_mem _ hf)⟩
  | .ctr tw e c :: r, h => ⟨(h _ List.mem_cons_self : fok (.ctr tw e c)).2.2, fit_begun fun f hf => h f (List.mem_cons_of_mem _ hf)⟩
theorem now_begun : ∀ (r : Row), nowRow r (begun r) = r
  | [] => rfl
  | .hears _ _ :: r => congrArg (List.cons _) (now_begun r)
  | .ctr _ _ _ :: r => congrArg (List.cons _) (now_begun r)
theorem told_fit : ∀ {r : Row} {cs : List Nat} (ss : List Nat), rok r → fit r cs → fit r (told r cs ss).2 ∧ (told r cs ss).1.length = allCome (nowRow r cs) ss.length
  | [], [], ss, _, _ => ⟨trivial, rfl⟩
  | .hears a b :: r, c :: cs, ss, h, hf => by
    have ih := told_fit (runOne (.hears a b) c ss).1 (fun f hf => h f (List.mem_cons_of_mem _ hf)) hf.2
    rw [run_hears] at ih
    refine ⟨⟨?_, ?_⟩, ?_⟩
    · show (runOne (.hears a b) c ss).2 = 0
      rw [run_hears]
      exact hf.1
    · rw [run_hears]
      exact ih.1
    · show (told r cs (runOne (.hears a b) c ss).1).1.length = allCome (nowRow r cs) ss.length
      rw [run_hears, ih.2, List.length_map]
  | .ctr tw e c0 :: r, c :: cs, ss, h, hf => by
    have he : fok (.ctr tw e c0) := h _ List.mem_cons_self
    have ih := told_fit (runOne (.ctr tw e c0) c ss).1 (fun f hf => h f (List.mem_cons_of_mem _ hf)) hf.2
    obtain ⟨h1, h2, h3⟩ := run_ctr tw e he.1 c0 ss c hf.1
    refine ⟨⟨?_, ih.1⟩, ?_⟩
    · show (runOne (.ctr tw e c0) c ss).2 < e
      rw [h2]
      have := he.1
      exact Nat.mod_lt _ (by omega)
    · show (told r cs (runOne (.ctr tw e c0) c ss).1).1.length = allCome (nowRow r cs) (passed (.ctr tw e c) ss.length)
      rw [ih.2, h1]
  | [], _ :: _, _, _, h => h.elim
  | .hears _ _ :: _, [], _, _, h => h.elim
  | .ctr _ _ _ :: _, [], _, _, h => h.elim
theorem comes_len {r : Row} (h : rok r) (w : List Nat) : (comes r w).length = allCome r w.length := by
  have := (told_fit w h (fit_begun h)).2
  rw [now_begun] at this
  exact this
/-- of each of so many signs, how many come out -/
def feed (r : Row) : List Nat → List Nat → List (List Nat) × List Nat
  | cs, [] => ([], cs)
  | cs, s :: ss => ((told r cs [s]).1 :: (feed r (told r cs [s]).2 ss).1, (feed r (told r cs [s]).2 ss).2)
theorem told_nil : ∀ (r : Row) (cs : List Nat), told r cs [] = ([], cs)
  | [], _ => rfl
  | _ :: _, [] => rfl
  | f :: r, c :: cs => by
    show ((told r cs []).1, c :: (told r cs []).2) = _
    rw [told_nil r cs]
theorem feed_told (r : Row) : ∀ (w cs : List Nat), ((feed r cs w).1.flatten, (feed r cs w).2) = told r cs w
  | [], cs => (told_nil r cs).symm
  | s :: w, cs => by
    have ih := feed_told r w (told r cs [s]).2
    have h := told_app r cs [s] w
    rw [show ([s] ++ w : List Nat) = s :: w from rfl] at h
    rw [h, ← ih]
    rfl
theorem feed_app (r : Row) : ∀ (a b cs : List Nat), feed r cs (a ++ b) = ((feed r cs a).1 ++ (feed r (feed r cs a).2 b).1, (feed r (feed r cs a).2 b).2)
  | [], _, _ => rfl
  | s :: a, b, cs => by
    show ((told r cs [s]).1 :: (feed r (told r cs [s]).2 (a ++ b)).1, (feed r (told r cs [s]).2 (a ++ b)).2) = _
    rw [feed_app r a b _]
    rfl
theorem feed_len (r : Row) : ∀ (w cs : List Nat), (feed r cs w).1.length = w.length
  | [], _ => rfl
  | s :: w, cs => congrArg (· + 1) (feed_len r w _)
def qs (n : Nat) : List Nat := List.replicate n 113
def copies (r : Row) (n : Nat) : List Nat := (feed r (begun r) (qs n)).1.map List.length
theorem sum_map_len : ∀ (l : List (List Nat)), (l.map List.length).sum = l.flatten.length
  | [] => rfl
  | a :: l => by
    rw [List.map_cons, List.sum_cons, List.flatten_cons, List.length_append, sum_map_len l]
theorem copies_sum {r : Row} (h : rok r) (k n : Nat) (hk : k ≤ n) : ((copies r n).take k).sum = allCome r k := by
  unfold copies
  rw [← List.map_take]
  have e : (feed r (begun r) (qs n)).1.take k = (feed r (begun r) (qs k)).1 := by
    have : qs n = qs k ++ qs (n - k) := by
      unfold qs
      rw [List.replicate_append_replicate]
      congr 1
      omega
    rw [this, feed_app]
    have hl : (feed r (begun r) (qs k)).1.length = k := by rw [feed_len]; exact List.length_replicate
    show List.take k ((feed r (begun r) (qs k)).1 ++ _) = _
    rw [List.take_append_of_le_length (by omega), List.take_of_length_le (by omega)]
  rw [e, sum_map_len]
  have ft := feed_told r (qs k) (begun r)
  have : (feed r (begun r) (qs k)).1.flatten = (told r (begun r) (qs k)).1 := congrArg Prod.fst ft
  rw [this]
  have := comes_len h (qs k)
  rw [show (qs k).length = k from List.length_replicate] at this
  exact this
end HH

namespace HH
open PySem PySem.Spec L2
/-! ### passed and wanted -/
theorem div_le_self' {n c e : Nat} (he : 2 ≤ e) (hc : c < e) : (n + c) / e ≤ n := by
  rcases Nat.eq_zero_or_pos n with h | h
  · subst h
    rw [Nat.zero_add, Nat.div_eq_of_lt hc]
    exact Nat.le_refl _
  · have : (n + c) / e ≤ (n * e) / e := by
      apply Nat.div_le_div_right
      have : n * 2 ≤ n * e := Nat.mul_le_mul_left n he
      have h2 : 1 * (e - 1) ≤ n * (e - 1) := Nat.mul_le_mul_right _ h
      have h3 : n * e = n * (e - 1) + n := by
        rw [show n * e = n * (e - 1 + 1) by rw [Nat.sub_add_cancel (by omega)], Nat.mul_add, Nat.mul_one]
      omega
    rw [Nat.mul_div_cancel _ (by omega)] at this
    exact this
theorem passed_mono1 {f : Folk} (h : fok f) (n : Nat) : passed f n ≤ passed f (n + 1) ∧ passed f (n + 1) ≤ passed f n + 2 := by
  cases f with
  | hears a b => exact ⟨Nat.le_succ n, Nat.le_succ _⟩
  | ctr tw e c =>
    obtain ⟨h2, h6, hc⟩ := h
    have e1 : (n + 1 + c) / e ≤ (n + c) / e + 1 := by
      have : (n + 1 + c) / e ≤ (n + c + e) / e := Nat.div_le_div_right (by omega)
      rw [Nat.add_div_right _ (by omega)] at this
      exact this
    have e2 : (n + c) / e ≤ (n + 1 + c) / e := Nat.div_le_div_right (by omega)
    have e3 := div_le_self' (n := n) h2 hc
    have e4 := div_le_self' (n := n + 1) h2 hc
    cases tw
    · show n - (n + c) / e ≤ (n + 1) - (n + 1 + c) / e ∧ (n + 1) - (n + 1 + c) / e ≤ n - (n + c) / e + 2
      omega
    · show n + (n + c) / e ≤ (n + 1) + (n + 1 + c) / e ∧ (n + 1) + (n + 1 + c) / e ≤ n + (n + c) / e + 2
      omega
theorem passed_mono {f : Folk} (h : fok f) {n m : Nat} (hnm : n ≤ m) : passed f n ≤ passed f m := by
  induction hnm with
  | refl => exact Nat.le_refl _
  | step _ ih => exact Nat.le_trans ih (passed_mono1 h _).1
theorem passed_le2 {f : Folk} (h : fok f) (n k : Nat) : passed f (n + k) ≤ passed f n + 2 * k := by
  induction k with
  | zero => exact Nat.le_refl _
  | succ k ih =>
    have := (passed_mono1 h (n + k)).2
    rw [show n + (k + 1) = n + k + 1 from rfl]
    omega
theorem passed_zero {f : Folk} (h : fok f) : passed f 0 = 0 := by
  cases f with
  | hears a b => rfl
  | ctr tw e c =>
    have : (0 + c) / e = 0 := by rw [Nat.zero_add]; exact Nat.div_eq_of_lt h.2.2
    show (if tw then 0 + (0 + c) / e else 0 - (0 + c) / e) = 0
    rw [this]
    cases tw <;> rfl
/-- wanted is the least -/
theorem wanted_iff {f : Folk} (h : fok f) (n m : Nat) : wanted f n ≤ m ↔ n ≤ passed f m := by
  cases f with
  | hears a b => exact Iff.rfl
  | ctr tw e c =>
    obtain ⟨h2, h6, hc⟩ := h
    by_cases h0 : n = 0
    · subst h0
      have : wanted (.ctr tw e c) 0 = 0 := rfl
      rw [this]
      exact ⟨fun _ => Nat.zero_le _, fun _ => Nat.zero_le _⟩
    · have dv : (m + c) / e ≤ m := div_le_self' h2 hc
      have hm1 := Nat.div_add_mod (m + c) e
      have hm2 := Nat.mod_lt (m + c) (show 0 < e by omega)
      cases tw
      · have ew : wanted (.ctr false e c) n = (n + c) + (n + c - 1) / (e - 1) - c := by
          show (if n = 0 then 0 else (n + c) + (n + c - 1) / (e - 1) - c) = _
          rw [if_neg h0]
        have ep : passed (.ctr false e c) m = m - (m + c) / e := rfl
        rw [ew, ep]
        have hn1 := Nat.div_add_mod (n + c - 1) (e - 1)
        have hn2 := Nat.mod_lt (n + c - 1) (show 0 < e - 1 by omega)
        have : e = 2 ∨ e = 3 ∨ e = 4 ∨ e = 5 ∨ e = 6 := by omega
        rcases this with rfl | rfl | rfl | rfl | rfl <;> omega
      · have ew : wanted (.ctr true e c) n = (n + c) - (n + c) / (e + 1) - c := by
          show (if n = 0 then 0 else (n + c) - (n + c) / (e + 1) - c) = _
          rw [if_neg h0]
        have ep : passed (.ctr true e c) m = m + (m + c) / e := rfl
        rw [ew, ep]
        have : e = 2 ∨ e = 3 ∨ e = 4 ∨ e = 5 ∨ e = 6 := by omega
        rcases this with rfl | rfl | rfl | rfl | rfl <;> omega
theorem rok_tail {f : Folk} {r : Row} (h : rok (f :: r)) : rok r := fun g hg => h g (List.mem_cons_of_mem _ hg)
theorem allCome_mono : ∀ {r : Row}, rok r → ∀ {n m : Nat}, n ≤ m → allCome r n ≤ allCome r m
  | [], _, _, _, h => h
  | f :: r, hr, _, _, h => allCome_mono (rok_tail hr) (passed_mono (hr f List.mem_cons_self) h)
theorem allCome_le : ∀ {r : Row}, rok r → ∀ (n k : Nat), allCome r (n + k) ≤ allCome r n + 2 ^ r.length * k
  | [], _, n, k => by show n + k ≤ n + 2 ^ 0 * k; omega
  | f :: r, hr, n, k => by
    have h1 := passed_le2 (hr f List.mem_cons_self) n k
    have h2 := passed_mono (hr f List.mem_cons_self) (Nat.le_add_right n k)
    have ih := allCome_le (rok_tail hr) (passed f n) (passed f (n + k) - passed f n)
    rw [show passed f n + (passed f (n + k) - passed f n) = passed f (n + k) by omega] at ih
    show allCome r (passed f (n + k)) ≤ allCome r (passed f n) + 2 ^ (r.length + 1) * k
    have h3 : 2 ^ r.length * (passed f (n + k) - passed f n) ≤ 2 ^ r.length * (2 * k) := Nat.mul_le_mul_left _ (by omega)
    rw [show 2 ^ (r.length + 1) * k = 2 ^ r.length * (2 * k) by rw [Nat.pow_succ, Nat.mul_assoc]]
    omega
theorem allCome_zero : ∀ {r : Row}, rok r → allCome r 0 = 0
  | [], _ => rfl
  | f :: r, hr => by
    show allCome r (passed f 0) = 0
    rw [passed_zero (hr f List.mem_cons_self)]
    exact allCome_zero (rok_tail hr)
theorem pow_le16 {k : Nat} (h : k ≤ 4) : 2 ^ k ≤ 16 := by
  have : k = 0 ∨ k = 1 ∨ k = 2 ∨ k = 3 ∨ k = 4 := by omega
  rcases this with rfl | rfl | rfl | rfl | rfl <;> decide
theorem allCome_16 {r : Row} (h : rok r) (hl : r.length ≤ 4) (n : Nat) : allCome r n ≤ 16 * n := by
  have := allCome_le h 0 n
  rw [Nat.zero_add, allCome_zero h, Nat.zero_add] at this
  exact Nat.le_trans this (Nat.mul_le_mul_right _ (pow_le16 hl))
theorem allCome_1 {r : Row} (h : rok r) (hl : r.length ≤ 4) (n : Nat) : allCome r n ≤ allCome r (n + 1) ∧ allCome r (n + 1) ≤ allCome r n + 16 := by
  refine ⟨allCome_mono h (Nat.le_succ n), ?_⟩
  have := allCome_le h n 1
  have := pow_le16 hl
  omega
theorem allCome_app : ∀ (a b : Row) (n : Nat), allCome (a ++ b) n = allCome b (allCome a n)
  | [], _, _ => rfl
  | f :: a, b, n => allCome_app a b _
theorem fewest_iff : ∀ {r : Row}, rok r → ∀ (n m : Nat), fewest r n ≤ m ↔ n ≤ allCome r m
  | [], _, _, _ => Iff.rfl
  | f :: r, hr, n, m => by
    show wanted f (fewest r n) ≤ m ↔ n ≤ allCome r (passed f m)
    rw [wanted_iff (hr f List.mem_cons_self), fewest_iff (rok_tail hr)]
theorem fewest_come {r : Row} (h : rok r) (n : Nat) : n ≤ allCome r (fewest r n) := (fewest_iff h n _).mp (Nat.le_refl _)
theorem fewest_least {r : Row} (h : rok r) {n m : Nat} (hm : m < fewest r n) : allCome r m < n := by
  rcases Nat.lt_or_ge (allCome r m) n with q | q
  · exact q
  · exact absurd ((fewest_iff h n m).mpr q) (by omega)
theorem fewest_zero {r : Row} (h : rok r) (n : Nat) : fewest r n = 0 ↔ n = 0 := by
  constructor
  · intro e
    have := (fewest_iff h n 0).mp (by omega)
    rw [allCome_zero h] at this
    omega
  · rintro rfl
    have := (fewest_iff h 0 0).mpr (Nat.zero_le _)
    omega
theorem wanted_bound {f : Folk} (h : fok f) (n : Nat) : wanted f n ≤ 2 * n := by
  rw [wanted_iff h]
  cases f with
  | hears a b => show n ≤ 2 * n; omega
  | ctr tw e c =>
    obtain ⟨h2, h6, hc⟩ := h
    cases tw
    · show n ≤ 2 * n - (2 * n + c) / e
      have := Nat.div_add_mod (2 * n + c) e
      have : e = 2 ∨ e = 3 ∨ e = 4 ∨ e = 5 ∨ e = 6 := by omega
      rcases this with rfl | rfl | rfl | rfl | rfl <;> omega
    · show n ≤ 2 * n + (2 * n + c) / e
      exact Nat.le_trans (by omega) (Nat.le_add_right _ _)
end HH

namespace HH
open PySem PySem.Spec L2
local macro_rules | `(tactic| walk_at "cy") => `(tactic| first
  | assumption
  | exact L2.upd_same
  | exact L2.sqL_new
  | exact L2.sqT_new
  | exact L2.sqL_at (by assumption)
  | exact L2.sqT_at (by assumption)
  | (refine' L2.Same.seq (by assumption) ?k0; (case k0 => walk_at "cy"))
  | (refine' L2.Same.sqT (by assumption) ?k0; (case k0 => walk_at "cy"))
  | (refine' L2.Same.dat (by assumption) ?k0; (case k0 => walk_at "cy"))
  | (refine' (by assumption : L2.Same _ _) _ _ ?k0; (case k0 => walk_at "cy"))
  | (refine' L2.Same.seq (L2.same_new (by assumption)) ?k0; (case k0 => walk_at "cy"))
  | (refine' L2.Same.sqT (L2.same_new (by assumption)) ?k0; (case k0 => walk_at "cy"))
  | (refine' L2.Same.dat (L2.same_new (by assumption)) ?k0; (case k0 => walk_at "cy"))
  | (refine' L2.same_new (by assumption) _ _ ?k0; (case k0 => walk_at "cy"))
  | (refine' L2.Mv.sqT (by assumption) ?k0; (case k0 => walk_at "cy")))
local macro_rules | `(tactic| walk_at "w") => `(tactic| repeat (first
  | refine HH.stp ?_
  | with_reducible refine L2.iteT ?_
  | with_reducible refine L2.iteF ?_
  | ((with_reducible refine' HH.w_gtup ?k1 ?k2 ?_); (case k1 => walk_at "cy"); (case k2 => exact rfl))
  | ((with_reducible refine' HH.w_ixT ?k1 ?k2 ?_); (case k1 => walk_at "cy"); (case k2 => exact rfl))
  | ((with_reducible refine' HH.w_ixL ?k1 ?k2 ?_); (case k1 => walk_at "cy"); (case k2 => exact rfl))
  | ((with_reducible refine' HH.w_lenL ?k1 ?_); (case k1 => walk_at "cy"))
  | ((with_reducible refine' HH.w_lenT ?k1 ?_); (case k1 => walk_at "cy"))
  | ((with_reducible refine' HH.w_exT ?k1 ?_); (case k1 => walk_at "cy"))
  | ((with_reducible refine' HH.w_exL ?k1 ?_); (case k1 => walk_at "cy"))
  | ((with_reducible refine' HH.w_tyL ?k1 ?_); (case k1 => walk_at "cy"))
  | ((with_reducible refine' HH.w_setL ?k1 ?k2 ?_); (case k1 => walk_at "cy"); (case k2 => exact rfl))
  | ((with_reducible refine' HH.w_modI ?k1 ?_); (case k1 => first | (with_reducible assumption) | omega))
  | ((with_reducible refine' HH.w_divI ?k1 ?_); (case k1 => (constructor <;> omega)))))
local macro_rules | `(tactic| walk_at "v") => `(tactic| ((repeat ((fail_if_success (with_reducible refine HH.isIf ?_)); first
  | refine HH.stp ?_
  | with_reducible refine L2.iteT ?_
  | with_reducible refine L2.iteF ?_
  | ((with_reducible refine' HH.w_gtup ?k1 ?k2 ?_); (case k1 => walk_at "cy"); (case k2 => exact rfl))
  | ((with_reducible refine' HH.w_ixT ?k1 ?k2 ?_); (case k1 => walk_at "cy"); (case k2 => exact rfl))
  | ((with_reducible refine' HH.w_ixL ?k1 ?k2 ?_); (case k1 => walk_at "cy"); (case k2 => exact rfl))
  | ((with_reducible refine' HH.w_lenL ?k1 ?_); (case k1 => walk_at "cy"))
  | ((with_reducible refine' HH.w_lenT ?k1 ?_); (case k1 => walk_at "cy"))
  | ((with_reducible refine' HH.w_exT ?k1 ?_); (case k1 => walk_at "cy"))
  | ((with_reducible refine' HH.w_exL ?k1 ?_); (case k1 => walk_at "cy"))
  | ((with_reducible refine' HH.w_tyL ?k1 ?_); (case k1 => walk_at "cy"))
  | ((with_reducible refine' HH.w_setL ?k1 ?k2 ?_); (case k1 => walk_at "cy"); (case k2 => exact rfl))
  | ((with_reducible refine' HH.w_modI ?k1 ?_); (case k1 => first | (with_reducible assumption) | omega))
  | ((with_reducible refine' HH.w_divI ?k1 ?_); (case k1 => (constructor <;> omega)))))); (try (with_reducible refine HH.isIf ?_)))
/-! ### the law's draws -/
/-- a bag: a list of four hundred draws and a number -/
def BagOk (_ : PySem.W.Frag) (H : Hp) (b : Addr) : Prop := ∃ (d : Addr) (i : Int) (ns : List Int), H b = some (.lst [.ref d, .int i]) ∧ H d = some (.lst (ns.map V.int)) ∧ ns.length = 400
theorem bag_same {K : PySem.W.Frag} {H H' : Hp} {b : Addr} (h : BagOk K H b) (s : Same H H') : BagOk K H' b := by
  obtain ⟨d, i, ns, h1, h2, h3⟩ := h
  exact ⟨d, i, ns, s _ _ h1, s _ _ h2, h3⟩
theorem sqL_of_lst {H : Hp} {a : Addr} {xs ys : List V} (h1 : H a = some (.lst xs)) (h : Rd H a (.lst ys)) : xs = ys := by
  rcases h with h | ⟨o, h⟩
  · rw [h1] at h; cases h; rfl
  · rw [h1] at h; cases h
/-- a bag is drawn from; all else stands -/
structure Dr (K : PySem.W.Frag) (b : Addr) (H H' : Hp) : Prop where
  mv : Mv b H H'
  b0 : BagOk K H b
  b1 : BagOk K H' b
theorem Dr.of_same {K : PySem.W.Frag} {H H' : Hp} {b : Addr} (s : Same H H') (h : BagOk K H b) : Dr K b H H' := by
  obtain ⟨d, i, ns, h1, h2, h3⟩ := id h
  exact ⟨.of_same s h1, h, bag_same h s⟩
theorem Dr.trans {K : PySem.W.Frag} {H H1 H2 : Hp} {b : Addr} (s : Dr K b H H1) (t : Dr K b H1 H2) : Dr K b H H2 := ⟨s.mv.trans t.mv, s.b0, t.b1⟩
theorem Dr.same {K : PySem.W.Frag} {H H1 H2 : Hp} {b : Addr} (s : Dr K b H H1) (t : Same H1 H2) : Dr K b H H2 := ⟨s.mv.same t, s.b0, bag_same s.b1 t⟩
theorem Dr.tp {K : PySem.W.Frag} {H H1 : Hp} {b : Addr} (s : Dr K b H H1) : Tp K H H1 := s.mv.tp
theorem Dr.fr {K : PySem.W.Frag} {H H1 : Hp} {b p : Addr} (s : Dr K b H H1) (h : H1 p = none) : H p = none := s.mv.none h
/-- what is no bag's own list stands -/
theorem Dr.at {K : PySem.W.Frag} {H H1 : Hp} {b p : Addr} {o : HO} (s : Dr K b H H1) (h : H p = some o) (ne : p ≠ b) : H1 p = some o := s.mv.but p o ne h
theorem bag_ne {K : PySem.W.Frag} {H : Hp} {b p : Addr} (hb : BagOk K H b) (h : H p = none) : p ≠ b := fun e => by
  obtain ⟨d, i, ns, h1, _⟩ := hb
  rw [e, h1] at h
  cases h
theorem Dr.ints {K : PySem.W.Frag} {H H1 : Hp} {b p : Addr} {ns : List Int} (s : Dr K b H H1) (h : SqL K H p (ns.map V.int)) : SqL K H1 p (ns.map V.int) := by
  by_cases e : p = b
  · rw [e] at h ⊢
    rcases h with h | h
    · obtain ⟨d, i, ms, h1, _⟩ := s.b0
      have e1 := sqL_of_lst h1 h
      cases ns with
      | nil => cases e1
      | cons n ns => cases e1
    · exact .inr h
  · exact s.mv.sqL e h
theorem Dr.ints' {K : PySem.W.Frag} {H H1 : Hp} {b p : Addr} {ns : List Int} (s : Dr K b H H1) (h : H p = some (.lst (ns.map V.int))) : H1 p = some (.lst (ns.map V.int)) := by
  by_cases e : p = b
  · rw [e] at h
    obtain ⟨d, i, ms, h1, _⟩ := s.b0
    rw [h1] at h
    cases ns with
    | nil => cases h
    | cons n ns => cases h
  · exact s.at h e
/-- another bag stands when one is drawn from -/
theorem Dr.bag {K : PySem.W.Frag} {H H' : Hp} {b c : Addr} (s : Dr K b H H') (hc : BagOk K H c) : BagOk K H' c := by
  by_cases e : c = b
  · rw [e]; exact s.b1
  · obtain ⟨d, i, ns, h1, h2, h3⟩ := hc
    exact ⟨d, i, ns, s.at h1 e, s.ints' h2, h3⟩
theorem Dr.dat {K : PySem.W.Frag} {H H' : Hp} {b : Addr} {v : V} {d : PyData} (s : Dr K b H H') (n : noL d = true) (h : Dp K H v d) : Dp K H' v d := s.tp.dp d v n h
theorem Dr.row {K : PySem.W.Frag} {H H' : Hp} {b : Addr} {v : V} {r : Row} (s : Dr K b H H') (h : Dp K H v (rowD r)) : Dp K H' v (rowD r) := s.dat (noL_row r) h
/-- a new object made while a bag is drawn from -/
theorem Dr.new {K : PySem.W.Frag} {H H1 : Hp} {b p : Addr} {o : HO} (s : Dr K b H H1) (h : H1 p = none) : Dr K b H (upd H1 p o) := s.same (same_new h)
/-- an object that the start does not know is changed -/
theorem Dr.mut {K : PySem.W.Frag} {H H1 : Hp} {b p : Addr} {o : HO} (s : Dr K b H H1) (h : H p = Option.none) (hb : BagOk K (upd H1 p o) b) : Dr K b H (upd H1 p o) :=
  ⟨⟨fun a u n e => by rw [upd_ne (ne_of_none e h)]; exact s.mv.but a u n e, s.mv.l0, by obtain ⟨d, i, ns, h1, _⟩ := hb; exact ⟨_, h1⟩⟩, s.b0, hb⟩

section
variable (K : PySem.W.Frag)
def sp_l_cell_at : Sp := fun vs H Q _ => ∃ (a : Addr) (ns : List Int) (k : Nat), vs = [.ref a, .int (k : Nat)] ∧ SqL K H a (ns.map V.int) ∧ ∀ c : Int, Q (.int c) H

def sp_l_draws (_ : PySem.W.Frag) : Sp := fun vs H Q _ => ∃ (c : Int) (many size : Nat), vs = [.int c, .int (many : Nat), .int (size : Nat)] ∧ many ≤ 1000 ∧ 0 < size ∧ size < 1000000 ∧
  ∀ (H' : Hp) (p : Addr) (ns : List Int), Same H H' → H p = none → H' p = some (.lst (ns.map V.int)) → ns.length = many → Q (.ref p) H'
def sp_l_bag : Sp := fun vs H Q _ => ∃ (a : Addr) (ns : List Int) (k : Nat), vs = [.ref a, .int (k : Nat)] ∧ SqL K H a (ns.map V.int) ∧ ∀ (H' : Hp) (b : Addr), Same H H' → H b = none → BagOk K H' b → Q (.ref b) H'
def sp_l_bags : Sp := fun vs H Q _ => ∃ (a : Addr) (ns : List Int) (k : Nat), vs = [.ref a, .int (k : Nat)] ∧ SqL K H a (ns.map V.int) ∧ k ≤ 100 ∧
  ∀ (H' : Hp) (p : Addr) (bs : List Addr), Same H H' → H' p = some (.lst (bs.map V.ref)) → bs.length ≤ 100 → (∀ b ∈ bs, BagOk K H' b ∧ p ≠ b) → Q (.ref p) H'
def sp_l_take : Sp := fun vs H Q _ => ∃ (b : Addr) (m : Int), vs = [.ref b, .int m] ∧ BagOk K H b ∧ 0 < m ∧ ∀ (r : Nat) (H' : Hp), (r : Int) < m → Dr K b H H' → Q (.int (r : Nat)) H'
theorem len_l_cell_at : ∀ vs H Q E, sp_l_cell_at K vs H Q E → vs.length = 2 := by rintro _ _ _ _ ⟨_, _, _, rfl, _⟩; rfl
theorem len_l_draws : ∀ vs H Q E, sp_l_draws K vs H Q E → vs.length = 3 := by rintro _ _ _ _ ⟨_, _, _, rfl, _⟩; rfl
theorem len_l_bag : ∀ vs H Q E, sp_l_bag K vs H Q E → vs.length = 2 := by rintro _ _ _ _ ⟨_, _, _, rfl, _⟩; rfl
theorem len_l_bags : ∀ vs H Q E, sp_l_bags K vs H Q E → vs.length = 2 := by rintro _ _ _ _ ⟨_, _, _, rfl, _⟩; rfl
theorem len_l_take : ∀ vs H Q E, sp_l_take K vs H Q E → vs.length = 2 := by rintro _ _ _ _ ⟨_, _, rfl, _⟩; rfl
end
def t_l_cell_at (K : PySem.W.Frag) : TS :=
  (tSeq (tIfS (tTest (tOp rLtI (tVar 1) (tCB (rLenQ K) (tCons (tVar 0) tNil)))) (tRet (tOp (rIxL K) (tVar 0) (tVar 1))) tNext)
  (tRet (tC (.int 0))))

def t_l_draws (K : PySem.W.Frag) : TS :=
  (tSeq (tAsg (tLst tNil) (gName 3))
  (tSeq (tAsg (tOp rMulI (tVar 0) (tCB rIntQ (tCons (tOp rGeI (tVar 0) (tOp rPowI (tC (.int 10)) (tC (.int 18)))) tNil))) (gName 4))
  (tSeq (tAsg (tOp rModI (tVar 0) (tC (.int 2305843009213693951))) (gName 5))
  (tSeq (tFor (iRng1 (tCons (tOp rAddI (tVar 1) (tC (.int 3))) tNil)) (gName 6)
  (tSeq (tAsg (tOp rModI (tOp rAddI (tOp rAddI (tOp rAddI (tOp rMulI (tVar 5) (tVar 5)) (tOp rMulI (tC (.int 48271)) (tVar 5))) (tVar 6)) (tC (.int 1))) (tC (.int 2305843009213693951))) (gName 5))
  (tIfS (tAnd (tTest (tOp rGtI (tVar 6) (tC (.int 2)))) (tTest (tOp rGtI (tVar 4) (tC (.int 0))))) (tSeq (tDrop (tBM K "list" rAppend (tVar 3) (tCons (tOp rModI (tVar 4) (tVar 2)) tNil)))
  (tAsg (tOp rDivI (tVar 4) (tVar 2)) (gName 4))) (tIfS (tTest (tOp rGtI (tVar 6) (tC (.int 2)))) (tDrop (tBM K "list" rAppend (tVar 3) (tCons (tOp rModI (tOp rDivI (tVar 5) (tC (.int 4096))) (tVar 2)) tNil))) tNext))))
  (tRet (tVar 3))))))

def t_l_bag (K : PySem.W.Frag) : TS :=
  (tRet (tLst (tCons (tCall (sp_l_draws K) [] E0 (tCons (tCall (sp_l_cell_at K) [] E0 (tCons (tVar 0) (tCons (tVar 1) tNil))) (tCons (tC (.int 400)) (tCons (tC (.int 1000)) tNil)))) (tCons (tC (.int 0)) tNil))))

def t_l_bags (K : PySem.W.Frag) : TS :=
  (tRet (tLc (iRng1 (tCons (tCB rMax2 (tCons (tC (.int 1)) (tCons (tCB rMin2 (tCons (tVar 1) (tCons (tCB (rLenQ K) (tCons (tVar 0) tNil)) tNil))) tNil))) tNil)) (gName 2) tYes (tCall (sp_l_bag K) [] E0 (tCons (tVar 0) (tCons (tVar 2) tNil))) [2]))

def t_l_take (K : PySem.W.Frag) : TS :=
  (tSeq (tAsg (tOp rAddI (tOp (rIxL K) (tVar 0) (tC (.int 1))) (tC (.int 1))) (gSub (tVar 0) (tC (.int 1)) rSetL))
  (tRet (tOp rModI (tOp (rIxL K) (tOp (rIxL K) (tVar 0) (tC (.int 0))) (tOp rModI (tOp (rIxL K) (tVar 0) (tC (.int 1))) (tCB (rLenQ K) (tCons (tOp (rIxL K) (tVar 0) (tC (.int 0))) tNil)))) (tVar 1))))

section
variable (K : PySem.W.Frag)
theorem at_ints {ns : List Int} {k : Nat} (h : k < ns.length) : atI (ns.map V.int) (k : Int) = some (.int ns[k]) := at_of rfl (by rw [List.getElem?_map, List.getElem?_eq_getElem h]; rfl)
theorem sem_l_cell_at : ∀ vs H Q E, sp_l_cell_at K vs H Q E → t_l_cell_at K { nx := fun _ H' => Q .non H', rt := Q } (start ["script", "k"] vs) H := by
  rintro vs H Q E ⟨a, ns, k, rfl, hs, q⟩
  show t_l_cell_at K _ [some (.ref a), some (.int (k : Nat))] H
  unfold t_l_cell_at
  walk_at "w"
  refine w_ifB (fun e => ?_) (fun e => ?_)
  · walk_at "w"
    have h : k < ns.length := by have := bT e; rw [List.length_map] at this; omega
    refine w_ixL hs (at_ints h) ?_
    exact q _
  · walk_at "w"
    exact q 0
theorem sem_l_draws : ∀ vs H Q E, sp_l_draws K vs H Q E → t_l_draws K { nx := fun _ H' => Q .non H', rt := Q } (start ["cell", "many", "size", "found", "rest", "stirred", "k"] vs) H := by
  rintro vs H Q E ⟨c, many, size, rfl, hm, hs0, hs1, q⟩
  show t_l_draws K _ [some (.int c), some (.int (many : Nat)), some (.int (size : Nat)), none, none, none, none] H
  unfold t_l_draws
  walk_at "w"
  refine ⟨szOk 0, fun o no => ?_⟩
  walk_at "w"
  refine w_mulI (.inr (by cases bD (1000000000000000000 ≤ c) <;> decide)) ?_
  walk_at "w"
  refine ⟨(many : Int) + 3, rfl, by omega, by omega, ?_⟩
  refine for_range (lo := 0) (n := ((many : Int) + 3).toNat) (fun i σ H1 => ∃ (rest : Int) (st : Nat) (y : Option V) (ns : List Int), σ = [some (.int c), some (.int (many : Nat)), some (.int (size : Nat)), some (.ref o), some (.int rest), some (.int (st : Nat)), y] ∧ st < 2305843009213693951 ∧ Same H H1 ∧ H1 o = some (.lst (ns.map V.int)) ∧ ns.length = i - 3) ?_ ?_ ?_
  · exact ⟨_, (c % 2305843009213693951).toNat, none, [], by rw [Int.toNat_of_nonneg (Int.emod_nonneg _ (by decide))], by have := Int.emod_lt_of_pos c (by decide : (0 : Int) < 2305843009213693951); omega, same_new no, upd_same, rfl⟩
  · rintro i σ H1 hi ⟨rest, st, y, ns, rfl, hst, sm, ho, hl⟩
    walk_at "w"
    refine w_mulI (.inl ⟨by omega, by omega⟩) ?_
    walk_at "w"
    refine w_mulI (.inl ⟨by decide, by decide⟩) ?_
    walk_at "w"
    generalize hst' : ((st : Int) * (st : Int) + 48271 * (st : Int) + (0 + (i : Int)) + 1) % 2305843009213693951 = st'
    have h0 : 0 ≤ st' := by rw [← hst']; exact Int.emod_nonneg _ (by decide)
    have h1 : st' < 2305843009213693951 := by rw [← hst']; exact Int.emod_lt_of_pos _ (by decide)
    obtain ⟨st2, rfl⟩ := Int.eq_ofNat_of_zero_le h0
    have app : ∀ (v : Int) (rest' : Int) (D : St → Hp → Prop), 2 < (0 + (i : Int)) → (∀ ms : List Int, ms.length = i + 1 - 3 → D [some (.int c), some (.int (many : Nat)), some (.int (size : Nat)), some (.ref o), some (.int rest'), some (.int (st2 : Nat)), some (.int (0 + (i : Int)))] (upd H1 o (.lst (ms.map V.int)))) →
        D [some (.int c), some (.int (many : Nat)), some (.int (size : Nat)), some (.ref o), some (.int rest'), some (.int (st2 : Nat)), some (.int (0 + (i : Int)))] (upd H1 o (.lst (ns.map V.int ++ [.int v]))) := fun v rest' D h2 h => by
      have := h (ns ++ [v]) (by rw [List.length_append, hl]; show i - 3 + 1 = _; omega)
      rw [List.map_append] at this
      exact this
    have fin : ∀ (rest' : Int) (H2 : Hp) (ms : List Int), Same H H2 → H2 o = some (.lst (ms.map V.int)) → ms.length = i + 1 - 3 → ∃ (rest : Int) (st : Nat) (y : Option V) (ns : List Int), [some (.int c), some (.int (many : Nat)), some (.int (size : Nat)), some (.ref o), some (.int rest'), some (.int (st2 : Nat)), some (.int (0 + (i : Int)))] = [some (.int c), some (.int (many : Nat)), some (.int (size : Nat)), some (.ref o), some (.int rest), some (.int (st : Nat)), y] ∧ st < 2305843009213693951 ∧ Same H H2 ∧ H2 o = some (.lst (ns.map V.int)) ∧ ns.length = i + 1 - 3 :=
      fun rest' H2 ms a b c => ⟨rest', st2, _, ms, rfl, by omega, a, b, c⟩
    have hz : (ns.map V.int).length < sizeLine := szLt _ (by rw [List.length_map]; omega)
    refine w_ifB (fun e => ?_) (fun e => ?_)
    · have h2 : 2 < (0 + (i : Int)) := bT e
      walk_at "w"
      refine w_ifB (fun e2 => ?_) (fun e2 => ?_)
      · walk_at "w"
        refine w_append ho hz ?_
        walk_at "w"
        exact app _ _ _ h2 fun ms hms => fin _ _ ms (same_mut sm no) upd_same hms
      · walk_at "w"
        rw [e]
        walk_at "w"
        refine w_append ho hz ?_
        walk_at "w"
        exact app _ _ _ h2 fun ms hms => fin _ _ ms (same_mut sm no) upd_same hms
    · walk_at "w"
      rw [e]
      walk_at "w"
      have h2 : ¬ 2 < (0 + (i : Int)) := bF e
      exact fin _ _ ns sm ho (by omega)
  · rintro σ H1 ⟨rest, st, y, ns, rfl, hst, sm, ho, hl⟩
    walk_at "w"
    exact q H1 o ns sm no ho (by omega)
end
section
variable (K : PySem.W.Frag)
theorem sem_l_bag : ∀ vs H Q E, sp_l_bag K vs H Q E → t_l_bag K { nx := fun _ H' => Q .non H', rt := Q } (start ["script", "k"] vs) H := by
  rintro vs H Q E ⟨a, ns, k, rfl, hs, q⟩
  show t_l_bag K _ [some (.ref a), some (.int (k : Nat))] H
  unfold t_l_bag
  walk_at "w"
  refine ⟨a, ns, k, rfl, hs, fun c => ?_⟩
  walk_at "w"
  refine ⟨c, 400, 1000, rfl, by decide, by decide, by decide, fun H' p ds sm np hp hl => ?_⟩
  walk_at "w"
  refine ⟨szOk 2, fun o no => ?_⟩
  exact q _ o (sm.trans (same_new no)) (sm.free no) ⟨p, 0, ds, upd_same, (same_new no) _ _ hp, hl⟩
theorem bag_mut {H : Hp} {b D : Addr} {xs ys : List V} (h : BagOk K H b) (hD : H D = some (.lst xs)) (hz : xs.length < 400) (ne : D ≠ b) : BagOk K (upd H D (.lst ys)) b := by
  obtain ⟨d, i, ns, h1, h2, h3⟩ := h
  refine ⟨d, i, ns, by rw [upd_ne ne.symm]; exact h1, ?_, h3⟩
  have nd : d ≠ D := fun e => by
    rw [e, hD] at h2
    cases h2
    rw [List.length_map] at hz
    omega
  rw [upd_ne nd]; exact h2
theorem sem_l_bags : ∀ vs H Q E, sp_l_bags K vs H Q E → t_l_bags K { nx := fun _ H' => Q .non H', rt := Q } (start ["script", "limit", "k"] vs) H := by
  rintro vs H Q E ⟨a, ns, k, rfl, hs, hk, q⟩
  show t_l_bags K _ [some (.ref a), some (.int (k : Nat)), none] H
  unfold t_l_bags
  walk_at "w"
  generalize hm : (if (if ((List.map V.int ns).length : Int) < (k : Int) then ((List.map V.int ns).length : Int) else (k : Int)) > 1 then (if ((List.map V.int ns).length : Int) < (k : Int) then ((List.map V.int ns).length : Int) else (k : Int)) else 1) = m
  have h0 : 0 ≤ m ∧ m ≤ 100 := by
    rw [← hm]
    split <;> split <;> omega
  refine ⟨m, rfl, by omega, by omega, fun D nD => ?_⟩
  refine lc_it walk_range (fun i H1 => ∃ bs : List Addr, Same H H1 ∧ H1 D = some (.lst (bs.map V.ref)) ∧ bs.length = i ∧ i ≤ 100 ∧ ∀ b ∈ bs, BagOk K H1 b ∧ D ≠ b) ⟨[], same_new nD, upd_same, rfl, by decide, fun b hb => by cases hb⟩ (fun _ _ _ _ => trivial) ?_ ?_
  · rintro i x H1 H1' hi ⟨bs, sm, hD, hl, hi2, hbs⟩ ⟨rfl, rfl⟩
    show gName 2 _ [some (.ref a), some (.int (k : Nat)), none] _ _
    walk_at "w"
    refine ⟨rfl, ?_⟩
    walk_at "w"
    refine ⟨a, ns, i, by show [V.ref a, V.int (0 + (i : Int))] = _; rw [Int.zero_add], sm.seq hs, fun H2 b s2 nb hb => ?_⟩
    have hD2 : H2 D = some (.lst (bs.map V.ref)) := s2 _ _ hD
    have neD : D ≠ b := ne_of_none hD nb
    have hz : (bs.map V.ref).length < 400 := by rw [List.length_map]; omega
    refine ⟨_, hD2, szLt _ (by omega), bs ++ [b], same_mut (sm.trans s2) nD, by rw [upd_same, List.map_append]; rfl, by rw [List.length_append, hl]; rfl, by omega, fun c hc => ?_⟩
    rcases List.mem_append.mp hc with hc | hc
    · exact ⟨bag_mut K (bag_same (hbs c hc).1 s2) hD2 hz (hbs c hc).2, (hbs c hc).2⟩
    · rw [List.mem_singleton.mp hc]
      exact ⟨bag_mut K hb hD2 hz neD, neD⟩
  · rintro H1 ⟨bs, sm, hD, hl, hi2, hbs⟩
    exact q H1 D bs sm hD (by omega) fun b hb => hbs b hb
theorem sem_l_take : ∀ vs H Q E, sp_l_take K vs H Q E → t_l_take K { nx := fun _ H' => Q .non H', rt := Q } (start ["bag", "many"] vs) H := by
  rintro vs H Q E ⟨b, m, rfl, hb, hm, q⟩
  show t_l_take K _ [some (.ref b), some (.int m)] H
  unfold t_l_take
  obtain ⟨d, i, ns, h1, h2, h3⟩ := id hb
  walk_at "w"
  have nd : d ≠ b := fun e => by
    rw [e, h1] at h2
    cases ns with
    | nil => cases h2
    | cons n ns => cases h2
  have h2' : (upd H b (.lst [.ref d, .int (i + 1)])) d = some (.lst (ns.map V.int)) := by rw [upd_ne nd]; exact h2
  have dr : Dr K b H (upd H b (.lst [.ref d, .int (i + 1)])) := ⟨⟨fun a o n e => by rw [upd_ne n]; exact e, ⟨_, h1⟩, ⟨_, upd_same⟩⟩, hb, ⟨d, i + 1, ns, upd_same, h2', h3⟩⟩
  generalize hH : (upd H b (.lst [.ref d, .int (i + 1)])) = H1 at dr h2'
  have h1' : H1 b = some (.lst [.ref d, .int (i + 1)]) := by rw [← hH]; exact upd_same
  show rLenQ K [V.ref d] (upd H b (.lst [.ref d, .int (i + 1)])) _
  rw [hH]
  walk_at "w"
  refine w_modI (by rw [List.length_map, h3]; decide) ?_
  rw [List.length_map, h3]
  generalize hj : (i + 1) % ((400 : Nat) : Int) = j
  have hj0 : 0 ≤ j := by rw [← hj]; exact Int.emod_nonneg _ (by decide)
  have hj1 : j < 400 := by rw [← hj]; exact Int.emod_lt_of_pos _ (by decide)
  obtain ⟨jn, rfl⟩ := Int.eq_ofNat_of_zero_le hj0
  have hjl : jn < ns.length := by omega
  refine w_ixL (sqL_at h2') (at_ints hjl) ?_
  walk_at "w"
  have hr0 : 0 ≤ ns[jn] % m := Int.emod_nonneg _ (by omega)
  have hr1 : ns[jn] % m < m := Int.emod_lt_of_pos _ hm
  obtain ⟨r, hr⟩ := Int.eq_ofNat_of_zero_le hr0
  have q' := q r H1 (by omega) dr
  rw [← hr] at q'
  exact q'
end
section
variable (K : PySem.W.Frag)
def sp_l_far_draw : Sp := fun vs H Q _ => ∃ (b : Addr) (m : Nat), vs = [.ref b, .int (m : Nat)] ∧ BagOk K H b ∧ 0 < m ∧ ∀ (r : Nat) (H' : Hp), r < m → Dr K b H H' → Q (.int (r : Nat)) H'
def sp_l_counter : Sp := fun vs H Q _ => ∃ (b : Addr), vs = [.ref b] ∧ BagOk K H b ∧ ∀ (v : V) (f : Folk) (H' : Hp), Dr K b H H' → (∃ tw e c, f = .ctr tw e c) → f.ok = true → Dp K H' v (folkD f) → Q v H'
def sp_l_mouths : Sp := fun vs H Q _ => ∃ (b : Addr) (most wide : Nat), vs = [.ref b, .int (most : Nat), .int (wide : Nat)] ∧ BagOk K H b ∧ most ≤ 10 ∧ 2 ≤ wide ∧ wide ≤ 26 ∧
  ∀ (v : V) (r : Row) (H' : Hp), Dr K b H H' → r.length ≤ most → (∀ f ∈ r, f.ok = true) → (∀ x y, Folk.hears x y ∈ r → x < 97 + wide ∧ y < 97 + wide) → Dp K H' v (rowD r) → Q v H'
theorem len_l_far_draw : ∀ vs H Q E, sp_l_far_draw K vs H Q E → vs.length = 2 := by rintro _ _ _ _ ⟨_, _, rfl, _⟩; rfl
theorem len_l_counter : ∀ vs H Q E, sp_l_counter K vs H Q E → vs.length = 1 := by rintro _ _ _ _ ⟨_, rfl, _⟩; rfl
theorem len_l_mouths : ∀ vs H Q E, sp_l_mouths K vs H Q E → vs.length = 3 := by rintro _ _ _ _ ⟨_, _, _, rfl, _⟩; rfl
end
def t_l_far_draw (K : PySem.W.Frag) : TS :=
  (tSeq (tPar 2 3 (tCons (tC (.int 0)) (tCons (tVar 1) tNil)))
  (tSeq (tWhile (tTest (tOp rGtI (tVar 3) (tC (.int 0)))) (tPar 2 3 (tCons (tOp rAddI (tOp rMulI (tC (.int 1000)) (tVar 2)) (tCall (sp_l_take K) [] E0 (tCons (tVar 0) (tCons (tC (.int 1000)) tNil)))) (tCons (tOp rDivI (tVar 3) (tC (.int 1000))) tNil))))
  (tRet (tOp (rIxL K) (tLst (tCons (tOp rModI (tVar 2) (tVar 1)) (tCons (tC (.int 0)) (tCons (tOp rSubI (tVar 1) (tC (.int 1))) (tCons (tOp rModI (tVar 2) (tVar 1)) tNil))))) (tCall (sp_l_take K) [] E0 (tCons (tVar 0) (tCons (tC (.int 4)) tNil)))))))

def t_l_counter (K : PySem.W.Frag) : TS :=
  (tSeq (tAsg (tOp rAddI (tC (.int 2)) (tCall (sp_l_take K) [] E0 (tCons (tVar 0) (tCons (tC (.int 5)) tNil)))) (gName 1))
  (tRet (tTup (tCons (tOp (rIxL K) (tLst (tCons (tC (.str "drop")) (tCons (tC (.str "twice")) tNil))) (tCall (sp_l_take K) [] E0 (tCons (tVar 0) (tCons (tC (.int 2)) tNil)))) (tCons (tVar 1) (tCons (tCall (sp_l_take K) [] E0 (tCons (tVar 0) (tCons (tVar 1) tNil))) tNil))))))

def t_l_mouths (K : PySem.W.Frag) : TS :=
  (tSeq (tAsg (tLst tNil) (gName 3))
  (tSeq (tFor (iRng1 (tCons (tCall (sp_l_take K) [] E0 (tCons (tVar 0) (tCons (tOp rAddI (tVar 1) (tC (.int 1))) tNil))) tNil)) (gName 4)
  (tIfS (tTest (tOp rEq (tCall (sp_l_take K) [] E0 (tCons (tVar 0) (tCons (tC (.int 4)) tNil))) (tC (.int 0)))) (tSeq (tAsg (tCall (sp_l_take K) [] E0 (tCons (tVar 0) (tCons (tVar 2) tNil))) (gName 5))
  (tSeq (tAsg (tOp rModI (tOp rAddI (tOp rAddI (tVar 5) (tC (.int 1))) (tCall (sp_l_take K) [] E0 (tCons (tVar 0) (tCons (tOp rSubI (tVar 2) (tC (.int 1))) tNil)))) (tVar 2)) (gName 6))
  (tSeq (tAsg (tC (.str "abcdefghijklmnopqrstuvwxyz")) (gName 7))
  (tDrop (tBM K "list" rAppend (tVar 3) (tCons (tTup (tCons (tC (.str "hears")) (tCons (tOp rIxS (tVar 7) (tVar 5)) (tCons (tOp rIxS (tVar 7) (tVar 6)) tNil)))) tNil)))))) (tDrop (tBM K "list" rAppend (tVar 3) (tCons (tCall (sp_l_counter K) [] E0 (tCons (tVar 0) tNil)) tNil)))))
  (tRet (tCB (rTupQ K) (tCons (tVar 3) tNil)))))

theorem w_while {c : TT} {tb : TS} {D : Ends} {σ : St} {H : Hp} (Pv : Nat → St → Hp → Prop) (h0 : ∃ m, Pv m σ H)
    (hs : ∀ m σ H, Pv m σ H → c σ H fun b H1 => if b = true then tb { D with nx := fun σ' H' => ∃ m', m' < m ∧ Pv m' σ' H', ct := fun σ' H' => ∃ m', m' < m ∧ Pv m' σ' H', bk := D.nx } σ H1 else D.nx σ H1)
    (mono : ∀ σ H Q Q', (∀ b H1, Q b H1 → Q' b H1) → c σ H Q → c σ H Q') : tWhile c tb D σ H := by
  refine ⟨Pv, h0, fun m σ H p => ?_⟩
  refine mono _ _ _ _ (fun b H1 q => ?_) (hs m σ H p)
  cases b with
  | true => exact ⟨_, fun σ' H' q => q, q⟩
  | false => exact q
section
variable (K : PySem.W.Frag)
theorem mono_cmp {r : R2} {ta tb : TE} (ma : ∀ σ H (Q Q' : VK), (∀ v H1, Q v H1 → Q' v H1) → ta σ H Q → ta σ H Q') (mb : ∀ σ H (Q Q' : VK), (∀ v H1, Q v H1 → Q' v H1) → tb σ H Q → tb σ H Q')
    (mr : ∀ x y H (Q Q' : VK), (∀ v H1, Q v H1 → Q' v H1) → r x y H Q → r x y H Q') : ∀ σ H (Q Q' : Bool → Hp → Prop), (∀ b H1, Q b H1 → Q' b H1) → tTest (tOp r ta tb) σ H Q → tTest (tOp r ta tb) σ H Q' := by
  intro σ H Q Q' h q
  refine ma _ _ _ _ (fun v H1 q1 => ?_) q
  refine mb _ _ _ _ (fun v2 H2 q2 => ?_) q1
  refine mr _ _ _ _ _ (fun v3 H3 q3 => ?_) q2
  obtain ⟨k, e, q4⟩ := q3
  exact ⟨k, e, h _ _ q4⟩
theorem mono_var {i : Nat} : ∀ σ H (Q Q' : VK), (∀ v H1, Q v H1 → Q' v H1) → tVar i σ H Q → tVar i σ H Q' := fun _ _ _ _ h ⟨v, e, q⟩ => ⟨v, e, h _ _ q⟩
theorem mono_c {v : V} : ∀ σ H (Q Q' : VK), (∀ v H1, Q v H1 → Q' v H1) → tC v σ H Q → tC v σ H Q' := fun _ _ _ _ h q => h _ _ q
theorem mono_I0 {g : Int → Int → V} : ∀ x y H (Q Q' : VK), (∀ v H1, Q v H1 → Q' v H1) → rI0 g x y H Q → rI0 g x y H Q' := fun _ _ _ _ _ h ⟨i, j, e1, e2, q⟩ => ⟨i, j, e1, e2, h _ _ q⟩
theorem at4 {x0 x1 x2 x3 : V} (r : Nat) (h : r < 4) : ∃ v, atI [x0, x1, x2, x3] (r : Int) = some v ∧ (v = x0 ∨ v = x1 ∨ v = x2 ∨ v = x3) := by
  match r, h with
  | 0, _ => exact ⟨x0, rfl, .inl rfl⟩
  | 1, _ => exact ⟨x1, rfl, .inr (.inl rfl)⟩
  | 2, _ => exact ⟨x2, rfl, .inr (.inr (.inl rfl))⟩
  | 3, _ => exact ⟨x3, rfl, .inr (.inr (.inr rfl))⟩
theorem at2 {x0 x1 : V} (r : Nat) (h : r < 2) : atI [x0, x1] (r : Int) = some (if r = 0 then x0 else x1) := by
  match r, h with
  | 0, _ => rfl
  | 1, _ => rfl
theorem at3 {x0 x1 x2 : V} (r : Nat) (h : r < 3) : ∃ v, atI [x0, x1, x2] (r : Int) = some v ∧ (v = x0 ∨ v = x1 ∨ v = x2) := by
  match r, h with
  | 0, _ => exact ⟨x0, rfl, .inl rfl⟩
  | 1, _ => exact ⟨x1, rfl, .inr (.inl rfl)⟩
  | 2, _ => exact ⟨x2, rfl, .inr (.inr rfl)⟩
theorem sem_l_far_draw : ∀ vs H Q E, sp_l_far_draw K vs H Q E → t_l_far_draw K { nx := fun _ H' => Q .non H', rt := Q } (start ["bag", "many", "found", "much"] vs) H := by
  rintro vs H Q E ⟨b, m, rfl, hb, hm, q⟩
  show t_l_far_draw K _ [some (.ref b), some (.int (m : Nat)), none, none] H
  unfold t_l_far_draw
  walk_at "w"
  refine w_while (fun k σ H1 => ∃ f : Nat, σ = [some (.ref b), some (.int (m : Nat)), some (.int (f : Nat)), some (.int (k : Nat))] ∧ Dr K b H H1) ⟨m, 0, rfl, .of_same (Same.refl H) hb⟩ ?_ (mono_cmp mono_var mono_c mono_I0)
  rintro k σ H1 ⟨f, rfl, dr⟩
  walk_at "w"
  refine w_ifB (fun e => ?_) (fun e => ?_)
  · have hk : 0 < k := by have := bT e; omega
    walk_at "w"
    refine w_mulI (.inl ⟨by decide, by decide⟩) ?_
    walk_at "w"
    refine ⟨b, 1000, rfl, dr.b1, by decide, fun r H2 hr dr2 => ?_⟩
    walk_at "w"
    refine ⟨k / 1000, by omega, 1000 * f + r, ?_, dr.trans dr2⟩
    rfl
  · walk_at "w"
    refine ⟨szOk 4, fun p np => ?_⟩
    walk_at "w"
    refine ⟨b, 4, rfl, (dr.new np).b1, by decide, fun r H2 hr dr2 => ?_⟩
    have hp : H2 p = some (.lst [.int ((f : Int) % (m : Int)), .int 0, .int ((m : Int) - 1), .int ((f : Int) % (m : Int))]) := dr2.at upd_same (bag_ne dr.b1 np)
    obtain ⟨v, hv, hvs⟩ := at4 (x0 := .int ((f : Int) % (m : Int))) (x1 := .int 0) (x2 := .int ((m : Int) - 1)) (x3 := .int ((f : Int) % (m : Int))) r (by omega)
    refine w_ixL (sqL_at hp) hv ?_
    have dr3 := (dr.new np).trans dr2
    have e1 : (f : Int) % (m : Int) = ((f % m : Nat) : Int) := rfl
    have e2 : (m : Int) - 1 = ((m - 1 : Nat) : Int) := by omega
    have l1 : f % m < m := Nat.mod_lt _ hm
    rcases hvs with rfl | rfl | rfl | rfl
    · exact q (f % m) H2 l1 dr3
    · exact q 0 H2 hm dr3
    · have := q (m - 1) H2 (by omega) dr3
      rw [← e2] at this
      exact this
    · exact q (f % m) H2 l1 dr3
theorem sem_l_counter : ∀ vs H Q E, sp_l_counter K vs H Q E → t_l_counter K { nx := fun _ H' => Q .non H', rt := Q } (start ["bag", "every"] vs) H := by
  rintro vs H Q E ⟨b, rfl, hb, q⟩
  show t_l_counter K _ [some (.ref b), none] H
  unfold t_l_counter
  walk_at "w"
  refine ⟨b, 5, rfl, hb, by decide, fun e H1 he dr1 => ?_⟩
  walk_at "w"
  refine ⟨szOk 2, fun p np => ?_⟩
  walk_at "w"
  refine ⟨b, 2, rfl, (dr1.new np).b1, by decide, fun t H2 ht dr2 => ?_⟩
  have hp : H2 p = some (.lst [.str "drop", .str "twice"]) := dr2.at upd_same (bag_ne dr1.b1 np)
  refine w_ixL (sqL_at hp) (at2 t (by omega)) ?_
  walk_at "w"
  refine ⟨b, 2 + (e : Int), rfl, dr2.b1, by omega, fun c H3 hc dr3 => ?_⟩
  walk_at "w"
  refine ⟨szOk 3, fun o no => ?_⟩
  have drs := ((dr1.new np).trans dr2).trans dr3
  refine q _ (.ctr (decide (t ≠ 0)) (2 + e) c) _ (drs.new no) ⟨_, _, _, rfl⟩ ?_ (folk_of (sqT_at ?_))
  · show (decide (2 ≤ 2 + e) && decide (2 + e ≤ 6) && decide (c < 2 + e)) = true
    rw [decide_eq_true (by omega), decide_eq_true (by omega), decide_eq_true (by omega)]
    rfl
  · rw [upd_same]
    by_cases h0 : t = 0
    · subst h0
      rfl
    · rw [if_neg h0]
      show _ = some (HO.tup [.str (kindOf (decide (t ≠ 0))), .int ((2 + e : Nat) : Int), .int (c : Nat)])
      rw [decide_eq_true h0]
      rfl
end
section
variable (K : PySem.W.Frag)
theorem alpha_at (k : Nat) (h : k < 26) : atI (Str.ofString "abcdefghijklmnopqrstuvwxyz").cps.toList (k : Int) = some (97 + k) := by
  have e : ∀ j : Fin 26, atI (Str.ofString "abcdefghijklmnopqrstuvwxyz").cps.toList ((j.val : Nat) : Int) = some (97 + j.val) := by decide +kernel
  exact e ⟨k, h⟩
theorem alpha_len : (Str.ofString "abcdefghijklmnopqrstuvwxyz").length ≤ sizeLine := Nat.le_trans (by decide +kernel : (Str.ofString "abcdefghijklmnopqrstuvwxyz").length ≤ 26) (by decide)
theorem mv_set {H : Hp} {o : Addr} {xs ys : List V} (h : H o = some (.lst xs)) : Mv o H (upd H o (.lst ys)) := ⟨fun _ _ n e => by rw [upd_ne n]; exact e, ⟨xs, h⟩, ⟨ys, upd_same⟩⟩
theorem isSmall_of {c : Nat} (h1 : 97 ≤ c) (h2 : c ≤ 122) : isSmall c = true := by
  unfold isSmall
  rw [decide_eq_true h1, decide_eq_true h2]
  rfl
theorem sem_l_mouths : ∀ vs H Q E, sp_l_mouths K vs H Q E → t_l_mouths K { nx := fun _ H' => Q .non H', rt := Q } (start ["bag", "most", "wide", "found", "turn", "one", "other", "letters"] vs) H := by
  rintro vs H Q E ⟨b, most, wide, rfl, hb, hmo, hw0, hw1, q⟩
  show t_l_mouths K _ [some (.ref b), some (.int (most : Nat)), some (.int (wide : Nat)), none, none, none, none, none] H
  unfold t_l_mouths
  walk_at "w"
  refine ⟨szOk 0, fun o no => ?_⟩
  walk_at "w"
  have hbo := (Dr.of_same (same_new (o := .lst []) no) hb)
  refine ⟨b, (most : Int) + 1, rfl, hbo.b1, by omega, fun n H1 hn dr1 => ?_⟩
  walk_at "w"
  have neo : o ≠ b := bag_ne hb no
  have drs := hbo.trans dr1
  refine ⟨(n : Nat), rfl, by omega, by omega, ?_⟩
  refine for_range (lo := 0) (n := ((n : Nat) : Int).toNat) (fun i σ H2 => ∃ (y4 y5 y6 y7 : Option V) (r : Row) (xs : List V), σ = [some (.ref b), some (.int (most : Nat)), some (.int (wide : Nat)), some (.ref o), y4, y5, y6, y7] ∧
      Dr K b H H2 ∧ H2 o = some (.lst xs) ∧ DpAll K H2 xs (r.map folkD) ∧ r.length = i ∧ (∀ f ∈ r, f.ok = true) ∧ (∀ x y, Folk.hears x y ∈ r → x < 97 + wide ∧ y < 97 + wide)) ?_ ?_ ?_
  · exact ⟨none, none, none, none, [], [], rfl, drs, dr1.at upd_same neo, .nil, rfl, (fun f hf => by cases hf), (fun x y hf => by cases hf)⟩
  · rintro i σ H2 hi ⟨y4, y5, y6, y7, r, xs, rfl, dr, ho, hx, hl, hok, hsm⟩
    walk_at "w"
    refine ⟨b, 4, rfl, dr.b1, by decide, fun t H3 ht dr3 => ?_⟩
    walk_at "w"
    have hi10 : i < 10 := by rw [Int.toNat_natCast] at hi; omega
    have hlx : xs.length = i := by rw [hx.len, List.length_map, hl]
    -- what is appended
    have app : ∀ (H5 : Hp) (v : V) (f : Folk) (z4 z5 z6 z7 : Option V), Dr K b H2 H5 → Dp K H5 v (folkD f) → f.ok = true → (∀ x y, f = .hears x y → x < 97 + wide ∧ y < 97 + wide) →
        ∃ xs5, H5 o = some (.lst xs5) ∧ xs5.length < sizeLine ∧ ∃ (y4 y5 y6 y7 : Option V) (r : Row) (xs : List V), [some (.ref b), some (.int (most : Nat)), some (.int (wide : Nat)), some (.ref o), z4, z5, z6, z7] = [some (.ref b), some (.int (most : Nat)), some (.int (wide : Nat)), some (.ref o), y4, y5, y6, y7] ∧
      Dr K b H (upd H5 o (.lst (xs5 ++ [v]))) ∧ (upd H5 o (.lst (xs5 ++ [v]))) o = some (.lst xs) ∧ DpAll K (upd H5 o (.lst (xs5 ++ [v]))) xs (r.map folkD) ∧ r.length = i + 1 ∧ (∀ f ∈ r, f.ok = true) ∧ (∀ x y, Folk.hears x y ∈ r → x < 97 + wide ∧ y < 97 + wide) := by
      intro H5 v f z4 z5 z6 z7 d5 hv hf hfs
      have ho5 : H5 o = some (.lst xs) := d5.at ho neo
      have mvo : Mv o H5 (upd H5 o (.lst (xs ++ [v]))) := mv_set ho5
      refine ⟨xs, ho5, szLt _ (by omega), z4, z5, z6, z7, r ++ [f], xs ++ [v], rfl, (dr.trans d5).mut no (bag_mut K d5.b1 ho5 (by omega) neo), upd_same, ?_, by rw [List.length_append, hl]; rfl, fun g hg => ?_, fun x y hg => ?_⟩
      · rw [List.map_append]
        exact (mvo.tp.dpAll _ _ (noLs_folks r) (d5.tp.dpAll _ _ (noLs_folks r) hx)).app (.cons (mvo.tp.dp _ _ (noL_folk f) hv) .nil)
      · rcases List.mem_append.mp hg with hg | hg
        · exact hok g hg
        · rw [List.mem_singleton.mp hg]; exact hf
      · rcases List.mem_append.mp hg with hg | hg
        · exact hsm x y hg
        · exact hfs x y (List.mem_singleton.mp hg).symm
    refine w_ifB (fun e => ?_) (fun e => ?_)
    · walk_at "w"
      refine ⟨b, (wide : Int), rfl, dr3.b1, by omega, fun one H4 h1 dr4 => ?_⟩
      walk_at "w"
      refine ⟨b, (wide : Int) - 1, rfl, dr4.b1, by omega, fun k H5 hk dr5 => ?_⟩
      have ho5 : H5 o = some (.lst xs) := ((dr3.trans dr4).trans dr5).at ho neo
      walk_at "w"
      have hone : one < wide := by omega
      refine w_ixS alpha_len (alpha_at one (by omega)) ?_
      walk_at "w"
      have e6 : ((one : Int) + 1 + (k : Int)) % (wide : Int) = (((one + 1 + k) % wide : Nat) : Int) := rfl
      rw [e6]
      have hot : (one + 1 + k) % wide < wide := Nat.mod_lt _ (by omega)
      have hne : one ≠ (one + 1 + k) % wide := by
        intro z
        by_cases hlt : one + 1 + k < wide
        · rw [Nat.mod_eq_of_lt hlt] at z; omega
        · rw [Nat.mod_eq_sub_mod (by omega), Nat.mod_eq_of_lt (by omega)] at z; omega
      generalize hoth : (one + 1 + k) % wide = other at hot hne
      refine w_ixS alpha_len (alpha_at other (by omega)) ?_
      walk_at "w"
      refine ⟨szOk 3, fun p np => ?_⟩
      obtain ⟨xs5, g1, g2, g3⟩ := app _ (.ref p) (.hears (97 + one) (97 + other)) (some (.int (0 + (i : Int)))) (some (.int (one : Nat))) (some (.int (other : Nat))) (some (.str "abcdefghijklmnopqrstuvwxyz")) (((dr3.trans dr4).trans dr5).new np) (folk_of sqT_new)
        (by show (isSmall (97 + one) && isSmall (97 + other) && decide (97 + one ≠ 97 + other)) = true
            rw [isSmall_of (by omega) (by omega), isSmall_of (by omega) (by omega), decide_eq_true (by omega)]; rfl) (fun x y hxy => by cases hxy; omega)
      walk_at "w"
      refine w_append g1 g2 ?_
      walk_at "w"
      exact g3
    · have ho3 : H3 o = some (.lst xs) := dr3.at ho neo
      walk_at "w"
      refine ⟨b, rfl, dr3.b1, fun v f H4 dr4 hfc hf hv => ?_⟩
      obtain ⟨xs5, g1, g2, g3⟩ := app _ v f (some (.int (0 + (i : Int)))) y5 y6 y7 (dr3.trans dr4) hv hf (fun x y hxy => by obtain ⟨_, _, _, z⟩ := hfc; rw [z] at hxy; cases hxy)
      walk_at "w"
      refine w_append g1 g2 ?_
      walk_at "w"
      exact g3
  · rintro σ H2 ⟨y4, y5, y6, y7, r, xs, rfl, dr, ho, hx, hl, hok, hsm⟩
    walk_at "w"
    refine w_tupL (sqL_at ho) fun l nl => ?_
    refine q (.ref l) r _ (dr.new nl) (by rw [hl, Int.toNat_natCast]; omega) hok hsm (.tup sqT_new ((same_new nl).dpAll _ _ hx))
end
end HH

namespace HH
open PySem PySem.Spec L2
local macro_rules | `(tactic| walk_at "cy") => `(tactic| first
  | assumption
  | exact L2.upd_same
  | exact L2.sqL_new
  | exact L2.sqT_new
  | exact L2.sqL_at (by assumption)
  | exact L2.sqT_at (by assumption)
  | (refine' L2.Same.seq (by assumption) ?k0; (case k0 => walk_at "cy"))
  | (refine' L2.Same.sqT (by assumption) ?k0; (case k0 => walk_at "cy"))
  | (refine' L2.Same.dat (by assumption) ?k0; (case k0 => walk_at "cy"))
  | (refine' (by assumption : L2.Same _ _) _ _ ?k0; (case k0 => walk_at "cy"))
  | (refine' L2.Same.seq (L2.same_new (by assumption)) ?k0; (case k0 => walk_at "cy"))
  | (refine' L2.Same.sqT (L2.same_new (by assumption)) ?k0; (case k0 => walk_at "cy"))
  | (refine' L2.Same.dat (L2.same_new (by assumption)) ?k0; (case k0 => walk_at "cy"))
  | (refine' L2.same_new (by assumption) _ _ ?k0; (case k0 => walk_at "cy"))
  | (refine' L2.Mv.sqT (by assumption) ?k0; (case k0 => walk_at "cy")))
local macro_rules | `(tactic| walk_at "w") => `(tactic| repeat (first
  | refine HH.stp ?_
  | with_reducible refine L2.iteT ?_
  | with_reducible refine L2.iteF ?_
  | ((with_reducible refine' HH.w_gtup ?k1 ?k2 ?_); (case k1 => walk_at "cy"); (case k2 => exact rfl))
  | ((with_reducible refine' HH.w_ixT ?k1 ?k2 ?_); (case k1 => walk_at "cy"); (case k2 => exact rfl))
  | ((with_reducible refine' HH.w_ixL ?k1 ?k2 ?_); (case k1 => walk_at "cy"); (case k2 => exact rfl))
  | ((with_reducible refine' HH.w_lenL ?k1 ?_); (case k1 => walk_at "cy"))
  | ((with_reducible refine' HH.w_lenT ?k1 ?_); (case k1 => walk_at "cy"))
  | ((with_reducible refine' HH.w_exT ?k1 ?_); (case k1 => walk_at "cy"))
  | ((with_reducible refine' HH.w_exL ?k1 ?_); (case k1 => walk_at "cy"))
  | ((with_reducible refine' HH.w_tyL ?k1 ?_); (case k1 => walk_at "cy"))
  | ((with_reducible refine' HH.w_setL ?k1 ?k2 ?_); (case k1 => walk_at "cy"); (case k2 => exact rfl))
  | ((with_reducible refine' HH.w_modI ?k1 ?_); (case k1 => first | (with_reducible assumption) | omega))
  | ((with_reducible refine' HH.w_divI ?k1 ?_); (case k1 => (constructor <;> omega)))))
local macro_rules | `(tactic| walk_at "v") => `(tactic| ((repeat ((fail_if_success (with_reducible refine HH.isIf ?_)); first
  | refine HH.stp ?_
  | with_reducible refine L2.iteT ?_
  | with_reducible refine L2.iteF ?_
  | ((with_reducible refine' HH.w_gtup ?k1 ?k2 ?_); (case k1 => walk_at "cy"); (case k2 => exact rfl))
  | ((with_reducible refine' HH.w_ixT ?k1 ?k2 ?_); (case k1 => walk_at "cy"); (case k2 => exact rfl))
  | ((with_reducible refine' HH.w_ixL ?k1 ?k2 ?_); (case k1 => walk_at "cy"); (case k2 => exact rfl))
  | ((with_reducible refine' HH.w_lenL ?k1 ?_); (case k1 => walk_at "cy"))
  | ((with_reducible refine' HH.w_lenT ?k1 ?_); (case k1 => walk_at "cy"))
  | ((with_reducible refine' HH.w_exT ?k1 ?_); (case k1 => walk_at "cy"))
  | ((with_reducible refine' HH.w_exL ?k1 ?_); (case k1 => walk_at "cy"))
  | ((with_reducible refine' HH.w_tyL ?k1 ?_); (case k1 => walk_at "cy"))
  | ((with_reducible refine' HH.w_setL ?k1 ?k2 ?_); (case k1 => walk_at "cy"); (case k2 => exact rfl))
  | ((with_reducible refine' HH.w_modI ?k1 ?_); (case k1 => first | (with_reducible assumption) | omega))
  | ((with_reducible refine' HH.w_divI ?k1 ?_); (case k1 => (constructor <;> omega)))))); (try (with_reducible refine HH.isIf ?_)))
theorem kind_nh (tw : Bool) : ¬ (kindOf tw = "hears") := by cases tw <;> decide +kernel
theorem kind_d : kindOf false = "drop" := rfl
theorem kind_nd : ¬ (kindOf true = "drop") := by decide +kernel
theorem fitDs_of : ∀ {ds : List PyData}, (∀ d ∈ ds, fitD d = true) → fitDs ds = true
  | [], _ => rfl
  | d :: ds, h => by
    show (fitD d && fitDs ds) = true
    rw [h d List.mem_cons_self, fitDs_of fun e he => h e (List.mem_cons_of_mem _ he)]
    rfl
theorem fit_folk (f : Folk) : fitD (folkD f) = true := by
  cases f with
  | hears a b =>
    show (decide ((Str.ofString "hears").length ≤ 10000) && (decide ((sg a).length ≤ 10000) && (decide ((sg b).length ≤ 10000) && true))) = true
    rw [decide_eq_true (by decide +kernel), decide_eq_true (by show 1 ≤ 10000; decide), decide_eq_true (by show 1 ≤ 10000; decide)]
    rfl
  | ctr tw e c =>
    show (decide ((kindOf tw).length ≤ 10000) && (true && (true && true))) = true
    rw [decide_eq_true (by cases tw <;> decide +kernel)]
    rfl
theorem fit_row (r : Row) : fitD (rowD r) = true := fitDs_of fun d hd => by
  obtain ⟨f, _, rfl⟩ := List.mem_map.mp hd
  exact fit_folk f
theorem isLetter_sg {c : Nat} (h : isSmall c = true) : isLetterD (.str (sg c)) = true := by
  show (decide ((sg c).length = 1) && isSmall c) = true
  rw [decide_eq_true (lenS_sg c), h]
  rfl
theorem sg_inj {a b : Nat} (h : sg a = sg b) : a = b := by
  have : (#[a] : Array Nat) = #[b] := congrArg Str.cps h
  simpa using this
theorem isOne_of {f : Folk} (h : f.ok = true) : isOneD (folkD f) = true := by
  cases f with
  | hears a b =>
    have h' : (isSmall a && isSmall b && decide (a ≠ b)) = true := h
    simp only [Bool.and_eq_true, decide_eq_true_eq] at h'
    rw [show isOneD (folkD (.hears a b)) = (isLetterD (.str (sg a)) && (isLetterD (.str (sg b)) && !PyData.eqv (.str (sg a)) (.str (sg b)))) from rfl, isLetter_sg h'.1.1, isLetter_sg h'.1.2, eqv_str, decide_eq_false fun z => h'.2 (sg_inj z)]
    rfl
  | ctr tw e c =>
    have h' : (decide (2 ≤ e) && decide (e ≤ 6) && decide (c < e)) = true := h
    simp only [Bool.and_eq_true, decide_eq_true_eq] at h'
    have hk : kindOf tw = "drop" ∨ kindOf tw = "twice" := by cases tw <;> simp [kindOf]
    rw [show isOneD (folkD (.ctr tw e c)) = ((decide ((2 : Int) ≤ (e : Nat)) && decide (((e : Nat) : Int) ≤ 6)) && (decide ((0 : Int) ≤ (c : Nat)) && decide (((c : Nat) : Int) ≤ (e : Nat) - 1))) from (if_neg (kind_nh tw)).trans (if_pos hk), decide_eq_true (by omega), decide_eq_true (by omega), decide_eq_true (by omega), decide_eq_true (by omega)]
    rfl
theorem isRow_of {r : Row} (h : Row.Ok r) : isRowD (rowD r) = true := by
  show (decide ((r.map folkD).length ≤ 4) && (r.map folkD).all isOneD) = true
  rw [List.length_map, decide_eq_true h.1, Bool.true_and, List.all_eq_true]
  intro d hd
  obtain ⟨f, hf, rfl⟩ := List.mem_map.mp hd
  exact isOne_of (h.2 f hf)
theorem rok_of {r : Row} (h : Row.Ok r) : rok r := fun f hf => fok_of (h.2 f hf)
section
variable (K : PySem.W.Frag)
def sp_passed : Sp := fun vs H Q _ => ∃ (x : V) (f : Folk) (n : Nat), vs = [x, .int (n : Nat)] ∧ Dp K H x (folkD f) ∧ fok f ∧ Q (.int (passed f n : Nat)) H
def sp_wanted : Sp := fun vs H Q _ => ∃ (x : V) (f : Folk) (n : Nat), vs = [x, .int (n : Nat)] ∧ Dp K H x (folkD f) ∧ fok f ∧ Q (.int (wanted f n : Nat)) H
def sp_all_come : Sp := fun vs H Q _ => ∃ (x : V) (r : Row) (n : Nat), vs = [x, .int (n : Nat)] ∧ Dp K H x (rowD r) ∧ rok r ∧ Q (.int (allCome r n : Nat)) H
def sp_fewest_signs : Sp := fun vs H Q _ => ∃ (x : V) (r : Row) (n : Nat), vs = [x, .int (n : Nat)] ∧ Dp K H x (rowD r) ∧ rok r ∧ ∀ H', Same H H' → Q (.int (fewest r n : Nat)) H'
def sp_need_many (_ : PySem.W.Frag) : Sp := fun vs H Q _ => ∃ (n m : Int), vs = [.int n, .int m] ∧ 0 ≤ n ∧ n ≤ m ∧ Q .non H
def sp_come : Sp := fun vs H Q _ => ∃ (x : V) (r : Row) (n : Nat), vs = [x, .int (n : Nat)] ∧ Dp K H x (rowD r) ∧ Row.Ok r ∧ n ≤ 1000000000000000 ∧ ∀ H', Same H H' → Q (.int (allCome r n : Nat)) H'
def sp_least_for : Sp := fun vs H Q _ => ∃ (x : V) (r : Row) (n : Nat), vs = [x, .int (n : Nat)] ∧ Dp K H x (rowD r) ∧ Row.Ok r ∧ n ≤ 1000000000000000 ∧ ∀ H', Same H H' → Q (.int (fewest r n : Nat)) H'
theorem len_passed : ∀ vs H Q E, sp_passed K vs H Q E → vs.length = 2 := by rintro _ _ _ _ ⟨_, _, _, rfl, _⟩; rfl
theorem len_wanted : ∀ vs H Q E, sp_wanted K vs H Q E → vs.length = 2 := by rintro _ _ _ _ ⟨_, _, _, rfl, _⟩; rfl
theorem len_all_come : ∀ vs H Q E, sp_all_come K vs H Q E → vs.length = 2 := by rintro _ _ _ _ ⟨_, _, _, rfl, _⟩; rfl
theorem len_fewest_signs : ∀ vs H Q E, sp_fewest_signs K vs H Q E → vs.length = 2 := by rintro _ _ _ _ ⟨_, _, _, rfl, _⟩; rfl
theorem len_need_many : ∀ vs H Q E, sp_need_many K vs H Q E → vs.length = 2 := by rintro _ _ _ _ ⟨_, _, rfl, _⟩; rfl
theorem len_come : ∀ vs H Q E, sp_come K vs H Q E → vs.length = 2 := by rintro _ _ _ _ ⟨_, _, _, rfl, _⟩; rfl
theorem len_least_for : ∀ vs H Q E, sp_least_for K vs H Q E → vs.length = 2 := by rintro _ _ _ _ ⟨_, _, _, rfl, _⟩; rfl
end
def t_passed (K : PySem.W.Frag) : TS :=
  (tSeq (tAsg (tVar 0) (gTup K 3 (gCons (gName 2) (gCons (gName 3) (gCons (gName 4) gNil)))))
  (tSeq (tIfS (tTest (tOp rEq (tVar 2) (tC (.str "hears")))) (tRet (tVar 1)) tNext)
  (tSeq (tAsg (tOp rDivI (tOp rAddI (tVar 1) (tVar 4)) (tVar 3)) (gName 5))
  (tRet (tIf (tTest (tOp rEq (tVar 2) (tC (.str "drop")))) (tOp rSubI (tVar 1) (tVar 5)) (tOp rAddI (tVar 1) (tVar 5)))))))

def t_wanted (K : PySem.W.Frag) : TS :=
  (tSeq (tAsg (tVar 0) (gTup K 3 (gCons (gName 2) (gCons (gName 3) (gCons (gName 4) gNil)))))
  (tSeq (tIfS (tOr (tTest (tOp rEq (tVar 2) (tC (.str "hears")))) (tTest (tOp rEq (tVar 1) (tC (.int 0))))) (tRet (tVar 1)) tNext)
  (tSeq (tAsg (tOp rAddI (tVar 1) (tVar 4)) (gName 5))
  (tSeq (tIfS (tTest (tOp rEq (tVar 2) (tC (.str "drop")))) (tRet (tOp rSubI (tOp rAddI (tVar 5) (tOp rDivI (tOp rSubI (tVar 5) (tC (.int 1))) (tOp rSubI (tVar 3) (tC (.int 1))))) (tVar 4))) tNext)
  (tRet (tOp rSubI (tOp rSubI (tVar 5) (tOp rDivI (tVar 5) (tOp rAddI (tVar 3) (tC (.int 1))))) (tVar 4)))))))

def t_all_come (K : PySem.W.Frag) : TS :=
  (tSeq (tFor (iTup K (tVar 0)) (gName 2)
  (tAsg (tCall (sp_passed K) [] E0 (tCons (tVar 2) (tCons (tVar 1) tNil))) (gName 1)))
  (tRet (tVar 1)))

def t_fewest_signs (K : PySem.W.Frag) : TS :=
  (tSeq (tFor (iTup K (tRevT K (tVar 0))) (gName 2)
  (tAsg (tCall (sp_wanted K) [] E0 (tCons (tVar 2) (tCons (tVar 1) tNil))) (gName 1)))
  (tRet (tVar 1)))

def t_need_many (K : PySem.W.Frag) : TS :=
  (tIfS (tNot (tB (tCall (sp_is_within K) [] E0 (tCons (tVar 0) (tCons (tC (.int 0)) (tCons (tVar 1) tNil)))))) tNever tNext)

def t_come (K : PySem.W.Frag) : TS :=
  (tSeq (tDrop (tCall (sp_need_row K) [] E0 (tCons (tVar 0) tNil)))
  (tSeq (tDrop (tCall (sp_need_many K) [] E0 (tCons (tVar 1) (tCons (tC (.int 1000000000000000)) tNil))))
  (tRet (tCall (sp_all_come K) [] E0 (tCons (tVar 0) (tCons (tVar 1) tNil))))))

def t_least_for (K : PySem.W.Frag) : TS :=
  (tSeq (tDrop (tCall (sp_need_row K) [] E0 (tCons (tVar 0) tNil)))
  (tSeq (tDrop (tCall (sp_need_many K) [] E0 (tCons (tVar 1) (tCons (tC (.int 1000000000000000)) tNil))))
  (tRet (tCall (sp_fewest_signs K) [] E0 (tCons (tVar 0) (tCons (tVar 1) tNil))))))

section
variable (K : PySem.W.Frag)
theorem sem_passed : ∀ vs H Q E, sp_passed K vs H Q E → t_passed K { nx := fun _ H' => Q .non H', rt := Q } (start ["one", "many", "kind", "every", "counted", "some"] vs) H := by
  rintro vs H Q E ⟨x, f, n, rfl, hd, hf, q⟩
  show t_passed K _ [some x, some (.int (n : Nat)), none, none, none, none] H
  unfold t_passed
  obtain ⟨a, rfl, hs⟩ := folk_inv hd
  cases f with
  | hears u v =>
    have hs' : SqT K H a [.str "hears", .str (sg u), .str (sg v)] := hs
    walk_at "w"
    refine w_dT rfl ?_
    walk_at "w"
    exact q
  | ctr tw e c =>
    have hs' : SqT K H a [.str (kindOf tw), .int (e : Nat), .int (c : Nat)] := hs
    obtain ⟨h2, h6, hc⟩ := hf
    walk_at "w"
    refine w_dF (kind_nh tw) ?_
    walk_at "w"
    have e1 : ((n : Int) + (c : Int)) / (e : Int) = (((n + c) / e : Nat) : Int) := rfl
    rw [e1]
    have hle := div_le_self' (n := n) h2 hc
    cases tw with
    | false =>
      refine w_dT kind_d ?_
      walk_at "w"
      have q' : Q (.int ((n - (n + c) / e : Nat) : Int)) H := q
      rw [Int.ofNat_sub hle] at q'
      exact q'
    | true =>
      refine w_dF kind_nd ?_
      walk_at "w"
      exact q
theorem sem_wanted : ∀ vs H Q E, sp_wanted K vs H Q E → t_wanted K { nx := fun _ H' => Q .non H', rt := Q } (start ["one", "many", "kind", "every", "counted", "among"] vs) H := by
  rintro vs H Q E ⟨x, f, n, rfl, hd, hf, q⟩
  show t_wanted K _ [some x, some (.int (n : Nat)), none, none, none, none] H
  unfold t_wanted
  obtain ⟨a, rfl, hs⟩ := folk_inv hd
  cases f with
  | hears u v =>
    have hs' : SqT K H a [.str "hears", .str (sg u), .str (sg v)] := hs
    walk_at "w"
    refine w_dT rfl ?_
    walk_at "w"
    exact q
  | ctr tw e c =>
    have hs' : SqT K H a [.str (kindOf tw), .int (e : Nat), .int (c : Nat)] := hs
    obtain ⟨h2, h6, hc⟩ := hf
    walk_at "w"
    refine w_dF (kind_nh tw) ?_
    walk_at "w"
    by_cases h0 : n = 0
    · subst h0
      refine w_dT rfl ?_
      walk_at "w"
      exact q
    · refine w_dF (by omega) ?_
      walk_at "w"
      cases tw with
      | false =>
        refine w_dT kind_d ?_
        walk_at "w"
        have ew : wanted (.ctr false e c) n = (n + c) + (n + c - 1) / (e - 1) - c := by
          show (if n = 0 then 0 else (n + c) + (n + c - 1) / (e - 1) - c) = _
          rw [if_neg h0]
        rw [ew] at q
        have e1 : ((n : Int) + (c : Int) - 1) / ((e : Int) - 1) = (((n + c - 1) / (e - 1) : Nat) : Int) := by
          rw [show ((n : Int) + (c : Int) - 1) = ((n + c - 1 : Nat) : Int) by omega, show ((e : Int) - 1) = ((e - 1 : Nat) : Int) by omega]
          rfl
        have e2 : (n : Int) + (c : Int) + ((n : Int) + (c : Int) - 1) / ((e : Int) - 1) - (c : Int) = ((n + c + (n + c - 1) / (e - 1) - c : Nat) : Int) := by
          rw [e1]
          generalize (n + c - 1) / (e - 1) = k
          omega
        rw [← e2] at q
        exact q
      | true =>
        refine w_dF kind_nd ?_
        walk_at "w"
        have ew : wanted (.ctr true e c) n = (n + c) - (n + c) / (e + 1) - c := by
          show (if n = 0 then 0 else (n + c) - (n + c) / (e + 1) - c) = _
          rw [if_neg h0]
        rw [ew] at q
        have e1 : ((n : Int) + (c : Int)) / ((e : Int) + 1) = (((n + c) / (e + 1) : Nat) : Int) := rfl
        have hle : (n + c) / (e + 1) ≤ n := by
          have := div_le_self' (n := n) (c := c) (e := e + 1) (by omega) (by omega)
          exact this
        have e2 : (n : Int) + (c : Int) - ((n : Int) + (c : Int)) / ((e : Int) + 1) - (c : Int) = ((n + c - (n + c) / (e + 1) - c : Nat) : Int) := by
          rw [e1]
          generalize (n + c) / (e + 1) = k at hle
          omega
        rw [← e2] at q
        exact q
theorem allCome_take : ∀ (r : Row) (i : Nat) (f : Folk) (n : Nat), r[i]? = some f → allCome (r.take (i + 1)) n = passed f (allCome (r.take i) n)
  | [], _, _, _, h => by simp at h
  | g :: r, 0, f, n, h => by
    cases (Option.some.inj h : g = f)
    rfl
  | g :: r, i + 1, f, n, h => allCome_take r i f (passed g n) h
theorem sem_all_come : ∀ vs H Q E, sp_all_come K vs H Q E → t_all_come K { nx := fun _ H' => Q .non H', rt := Q } (start ["row", "many", "one"] vs) H := by
  rintro vs H Q E ⟨x, r, n, rfl, hd, hr, q⟩
  show t_all_come K _ [some x, some (.int (n : Nat)), none] H
  unfold t_all_come
  obtain ⟨a, xs, rfl, hs, ha⟩ := dp_tup hd
  walk_at "w"
  have hl : xs.length = r.length := by rw [ha.len, List.length_map]
  refine for_tup (xs := xs) (fun i σ H1 => ∃ y, σ = [some (.ref a), some (.int (allCome (r.take i) n : Nat)), y] ∧ H1 = H) ⟨none, rfl, rfl⟩ (fun i σ H1 _ p => by obtain ⟨y, _, rfl⟩ := p; exact hs) ?_ ?_
  · rintro i x σ H1 hx ⟨y, rfl, rfl⟩
    obtain ⟨d, hd', dd⟩ := ha.get hx
    obtain ⟨f, hf, rfl⟩ : ∃ f, r[i]? = some f ∧ folkD f = d := by
      rw [List.getElem?_map] at hd'
      cases e : r[i]? with
      | none => rw [e] at hd'; cases hd'
      | some f => rw [e] at hd'; cases hd'; exact ⟨f, rfl, rfl⟩
    walk_at "w"
    refine ⟨x, f, _, rfl, dd, hr f (List.mem_of_getElem? hf), ?_⟩
    walk_at "w"
    exact ⟨_, by rw [allCome_take r i f n hf], rfl⟩
  · rintro σ H1 ⟨y, rfl, rfl⟩
    walk_at "w"
    rw [hl, List.take_length]
    exact q
theorem fewest_rev : ∀ (r : Row) (i : Nat) (f : Folk) (n : Nat), r[r.length - 1 - i]? = some f → i < r.length → fewest (r.drop (r.length - (i + 1))) n = wanted f (fewest (r.drop (r.length - i)) n) := by
  intro r i f n h hi
  have e : r.length - (i + 1) = r.length - 1 - i := by omega
  have hlt : r.length - 1 - i < r.length := by omega
  have ef : r[r.length - 1 - i] = f := by rw [List.getElem?_eq_getElem hlt] at h; exact Option.some.inj h
  rw [e, List.drop_eq_getElem_cons hlt, show r.length - 1 - i + 1 = r.length - i by omega, ef]
  rfl
theorem sem_fewest_signs : ∀ vs H Q E, sp_fewest_signs K vs H Q E → t_fewest_signs K { nx := fun _ H' => Q .non H', rt := Q } (start ["row", "many", "one"] vs) H := by
  rintro vs H Q E ⟨x, r, n, rfl, hd, hr, q⟩
  show t_fewest_signs K _ [some x, some (.int (n : Nat)), none] H
  unfold t_fewest_signs
  obtain ⟨a, xs, rfl, hs, ha⟩ := dp_tup hd
  walk_at "w"
  refine ⟨.ref a, rfl, a, xs, rfl, hs, fun p np => ?_⟩
  have hl : xs.length = r.length := by rw [ha.len, List.length_map]
  walk_at "w"
  refine for_tup (xs := xs.reverse) (fun i σ H1 => ∃ y, σ = [some (.ref a), some (.int (fewest (r.drop (r.length - i)) n : Nat)), y] ∧ H1 = upd H p (.tup xs.reverse)) ⟨none, by rw [Nat.sub_zero, List.drop_length]; rfl, rfl⟩ (fun i σ H1 _ z => by obtain ⟨y, _, rfl⟩ := z; exact sqT_new) ?_ ?_
  · rintro i x σ H1 hx ⟨y, rfl, rfl⟩
    have hi : i < r.length := by
      have := (List.getElem?_eq_some_iff.mp hx).1
      rw [List.length_reverse] at this
      omega
    rw [List.getElem?_reverse (by omega)] at hx
    rw [hl] at hx
    obtain ⟨d, hd', dd⟩ := ha.get hx
    obtain ⟨f, hf, rfl⟩ : ∃ f, r[r.length - 1 - i]? = some f ∧ folkD f = d := by
      rw [List.getElem?_map] at hd'
      cases e : r[r.length - 1 - i]? with
      | none => rw [e] at hd'; cases hd'
      | some f => rw [e] at hd'; cases hd'; exact ⟨f, rfl, rfl⟩
    walk_at "w"
    refine ⟨x, f, _, rfl, (same_new np).dat dd, hr f (List.mem_of_getElem? hf), ?_⟩
    walk_at "w"
    exact ⟨_, by rw [fewest_rev r i f n hf hi], rfl⟩
  · rintro σ H1 ⟨y, rfl, rfl⟩
    walk_at "w"
    rw [List.length_reverse, hl, Nat.sub_self, List.drop_zero]
    exact q _ (same_new np)
theorem sem_need_many : ∀ vs H Q E, sp_need_many K vs H Q E → t_need_many K { nx := fun _ H' => Q .non H', rt := Q } (start ["many", "most"] vs) H := by
  rintro vs H Q E ⟨n, m, rfl, h0, h1, q⟩
  show t_need_many K _ [some (.int n), some (.int m)] H
  unfold t_need_many
  walk_at "w"
  refine ⟨.int n, 0, m, .int n, rfl, .int n, ?_⟩
  walk_at "w"
  rw [show isWithinD (.int n) 0 m = (decide (0 ≤ n) && decide (n ≤ m)) from rfl, decide_eq_true h0, decide_eq_true h1]
  refine iteF ?_
  walk_at "w"
  exact q
theorem sem_come : ∀ vs H Q E, sp_come K vs H Q E → t_come K { nx := fun _ H' => Q .non H', rt := Q } (start ["row", "many"] vs) H := by
  rintro vs H Q E ⟨x, r, n, rfl, hd, hr, hn, q⟩
  show t_come K _ [some x, some (.int (n : Nat))] H
  unfold t_come
  walk_at "w"
  refine ⟨x, rowD r, rfl, hd, fit_row r, isRow_of hr, fun H1 s1 => ?_⟩
  walk_at "w"
  refine ⟨n, 1000000000000000, rfl, by omega, by omega, ?_⟩
  walk_at "w"
  exact ⟨x, r, n, rfl, s1.dat hd, rok_of hr, q H1 s1⟩
theorem sem_least_for : ∀ vs H Q E, sp_least_for K vs H Q E → t_least_for K { nx := fun _ H' => Q .non H', rt := Q } (start ["row", "many"] vs) H := by
  rintro vs H Q E ⟨x, r, n, rfl, hd, hr, hn, q⟩
  show t_least_for K _ [some x, some (.int (n : Nat))] H
  unfold t_least_for
  walk_at "w"
  refine ⟨x, rowD r, rfl, hd, fit_row r, isRow_of hr, fun H1 s1 => ?_⟩
  walk_at "w"
  refine ⟨n, 1000000000000000, rfl, by omega, by omega, ?_⟩
  walk_at "w"
  exact ⟨x, r, n, rfl, s1.dat hd, rok_of hr, fun H2 s2 => q H2 (s1.trans s2)⟩
end
end HH

namespace HH
open PySem PySem.Spec L2
local macro_rules | `(tactic| walk_at "cy") => `(tactic| first
  | assumption
  | exact L2.upd_same
  | exact L2.sqL_new
  | exact L2.sqT_new
  | exact L2.sqL_at (by assumption)
  | exact L2.sqT_at (by assumption)
  | (refine' L2.Same.seq (by assumption) ?k0; (case k0 => walk_at "cy"))
  | (refine' L2.Same.sqT (by assumption) ?k0; (case k0 => walk_at "cy"))
  | (refine' L2.Same.dat (by assumption) ?k0; (case k0 => walk_at "cy"))
  | (refine' (by assumption : L2.Same _ _) _ _ ?k0; (case k0 => walk_at "cy"))
  | (refine' L2.Same.seq (L2.same_new (by assumption)) ?k0; (case k0 => walk_at "cy"))
  | (refine' L2.Same.sqT (L2.same_new (by assumption)) ?k0; (case k0 => walk_at "cy"))
  | (refine' L2.Same.dat (L2.same_new (by assumption)) ?k0; (case k0 => walk_at "cy"))
  | (refine' L2.same_new (by assumption) _ _ ?k0; (case k0 => walk_at "cy"))
  | (refine' L2.Mv.sqT (by assumption) ?k0; (case k0 => walk_at "cy")))
local macro_rules | `(tactic| walk_at "w") => `(tactic| repeat (first
  | refine HH.stp ?_
  | with_reducible refine L2.iteT ?_
  | with_reducible refine L2.iteF ?_
  | ((with_reducible refine' HH.w_gtup ?k1 ?k2 ?_); (case k1 => walk_at "cy"); (case k2 => exact rfl))
  | ((with_reducible refine' HH.w_ixT ?k1 ?k2 ?_); (case k1 => walk_at "cy"); (case k2 => exact rfl))
  | ((with_reducible refine' HH.w_ixL ?k1 ?k2 ?_); (case k1 => walk_at "cy"); (case k2 => exact rfl))
  | ((with_reducible refine' HH.w_lenL ?k1 ?_); (case k1 => walk_at "cy"))
  | ((with_reducible refine' HH.w_lenT ?k1 ?_); (case k1 => walk_at "cy"))
  | ((with_reducible refine' HH.w_exT ?k1 ?_); (case k1 => walk_at "cy"))
  | ((with_reducible refine' HH.w_exL ?k1 ?_); (case k1 => walk_at "cy"))
  | ((with_reducible refine' HH.w_tyL ?k1 ?_); (case k1 => walk_at "cy"))
  | ((with_reducible refine' HH.w_setL ?k1 ?k2 ?_); (case k1 => walk_at "cy"); (case k2 => exact rfl))
  | ((with_reducible refine' HH.w_modI ?k1 ?_); (case k1 => first | (with_reducible assumption) | omega))
  | ((with_reducible refine' HH.w_divI ?k1 ?_); (case k1 => (constructor <;> omega)))))
local macro_rules | `(tactic| walk_at "v") => `(tactic| ((repeat ((fail_if_success (with_reducible refine HH.isIf ?_)); first
  | refine HH.stp ?_
  | with_reducible refine L2.iteT ?_
  | with_reducible refine L2.iteF ?_
  | ((with_reducible refine' HH.w_gtup ?k1 ?k2 ?_); (case k1 => walk_at "cy"); (case k2 => exact rfl))
  | ((with_reducible refine' HH.w_ixT ?k1 ?k2 ?_); (case k1 => walk_at "cy"); (case k2 => exact rfl))
  | ((with_reducible refine' HH.w_ixL ?k1 ?k2 ?_); (case k1 => walk_at "cy"); (case k2 => exact rfl))
  | ((with_reducible refine' HH.w_lenL ?k1 ?_); (case k1 => walk_at "cy"))
  | ((with_reducible refine' HH.w_lenT ?k1 ?_); (case k1 => walk_at "cy"))
  | ((with_reducible refine' HH.w_exT ?k1 ?_); (case k1 => walk_at "cy"))
  | ((with_reducible refine' HH.w_exL ?k1 ?_); (case k1 => walk_at "cy"))
  | ((with_reducible refine' HH.w_tyL ?k1 ?_); (case k1 => walk_at "cy"))
  | ((with_reducible refine' HH.w_setL ?k1 ?k2 ?_); (case k1 => walk_at "cy"); (case k2 => exact rfl))
  | ((with_reducible refine' HH.w_modI ?k1 ?_); (case k1 => first | (with_reducible assumption) | omega))
  | ((with_reducible refine' HH.w_divI ?k1 ?_); (case k1 => (constructor <;> omega)))))); (try (with_reducible refine HH.isIf ?_)))
/-! ### from mouth to mouth: the law's own reading -/
abbrev vI (cs : List Nat) : List V := cs.map fun c => V.int (c : Nat)
abbrev vS (cs : List Nat) : List V := cs.map fun c => V.str (sg c)
def tx (cs : List Nat) : Str := ⟨cs.toArray⟩
theorem tl_tx (cs : List Nat) : TL.tl (tx cs) = cs := rfl
theorem tx_len (cs : List Nat) : (tx cs).length = cs.length := rfl
theorem tl_inj {a b : Str} (h : TL.tl a = TL.tl b) : a = b := by
  obtain ⟨⟨a⟩⟩ := a
  obtain ⟨⟨b⟩⟩ := b
  cases (h : a = b)
  rfl
theorem joinL_nil : ∀ l : List (List Nat), TL.joinL [] l = l.flatten
  | [] => rfl
  | [p] => (List.append_nil p).symm
  | p :: q :: r => by
    show p ++ ([] ++ TL.joinL [] (q :: r)) = _
    rw [joinL_nil (q :: r)]
    rfl
theorem join_strs (ys : List Str) : Txt.join (Str.ofString "") ys = tx (ys.map TL.tl).flatten := by
  apply tl_inj
  rw [TL.join_eq, TL.tl_join, show TL.tl (Str.ofString "") = [] from by decide +kernel, joinL_nil]
  rfl
theorem flat_sg : ∀ cs : List Nat, ((cs.map sg).map TL.tl).flatten = cs
  | [] => rfl
  | c :: cs => by
    show [c] ++ ((cs.map sg).map TL.tl).flatten = _
    rw [flat_sg cs]
    rfl
theorem sum_ones : ∀ cs : List Nat, ((cs.map sg).map (·.length)).sum = cs.length
  | [] => rfl
  | c :: cs => by
    show 1 + ((cs.map sg).map (·.length)).sum = cs.length + 1
    rw [sum_ones cs, Nat.add_comm]
theorem runOne_len (f : Folk) : ∀ (n : Nat) (ss : List Nat), (runOne f n ss).1.length ≤ 2 * ss.length
  | _, [] => Nat.le_refl _
  | n, s :: ss => by
    have ih := runOne_len f (stepOne f n s).2 ss
    have h1 : (stepOne f n s).1.length ≤ 2 := by
      cases f with
      | hears a b => show 1 ≤ 2; decide
      | ctr tw e c =>
        show (if (n + 1) % e = 0 then (if tw then [s, s] else []) else [s]).length ≤ 2
        split
        · cases tw
          · show 0 ≤ 2; decide
          · show 2 ≤ 2; decide
        · show 1 ≤ 2; decide
    show ((stepOne f n s).1 ++ (runOne f (stepOne f n s).2 ss).1).length ≤ 2 * (ss.length + 1)
    rw [List.length_append]
    omega
theorem runOne_snoc (f : Folk) (n : Nat) (a : List Nat) (s : Nat) : runOne f n (a ++ [s]) = ((runOne f n a).1 ++ (stepOne f (runOne f n a).2 s).1, (stepOne f (runOne f n a).2 s).2) := by
  rw [runOne_app]
  show ((runOne f n a).1 ++ ((stepOne f (runOne f n a).2 s).1 ++ []), _) = _
  rw [List.append_nil]
  rfl
theorem told_snoc : ∀ (r : Row) (cs : List Nat) (f : Folk) (c : Nat) (ss : List Nat), cs.length = r.length → told (r ++ [f]) (cs ++ [c]) ss = ((runOne f c (told r cs ss).1).1, (told r cs ss).2 ++ [(runOne f c (told r cs ss).1).2])
  | [], [], _, _, _, _ => rfl
  | g :: r, d :: cs, f, c, ss, h => by
    have ih := told_snoc r cs f c (runOne g d ss).1 (Nat.succ.inj h)
    show ((told (r ++ [f]) (cs ++ [c]) (runOne g d ss).1).1, (runOne g d ss).2 :: (told (r ++ [f]) (cs ++ [c]) (runOne g d ss).1).2) = _
    rw [ih]
    rfl
  | [], _ :: _, _, _, _, h => by cases h
  | _ :: _, [], _, _, _, h => by cases h
theorem told_len2 : ∀ (r : Row) (cs ss : List Nat), (told r cs ss).1.length ≤ 2 ^ r.length * ss.length
  | [], _, ss => by show ss.length ≤ 1 * ss.length; omega
  | _ :: r, [], ss => by
    show ss.length ≤ 2 ^ (r.length + 1) * ss.length
    exact Nat.le_mul_of_pos_left _ (Nat.two_pow_pos _)
  | f :: r, c :: cs, ss => by
    have ih := told_len2 r cs (runOne f c ss).1
    have h := runOne_len f c ss
    show (told r cs (runOne f c ss).1).1.length ≤ 2 ^ (r.length + 1) * ss.length
    have : 2 ^ r.length * (runOne f c ss).1.length ≤ 2 ^ r.length * (2 * ss.length) := Nat.mul_le_mul_left _ h
    rw [Nat.pow_succ, Nat.mul_assoc]
    omega
theorem at_mid {cs1 rest : List Nat} {n i : Nat} (h : cs1.length = i) : atI (vI (cs1 ++ n :: rest)) (i : Int) = some (.int (n : Nat)) := by
  refine at_of rfl ?_
  rw [List.getElem?_map, List.getElem?_append_right (by omega), h, Nat.sub_self]
  rfl
theorem ixN_nat {n i : Nat} (h : i < n) : ixN n (i : Int) = some i := by
  unfold ixN
  rw [if_pos (by omega), if_pos (by omega)]
  rfl
theorem set_mid {cs1 rest : List Nat} {n m i : Nat} (h : cs1.length = i) : (vI (cs1 ++ n :: rest)).set i (.int (m : Nat)) = vI (cs1 ++ m :: rest) := by
  unfold vI
  rw [List.map_append, List.map_append, List.set_append_right _ _ (by rw [List.length_map]; omega), List.length_map, h, Nat.sub_self]
  rfl
theorem w_rep {H : Hp} {l : Addr} {k : Int} {xs : List V} {Q : VK} (h : H l = some (.lst xs)) (h1 : -(2 ^ 63) ≤ k) (h2 : k < 2 ^ 63) (z : xs.length * k.toNat ≤ sizeLine) (q : ∀ p, H p = none → Q (.ref p) (upd H p (.lst (List.replicate k.toNat xs).flatten))) : rRep (.ref l) (.int k) H Q :=
  ⟨l, k, xs, rfl, rfl, h, h1, h2, z, q⟩
section
variable (K : PySem.W.Frag)
def sp_l_begun : Sp := fun vs H Q _ => ∃ (x : V) (r : Row), vs = [x] ∧ Dp K H x (rowD r) ∧ r.length ≤ 1000 ∧ ∀ (H' : Hp) (p : Addr), Same H H' → H p = none → H' p = some (.lst (vI (begun r))) → Q (.ref p) H'
def sp_l_told_on : Sp := fun vs H Q _ => ∃ (x : V) (r : Row) (cl : Addr) (cs : List Nat) (s : Nat), vs = [x, .ref cl, .str (sg s)] ∧ Dp K H x (rowD r) ∧ rok r ∧ r.length ≤ 6 ∧ cs.length = r.length ∧ H cl = some (.lst (vI cs)) ∧
  ∀ H', Mv cl H H' → H' cl = some (.lst (vI (told r cs [s]).2)) → Q (.str (tx (told r cs [s]).1)) H'
theorem len_l_begun : ∀ vs H Q E, sp_l_begun K vs H Q E → vs.length = 1 := by rintro _ _ _ _ ⟨_, _, rfl, _⟩; rfl
theorem len_l_told_on : ∀ vs H Q E, sp_l_told_on K vs H Q E → vs.length = 3 := by rintro _ _ _ _ ⟨_, _, _, _, _, rfl, _⟩; rfl
theorem row_get {H : Hp} {xs : List V} {r : Row} {i : Nat} {x : V} (ha : DpAll K H xs (r.map folkD)) (hx : xs[i]? = some x) : ∃ f, r[i]? = some f ∧ Dp K H x (folkD f) := by
  obtain ⟨d, hd', dd⟩ := ha.get hx
  rw [List.getElem?_map] at hd'
  cases e : r[i]? with
  | none => rw [e] at hd'; cases hd'
  | some f => rw [e] at hd'; cases hd'; exact ⟨f, rfl, dd⟩
end
def t_l_begun (K : PySem.W.Frag) : TS :=
  (tRet (tLc (iTup K (tVar 0)) (gName 1) tYes (tIf (tTest (tOp rEq (tOp (rIxT K) (tVar 1) (tC (.int 0))) (tC (.str "hears")))) (tC (.int 0)) (tOp (rIxT K) (tVar 1) (tC (.int 2)))) [1]))

def t_l_told_on (K : PySem.W.Frag) : TS :=
  (tSeq (tAsg (tLst (tCons (tVar 2) tNil)) (gName 3))
  (tSeq (tFor (iEnumT K (tCons (tVar 0) tNil)) (gTup K 2 (gCons (gName 4) (gCons (gTup K 3 (gCons (gName 5) (gCons (gName 6) (gCons (gName 7) gNil)))) gNil)))
  (tSeq (tAsg (tLst tNil) (gName 8))
  (tSeq (tFor (iList K (tVar 3)) (gName 9)
  (tIfS (tTest (tOp rEq (tVar 5) (tC (.str "hears")))) (tDrop (tBM K "list" rAppend (tVar 8) (tCons (tIf (tTest (tOp rEq (tVar 9) (tVar 6))) (tVar 7) (tVar 9)) tNil))) (tSeq (tAsg (tOp rModI (tOp rAddI (tOp (rIxL K) (tVar 1) (tVar 4)) (tC (.int 1))) (tVar 6)) (gSub (tVar 1) (tVar 4) rSetL))
  (tSeq (tAsg (tC (.int 1)) (gName 10))
  (tSeq (tIfS (tTest (tOp rEq (tOp (rIxL K) (tVar 1) (tVar 4)) (tC (.int 0)))) (tAsg (tIf (tTest (tOp rEq (tVar 5) (tC (.str "drop")))) (tC (.int 0)) (tC (.int 2))) (gName 10)) tNext)
  (tAsg (tOp rCat (tVar 8) (tOp rRep (tLst (tCons (tVar 9) tNil)) (tVar 10))) (gName 8)))))))
  (tAsg (tVar 8) (gName 3)))))
  (tRet (tM1 (rJoin K) (tC (.str "")) (tVar 3)))))

section
variable (K : PySem.W.Frag)
theorem sem_l_begun : ∀ vs H Q E, sp_l_begun K vs H Q E → t_l_begun K { nx := fun _ H' => Q .non H', rt := Q } (start ["house", "one"] vs) H := by
  rintro vs H Q E ⟨x, r, rfl, hd, hl, q⟩
  show t_l_begun K _ [some x, none] H
  unfold t_l_begun
  obtain ⟨a, xs, rfl, hs, ha⟩ := dp_tup hd
  walk_at "w"
  intro D nD
  have hlx : xs.length = r.length := by rw [ha.len, List.length_map]
  refine lc_same (walk_tup (K := K) (a := a) (xs := xs)) nD [some (.ref a), none] rfl (fun i => vI (begun (r.take i))) rfl (fun H1 s => s.sqT hs) (fun i x H1 H1' hi p y => ?_) (fun H1 s hD => ?_)
  · obtain ⟨rfl, hx⟩ := y
    obtain ⟨f, hf, dd⟩ := row_get K ha hx
    obtain ⟨b, rfl, hb⟩ := folk_inv (p.1.dat dd)
    walk_at "w"
    refine ⟨rfl, ?_⟩
    walk_at "w"
    have hz : (vI (begun (r.take i))).length < sizeLine := szLt _ (by rw [List.length_map]; unfold begun; rw [List.length_map, List.length_take]; omega)
    have he : vI (begun (r.take (i + 1))) = vI (begun (r.take i)) ++ [V.int (f.begun : Nat)] := by
      unfold begun vI
      rw [List.take_add_one, hf, List.map_append, List.map_append]
      rfl
    cases f with
    | hears u v =>
      have hb' : SqT K H1' b [.str "hears", .str (sg u), .str (sg v)] := hb
      walk_at "w"
      refine w_dT rfl ?_
      walk_at "w"
      exact lc_put nD p (Same.refl _) hz he
    | ctr tw e c =>
      have hb' : SqT K H1' b [.str (kindOf tw), .int (e : Nat), .int (c : Nat)] := hb
      walk_at "w"
      refine w_dF (kind_nh tw) ?_
      walk_at "w"
      exact lc_put nD p (Same.refl _) hz he
  · rw [hlx, List.take_length] at hD
    exact q H1 D s nD hD
theorem mv_mut {H H1 : Hp} {cl lt : Addr} {o : HO} (m : Mv cl H H1) (n : H lt = none) (ne : cl ≠ lt) : Mv cl H (upd H1 lt o) := by
  obtain ⟨xs, h⟩ := m.l1
  exact ⟨fun a u na e => by rw [upd_ne (ne_of_none e n)]; exact m.but a u na e, m.l0, xs, by rw [upd_ne ne]; exact h⟩
theorem flat_one {α : Type} {x : α} : ∀ m : Nat, (List.replicate m [x]).flatten = List.replicate m x
  | 0 => rfl
  | m + 1 => by
    show [x] ++ (List.replicate m [x]).flatten = x :: List.replicate m x
    rw [flat_one m]
    rfl
theorem sem_l_told_on : ∀ vs H Q E, sp_l_told_on K vs H Q E → t_l_told_on K { nx := fun _ H' => Q .non H', rt := Q } (start ["house", "counts", "sign", "signs", "place", "kind", "one", "other", "later", "letter", "copies"] vs) H := by
  rintro vs H Q E ⟨x, r, cl, cs, s, rfl, hd, hr, hr6, hcs, hcl, q⟩
  show t_l_told_on K _ [some x, some (.ref cl), some (.str (sg s)), none, none, none, none, none, none, none, none] H
  unfold t_l_told_on
  obtain ⟨a, xs, rfl, hs, ha⟩ := dp_tup hd
  walk_at "w"
  refine ⟨szOk 1, fun sl0 nsl0 => ?_⟩
  walk_at "w"
  have hlx : xs.length = r.length := by rw [ha.len, List.length_map]
  refine ⟨a, xs, rfl, (same_new nsl0).sqT hs, ?_⟩
  refine for_it (walk_enumT (K := K) (a := a) (xs := xs)) (fun i σ H1 => ∃ (y4 y5 y6 y7 y8 y9 y10 : Option V) (sl : Addr), σ = [some (.ref a), some (.ref cl), some (.str (sg s)), some (.ref sl), y4, y5, y6, y7, y8, y9, y10] ∧
      Mv cl H H1 ∧ H sl = none ∧ H1 sl = some (.lst (vS (told (r.take i) (cs.take i) [s]).1)) ∧ H1 cl = some (.lst (vI ((told (r.take i) (cs.take i) [s]).2 ++ cs.drop i)))) ?_ ?_ ?_ ?_
  · exact ⟨none, none, none, none, none, none, none, sl0, rfl, .of_same (same_new nsl0) hcl, nsl0, upd_same, (same_new nsl0) _ _ hcl⟩
  · rintro i σ H1 hi ⟨y4, y5, y6, y7, y8, y9, y10, sl, rfl, mv, nsl, hsl, hcl1⟩
    exact mv.sqT hs
  · rintro i v σ H1 H1' hi ⟨y4, y5, y6, y7, y8, y9, y10, sl, rfl, mv, nsl, hsl, hcl1⟩ ⟨T, x1, x2, rfl, nT, rfl, hx1, hx2⟩
    cases hx1
    obtain ⟨f, hf, dd⟩ := row_get K ha hx2
    have hir : i < r.length := by omega
    have dd1 := mv.tp.dp _ _ (noL_folk f) dd
    obtain ⟨b, rfl, hb⟩ := folk_inv dd1
    have hbT : SqT K (upd H1 T (.tup [.int (i : Nat), .ref b])) b (folkV f) := (same_new nT).sqT hb
    have hcT : (upd H1 T (.tup [.int (i : Nat), .ref b])) cl = some (.lst (vI ((told (r.take i) (cs.take i) [s]).2 ++ cs.drop i))) := (same_new nT) _ _ hcl1
    have hsT : (upd H1 T (.tup [.int (i : Nat), .ref b])) sl = some (.lst (vS (told (r.take i) (cs.take i) [s]).1)) := (same_new nT) _ _ hsl
    have mvT : Mv cl H (upd H1 T (.tup [.int (i : Nat), .ref b])) := mv.same (same_new nT)
    have htT : SqT K (upd H1 T (.tup [.int (i : Nat), .ref b])) T [.int (i : Nat), .ref b] := sqT_new
    generalize (upd H1 T (.tup [.int (i : Nat), .ref b])) = H2 at hbT hcT hsT mvT htT
    obtain ⟨c, hc⟩ : ∃ c, cs[i]? = some c := ⟨cs[i]'(by omega), List.getElem?_eq_getElem (by omega)⟩
    have hdrop : cs.drop i = c :: cs.drop (i + 1) := by
      rw [List.drop_eq_getElem_cons (by omega)]
      congr 1
      rw [List.getElem?_eq_getElem (by omega)] at hc
      exact Option.some.inj hc
    generalize htd : told (r.take i) (cs.take i) [s] = td at hcT hsT
    obtain ⟨ss, cs1⟩ := td
    have hcs1 : cs1.length = i := by
      have := told_len (r.take i) (cs.take i) [s]
      rw [htd] at this
      have h2 : cs1.length = (cs.take i).length := this
      rw [h2, List.length_take]
      omega
    have hss : ss.length ≤ 64 := by
      have h1 := told_len2 (r.take i) (cs.take i) [s]
      rw [htd] at h1
      have h2 : ss.length ≤ 2 ^ (r.take i).length * 1 := h1
      rw [List.length_take, Nat.min_eq_left (by omega), Nat.mul_one] at h2
      have h3 : 2 ^ i ≤ 2 ^ 6 := Nat.pow_le_pow_right (by decide) (by omega)
      exact Nat.le_trans h2 h3
    have hnext : told (r.take (i + 1)) (cs.take (i + 1)) [s] = ((runOne f c ss).1, cs1 ++ [(runOne f c ss).2]) := by
      rw [List.take_add_one, List.take_add_one, hf, hc]
      have := told_snoc (r.take i) (cs.take i) f c [s] (by rw [List.length_take, List.length_take]; omega)
      rw [htd] at this
      exact this
    rw [show ((ss, cs1) : List Nat × List Nat).2 = cs1 from rfl, hdrop] at hcT
    replace hsT : H2 sl = some (.lst (vS ss)) := hsT
    clear hsl hcl1 mv nT htd
    -- the inner loop, for one of either kind
    have inner : ∀ (y5 y6 y7 : Option V) (w5 w6 w7 : V) (D : Ends) (tb : TS),
        (∀ (j : Nat) (lt : Addr) (acc : List Nat) (n : Nat) (y9 y10 : Option V) (s' : Nat) (H3 : Hp) (D' : Ends), ss[j]? = some s' → runOne f c (ss.take j) = (acc, n) → Mv cl H H3 → H3 sl = some (.lst (vS ss)) → H lt = none → lt ≠ sl → H3 lt = some (.lst (vS acc)) → H3 cl = some (.lst (vI (cs1 ++ n :: cs.drop (i + 1)))) →
          (∀ (lt' : Addr) (y10' : Option V) (H4 : Hp), Mv cl H H4 → H4 sl = some (.lst (vS ss)) → H lt' = none → lt' ≠ sl → H4 lt' = some (.lst (vS (acc ++ (stepOne f n s').1))) → H4 cl = some (.lst (vI (cs1 ++ (stepOne f n s').2 :: cs.drop (i + 1)))) → D'.nx [some (.ref a), some (.ref cl), some (.str (sg s)), some (.ref sl), some (.int (i : Nat)), some w5, some w6, some w7, some (.ref lt'), some (.str (sg s')), y10'] H4) →
          tb D' [some (.ref a), some (.ref cl), some (.str (sg s)), some (.ref sl), some (.int (i : Nat)), some w5, some w6, some w7, some (.ref lt), some (.str (sg s')), y10] H3) →
        (∀ (lt : Addr) (y9 y10 : Option V) (H3 : Hp), Mv cl H H3 → H lt = none → H3 lt = some (.lst (vS (runOne f c ss).1)) → H3 cl = some (.lst (vI (cs1 ++ (runOne f c ss).2 :: cs.drop (i + 1)))) → D.nx [some (.ref a), some (.ref cl), some (.str (sg s)), some (.ref sl), some (.int (i : Nat)), some w5, some w6, some w7, some (.ref lt), y9, y10] H3) →
        ∀ (lt0 : Addr) (nlt : H2 lt0 = none), tFor (iList K (tVar 3)) (gName 9) tb D [some (.ref a), some (.ref cl), some (.str (sg s)), some (.ref sl), some (.int (i : Nat)), some w5, some w6, some w7, some (.ref lt0), y9, y10] (upd H2 lt0 (.lst [])) := by
      intro _ _ _ w5 w6 w7 D tb hturn hdone lt0 nlt
      have hsl0 : (upd H2 lt0 (.lst [])) sl = some (.lst (vS ss)) := (same_new nlt) _ _ hsT
      walk_at "w"
      refine for_list (xs := vS ss) (fun j σ H3 => ∃ (lt : Addr) (y9 y10 : Option V), σ = [some (.ref a), some (.ref cl), some (.str (sg s)), some (.ref sl), some (.int (i : Nat)), some w5, some w6, some w7, some (.ref lt), y9, y10] ∧
        Mv cl H H3 ∧ H3 sl = some (.lst (vS ss)) ∧ H lt = none ∧ lt ≠ sl ∧ H3 lt = some (.lst (vS (runOne f c (ss.take j)).1)) ∧ H3 cl = some (.lst (vI (cs1 ++ (runOne f c (ss.take j)).2 :: cs.drop (i + 1))))) ?_ ?_ ?_ ?_
      · exact ⟨lt0, y9, y10, rfl, mvT.same (same_new nlt), hsl0, mvT.none nlt, (ne_of_none hsT nlt).symm, upd_same, (same_new nlt) _ _ hcT⟩
      · rintro j σ H3 hj ⟨lt, y9, y10, rfl, m3, h3, n3, ne3, l3, c3⟩
        exact sqL_at h3
      · rintro j v σ H3 hv ⟨lt, y9, y10, rfl, m3, h3, n3, ne3, l3, c3⟩
        obtain ⟨s', hs', rfl⟩ : ∃ s', ss[j]? = some s' ∧ V.str (sg s') = v := by
          rw [List.getElem?_map] at hv
          cases e : ss[j]? with
          | none => rw [e] at hv; cases hv
          | some s' => rw [e] at hv; cases hv; exact ⟨s', rfl, rfl⟩
        walk_at "w"
        refine hturn j lt _ _ y9 y10 s' H3 _ hs' rfl m3 h3 n3 ne3 l3 c3 fun lt' y10' H4 m4 h4 n4 ne4 l4 c4 => ?_
        have hn : runOne f c (ss.take (j + 1)) = ((runOne f c (ss.take j)).1 ++ (stepOne f (runOne f c (ss.take j)).2 s').1, (stepOne f (runOne f c (ss.take j)).2 s').2) := by
          rw [List.take_add_one, hs']
          exact runOne_snoc _ _ _ _
        exact ⟨lt', _, y10', rfl, m4, h4, n4, ne4, by rw [hn]; exact l4, by rw [hn]; exact c4⟩
      · rintro σ H3 ⟨lt, y9, y10, rfl, m3, h3, n3, ne3, l3, c3⟩
        rw [show (vS ss).length = ss.length from List.length_map _, List.take_length] at l3 c3
        exact hdone lt y9 y10 H3 m3 n3 l3 c3
    -- what follows the turn
    have fin : ∀ (y4 y5 y6 y7 y9 y10 : Option V) (lt : Addr) (H3 : Hp), Mv cl H H3 → H lt = none → H3 lt = some (.lst (vS (runOne f c ss).1)) → H3 cl = some (.lst (vI (cs1 ++ (runOne f c ss).2 :: cs.drop (i + 1)))) →
        ∃ (y4' y5' y6' y7' y8' y9' y10' : Option V) (sl' : Addr), [some (.ref a), some (.ref cl), some (.str (sg s)), some (.ref lt), y4, y5, y6, y7, some (.ref lt), y9, y10] = [some (.ref a), some (.ref cl), some (.str (sg s)), some (.ref sl'), y4', y5', y6', y7', y8', y9', y10'] ∧
      Mv cl H H3 ∧ H sl' = none ∧ H3 sl' = some (.lst (vS (told (r.take (i + 1)) (cs.take (i + 1)) [s]).1)) ∧ H3 cl = some (.lst (vI ((told (r.take (i + 1)) (cs.take (i + 1)) [s]).2 ++ cs.drop (i + 1)))) := by
      intro y4 y5 y6 y7 y9 y10 lt H3 m3 n3 l3 c3
      refine ⟨y4, y5, y6, y7, _, y9, y10, lt, rfl, m3, n3, ?_, ?_⟩
      · rw [hnext]; exact l3
      · rw [hnext]
        show H3 cl = some (.lst (vI (cs1 ++ [(runOne f c ss).2] ++ cs.drop (i + 1))))
        rw [List.append_assoc]
        exact c3
    cases f with
    | hears u v =>
      have hb' : SqT K H2 b [.str "hears", .str (sg u), .str (sg v)] := hbT
      walk_at "w"
      refine ⟨szOk 0, fun lt0 nlt => ?_⟩
      refine stp ?_
      refine stp ?_
      refine inner none none none _ _ _ _ _ ?_ ?_ lt0 nlt
      · intro j lt acc n y9 y10 s' H3 D' hs' hrun m3 h3 n3 ne3 l3 c3 k
        have hacc : acc.length ≤ 128 := by
          have h1 := runOne_len (.hears u v) c (ss.take j)
          rw [hrun] at h1
          have h2 : acc.length ≤ 2 * (ss.take j).length := h1
          rw [List.length_take] at h2
          omega
        have hz : (vS acc).length < sizeLine := szLt _ (by rw [List.length_map]; omega)
        have necl : cl ≠ lt := ne_of_none hcl n3
        have put : ∀ (t : Nat), (stepOne (.hears u v) n s').1 = [t] → D'.nx [some (.ref a), some (.ref cl), some (.str (sg s)), some (.ref sl), some (.int (i : Nat)), some (.str "hears"), some (.str (sg u)), some (.str (sg v)), some (.ref lt), some (.str (sg s')), y10] (upd H3 lt (.lst (vS acc ++ [.str (sg t)]))) := fun t ht =>
          k lt y10 _ (mv_mut m3 n3 necl) (by rw [upd_ne ne3.symm]; exact h3) n3 ne3 (by rw [upd_same, ht]; unfold vS; rw [List.map_append]; rfl) (by rw [upd_ne necl]; exact c3)
        walk_at "w"
        refine w_dT rfl ?_
        walk_at "w"
        refine w_ifB (fun e => ?_) (fun e => ?_)
        · walk_at "w"
          refine w_append l3 hz ?_
          walk_at "w"
          have e' : s' = u := sg_inj (bT e)
          exact put v (by show [if s' = u then v else s'] = [v]; rw [if_pos e'])
        · walk_at "w"
          refine w_append l3 hz ?_
          walk_at "w"
          have e' : ¬ s' = u := fun h => (bF e) (congrArg sg h)
          exact put s' (by show [if s' = u then v else s'] = [s']; rw [if_neg e'])
      · intro lt y9 y10 H3 m3 n3 l3 c3
        walk_at "w"
        exact fin _ _ _ _ y9 y10 lt H3 m3 n3 l3 c3
    | ctr tw e c0 =>
      have hb' : SqT K H2 b [.str (kindOf tw), .int (e : Nat), .int (c0 : Nat)] := hbT
      have he2 : 2 ≤ e := (hr _ (List.mem_of_getElem? hf) : fok (.ctr tw e c0)).1
      walk_at "w"
      refine ⟨szOk 0, fun lt0 nlt => ?_⟩
      refine stp ?_
      refine stp ?_
      refine inner none none none _ _ _ _ _ ?_ ?_ lt0 nlt
      · intro j lt acc n y9 y10 s' H3 D' hs' hrun m3 h3 n3 ne3 l3 c3 k
        have hacc : acc.length ≤ 128 := by
          have h1 := runOne_len (.ctr tw e c0) c (ss.take j)
          rw [hrun] at h1
          have h2 : acc.length ≤ 2 * (ss.take j).length := h1
          rw [List.length_take] at h2
          omega
        have necl : cl ≠ lt := ne_of_none hcl n3
        have nesl : sl ≠ cl := (ne_of_none hcl nsl).symm
        walk_at "w"
        refine w_dF (kind_nh tw) ?_
        walk_at "w"
        refine w_ixL (sqL_at c3) (at_mid hcs1) ?_
        walk_at "w"
        have hcsz : (vI (cs1 ++ n :: cs.drop (i + 1))).length = r.length := by
          unfold vI
          rw [List.length_map, List.length_append, List.length_cons, List.length_drop, hcs1]
          omega
        refine w_setL c3 (ixN_nat (by rw [hcsz]; omega)) ?_
        have e1 : ((n : Int) + 1) % (e : Int) = (((n + 1) % e : Nat) : Int) := rfl
        rw [e1, set_mid hcs1]
        have hst : stepOne (.ctr tw e c0) n s' = (if (n + 1) % e = 0 then (if tw then [s', s'] else []) else [s'], (n + 1) % e) := rfl
        rw [hst] at k
        generalize hn' : (n + 1) % e = n' at k
        have m4 : Mv cl H (upd H3 cl (.lst (vI (cs1 ++ n' :: cs.drop (i + 1))))) := m3.set
        have h4 : (upd H3 cl (.lst (vI (cs1 ++ n' :: cs.drop (i + 1))))) sl = some (.lst (vS ss)) := by rw [upd_ne nesl]; exact h3
        have l4 : (upd H3 cl (.lst (vI (cs1 ++ n' :: cs.drop (i + 1))))) lt = some (.lst (vS acc)) := by rw [upd_ne necl.symm]; exact l3
        have c4 : (upd H3 cl (.lst (vI (cs1 ++ n' :: cs.drop (i + 1))))) cl = some (.lst (vI (cs1 ++ n' :: cs.drop (i + 1)))) := upd_same
        generalize (upd H3 cl (.lst (vI (cs1 ++ n' :: cs.drop (i + 1))))) = H4 at m4 h4 l4 c4
        have tailk : ∀ (m : Nat), m ≤ 2 → (if n' = 0 then (if tw then [s', s'] else []) else [s']) = List.replicate m s' → tAsg (tOp rCat (tVar 8) (tOp rRep (tLst (tCons (tVar 9) tNil)) (tVar 10))) (gName 8) D'
            [some (.ref a), some (.ref cl), some (.str (sg s)), some (.ref sl), some (.int (i : Nat)), some (.str (kindOf tw)), some (.int (e : Nat)), some (.int (c0 : Nat)), some (.ref lt), some (.str (sg s')), some (.int (m : Nat))] H4 := by
          intro m hm hrep
          walk_at "w"
          refine ⟨szOk 1, fun p1 np1 => ?_⟩
          walk_at "w"
          refine w_rep upd_same (by omega) (by omega) (szOk _ (by show 1 * m ≤ _; omega)) fun p2 np2 => ?_
          have l5 : (upd (upd H4 p1 (.lst [.str (sg s')])) p2 (.lst (List.replicate m [V.str (sg s')]).flatten)) lt = some (.lst (vS acc)) := (same_new np2) _ _ ((same_new np1) _ _ l4)
          refine w_cat l5 upd_same (szOk _ ?_) fun p3 np3 => ?_
          · unfold vS
            rw [List.length_map, List.length_flatten, List.map_replicate, List.sum_replicate_nat]
            show acc.length + m * 1 ≤ _
            omega
          · have sm := ((same_new (o := .lst [V.str (sg s')]) np1).trans (same_new (o := .lst (List.replicate m [V.str (sg s')]).flatten) np2)).trans (same_new (o := .lst (vS acc ++ (List.replicate m [V.str (sg s')]).flatten)) np3)
            walk_at "w"
            refine k p3 _ _ (m4.same sm) (sm _ _ h4) (m4.none ((same_new np1).free ((same_new np2).free np3))) ?_ ?_ (sm _ _ c4)
            · exact (ne_of_none (sm _ _ h4 |> fun _ => ((same_new np2) _ _ ((same_new np1) _ _ h4))) np3).symm
            · show (upd _ p3 _) p3 = _
              rw [upd_same]
              show _ = some (HO.lst (vS (acc ++ (if n' = 0 then (if tw then [s', s'] else []) else [s']))))
              rw [hrep]
              unfold vS
              rw [List.map_append, List.map_replicate]
              congr 3
              exact flat_one m
        walk_at "w"
        refine w_ixL (sqL_at c4) (at_mid hcs1) ?_
        walk_at "w"
        by_cases hz : n' = 0
        · refine w_dT (by omega) ?_
          walk_at "w"
          cases tw with
          | false =>
            refine w_dT kind_d ?_
            refine stp ?_
            refine stp ?_
            exact tailk 0 (by decide) (by rw [if_pos hz]; rfl)
          | true =>
            refine w_dF kind_nd ?_
            refine stp ?_
            refine stp ?_
            exact tailk 2 (by decide) (by rw [if_pos hz]; rfl)
        · refine w_dF (by omega) ?_
          refine stp ?_
          exact tailk 1 (by decide) (by rw [if_neg hz]; rfl)
      · intro lt y9 y10 H3 m3 n3 l3 c3
        walk_at "w"
        exact fin _ _ _ _ y9 y10 lt H3 m3 n3 l3 c3
  · rintro σ H1 ⟨y4, y5, y6, y7, y8, y9, y10, sl, rfl, mv, nsl, hsl, hcl1⟩
    rw [hlx, List.take_length, show r.length = cs.length from hcs.symm, List.take_length, List.drop_length, List.append_nil] at hcl1
    rw [hlx, List.take_length, show r.length = cs.length from hcs.symm, List.take_length] at hsl
    walk_at "w"
    refine w_joinQ ((told r cs [s]).1.map sg) (sqL_at (by rw [hsl, List.map_map]; rfl)) ?_ ?_
    · rw [sum_ones, List.length_map]
      have h1 := told_len2 r cs [s]
      have h3 : 2 ^ r.length ≤ 2 ^ 6 := Nat.pow_le_pow_right (by decide) hr6
      have h4 : [s].length = 1 := rfl
      rw [h4, Nat.mul_one] at h1
      have h5 : (Str.ofString "").length = 0 := by decide +kernel
      rw [h5, Nat.mul_zero]
      omega
    · rw [join_strs, flat_sg]
      exact q H1 mv hcl1
end
end HH

namespace HH
open PySem PySem.Spec L2
local macro_rules | `(tactic| walk_at "cy") => `(tactic| first
  | assumption
  | exact L2.upd_same
  | exact L2.sqL_new
  | exact L2.sqT_new
  | exact L2.sqL_at (by assumption)
  | exact L2.sqT_at (by assumption)
  | (refine' L2.Same.seq (by assumption) ?k0; (case k0 => walk_at "cy"))
  | (refine' L2.Same.sqT (by assumption) ?k0; (case k0 => walk_at "cy"))
  | (refine' L2.Same.dat (by assumption) ?k0; (case k0 => walk_at "cy"))
  | (refine' (by assumption : L2.Same _ _) _ _ ?k0; (case k0 => walk_at "cy"))
  | (refine' L2.Same.seq (L2.same_new (by assumption)) ?k0; (case k0 => walk_at "cy"))
  | (refine' L2.Same.sqT (L2.same_new (by assumption)) ?k0; (case k0 => walk_at "cy"))
  | (refine' L2.Same.dat (L2.same_new (by assumption)) ?k0; (case k0 => walk_at "cy"))
  | (refine' L2.same_new (by assumption) _ _ ?k0; (case k0 => walk_at "cy"))
  | (refine' L2.Mv.sqT (by assumption) ?k0; (case k0 => walk_at "cy")))
local macro_rules | `(tactic| walk_at "w") => `(tactic| repeat (first
  | refine HH.stp ?_
  | with_reducible refine L2.iteT ?_
  | with_reducible refine L2.iteF ?_
  | ((with_reducible refine' HH.w_gtup ?k1 ?k2 ?_); (case k1 => walk_at "cy"); (case k2 => exact rfl))
  | ((with_reducible refine' HH.w_ixT ?k1 ?k2 ?_); (case k1 => walk_at "cy"); (case k2 => exact rfl))
  | ((with_reducible refine' HH.w_ixL ?k1 ?k2 ?_); (case k1 => walk_at "cy"); (case k2 => exact rfl))
  | ((with_reducible refine' HH.w_lenL ?k1 ?_); (case k1 => walk_at "cy"))
  | ((with_reducible refine' HH.w_lenT ?k1 ?_); (case k1 => walk_at "cy"))
  | ((with_reducible refine' HH.w_exT ?k1 ?_); (case k1 => walk_at "cy"))
  | ((with_reducible refine' HH.w_exL ?k1 ?_); (case k1 => walk_at "cy"))
  | ((with_reducible refine' HH.w_tyL ?k1 ?_); (case k1 => walk_at "cy"))
  | ((with_reducible refine' HH.w_setL ?k1 ?k2 ?_); (case k1 => walk_at "cy"); (case k2 => exact rfl))
  | ((with_reducible refine' HH.w_modI ?k1 ?_); (case k1 => first | (with_reducible assumption) | omega))
  | ((with_reducible refine' HH.w_divI ?k1 ?_); (case k1 => (constructor <;> omega)))))
local macro_rules | `(tactic| walk_at "v") => `(tactic| ((repeat ((fail_if_success (with_reducible refine HH.isIf ?_)); first
  | refine HH.stp ?_
  | with_reducible refine L2.iteT ?_
  | with_reducible refine L2.iteF ?_
  | ((with_reducible refine' HH.w_gtup ?k1 ?k2 ?_); (case k1 => walk_at "cy"); (case k2 => exact rfl))
  | ((with_reducible refine' HH.w_ixT ?k1 ?k2 ?_); (case k1 => walk_at "cy"); (case k2 => exact rfl))
  | ((with_reducible refine' HH.w_ixL ?k1 ?k2 ?_); (case k1 => walk_at "cy"); (case k2 => exact rfl))
  | ((with_reducible refine' HH.w_lenL ?k1 ?_); (case k1 => walk_at "cy"))
  | ((with_reducible refine' HH.w_lenT ?k1 ?_); (case k1 => walk_at "cy"))
  | ((with_reducible refine' HH.w_exT ?k1 ?_); (case k1 => walk_at "cy"))
  | ((with_reducible refine' HH.w_exL ?k1 ?_); (case k1 => walk_at "cy"))
  | ((with_reducible refine' HH.w_tyL ?k1 ?_); (case k1 => walk_at "cy"))
  | ((with_reducible refine' HH.w_setL ?k1 ?k2 ?_); (case k1 => walk_at "cy"); (case k2 => exact rfl))
  | ((with_reducible refine' HH.w_modI ?k1 ?_); (case k1 => first | (with_reducible assumption) | omega))
  | ((with_reducible refine' HH.w_divI ?k1 ?_); (case k1 => (constructor <;> omega)))))); (try (with_reducible refine HH.isIf ?_)))
/-! ### rows by slices and sums -/
section
variable {K : PySem.W.Frag} {H : Hp} {Q : VK} {x y : V} {r r2 : Row}
theorem cutV_to (xs : List V) (k : Nat) : cutV xs none (some (k : Int)) = xs.take k := by
  unfold cutV
  rw [HT.sIx_none, HT.sIx_nat, List.drop_zero, Nat.sub_zero]
  rcases Nat.le_total k xs.length with h | h
  · rw [Nat.min_eq_left h]
  · rw [Nat.min_eq_right h, List.take_length, List.take_of_length_le h]
theorem cutV_from (xs : List V) (k : Nat) : cutV xs (some (k : Int)) none = xs.drop k := by
  unfold cutV
  rw [HT.sIx_none, HT.sIx_nat]
  rcases Nat.le_total k xs.length with h | h
  · rw [Nat.min_eq_left h, List.take_of_length_le (by rw [List.length_drop]; exact Nat.le_refl _)]
  · rw [Nat.min_eq_right h, List.drop_length, List.drop_of_length_le h]
    simp
theorem cutV_mid (xs : List V) (i j : Nat) : cutV xs (some (i : Int)) (some (j : Int)) = (xs.take j).drop i := by
  unfold cutV
  rw [HT.sIx_nat, HT.sIx_nat, List.drop_take]
  rcases Nat.le_total j xs.length with h | h
  · rw [Nat.min_eq_left h]
    rcases Nat.le_total i xs.length with h2 | h2
    · rw [Nat.min_eq_left h2]
    · rw [Nat.min_eq_right h2, List.drop_length, List.drop_of_length_le h2]
      simp
  · rw [Nat.min_eq_right h]
    rcases Nat.le_total i xs.length with h2 | h2
    · rw [Nat.min_eq_left h2, List.take_of_length_le (by rw [List.length_drop]; omega), List.take_of_length_le (by rw [List.length_drop]; omega)]
    · rw [Nat.min_eq_right h2, List.drop_length, List.drop_of_length_le h2]
      simp
theorem w_slR_to {k : Nat} (h : Dp K H x (rowD r)) (q : ∀ v H', Same H H' → Dp K H' v (rowD (r.take k)) → Q v H') : rSlA K x none (some (k : Int)) H Q := by
  obtain ⟨a, xs, rfl, hs, ha⟩ := dp_tup h
  have hl : xs.length = r.length := by rw [ha.len, List.length_map]
  refine ⟨a, xs, rfl, hs, fun z => ?_, fun z p np => ?_⟩
  · rw [HT.sIx_nat] at z
    have : r.take k = r := List.take_of_length_le (by omega)
    exact q _ _ (Same.refl H) (by rw [this]; exact h)
  · rw [cutV_to]
    refine q _ _ (same_new np) (.tup sqT_new ((same_new np).dpAll _ _ ?_))
    rw [List.map_take]
    exact ha.take k
theorem w_slR_from {k : Nat} (h : Dp K H x (rowD r)) (q : ∀ v H', Same H H' → Dp K H' v (rowD (r.drop k)) → Q v H') : rSlA K x (some (k : Int)) none H Q := by
  obtain ⟨a, xs, rfl, hs, ha⟩ := dp_tup h
  have hl : xs.length = r.length := by rw [ha.len, List.length_map]
  refine ⟨a, xs, rfl, hs, fun z => ?_, fun z p np => ?_⟩
  · rw [HT.sIx_nat] at z
    by_cases h0 : k = 0
    · subst h0
      exact q _ _ (Same.refl H) h
    · have : r = [] := List.length_eq_zero_iff.mp (by omega)
      subst this
      exact q _ _ (Same.refl H) (by rw [List.drop_nil]; exact h)
  · rw [cutV_from]
    refine q _ _ (same_new np) (.tup sqT_new ((same_new np).dpAll _ _ ?_))
    rw [List.map_drop]
    exact ha.drop k
theorem w_catR (h : Dp K H x (rowD r)) (h2 : Dp K H y (rowD r2)) (hz : r.length + r2.length ≤ 10000) (q : ∀ v H', Same H H' → Dp K H' v (rowD (r ++ r2)) → Q v H') : rCatA K x y H Q := by
  obtain ⟨a, xs, rfl, hs, ha⟩ := dp_tup h
  obtain ⟨b, ys, rfl, hs2, hb⟩ := dp_tup h2
  have hl : xs.length = r.length := by rw [ha.len, List.length_map]
  have hl2 : ys.length = r2.length := by rw [hb.len, List.length_map]
  refine ⟨a, b, xs, ys, rfl, rfl, hs, hs2, szOk _ (by omega), fun z => ?_, fun _ z => ?_, fun _ _ p np => ?_⟩
  · subst z
    have : r = [] := List.length_eq_zero_iff.mp hl.symm
    subst this
    exact q _ _ (Same.refl H) h2
  · subst z
    have : r2 = [] := List.length_eq_zero_iff.mp hl2.symm
    subst this
    exact q _ _ (Same.refl H) (by rw [List.append_nil]; exact h)
  · refine q _ _ (same_new np) (.tup sqT_new ((same_new np).dpAll _ _ ?_))
    rw [List.map_append]
    exact ha.app hb
theorem w_lenR (h : Dp K H x (rowD r)) (q : Q (.int (r.length : Nat)) H) : rLenQ K [x] H Q := by
  obtain ⟨a, xs, rfl, hs, ha⟩ := dp_tup h
  have hl : xs.length = r.length := by rw [ha.len, List.length_map]
  rw [← hl] at q
  exact ⟨a, xs, rfl, .inr hs, q⟩
theorem vI_map (cs : List Nat) : vI cs = (cs.map fun c : Nat => (c : Int)).map V.int := by
  unfold vI
  rw [List.map_map]
  rfl
theorem sum_cast : ∀ cs : List Nat, (cs.map fun c : Nat => (c : Int)).sum = ((cs.sum : Nat) : Int)
  | [] => rfl
  | c :: cs => by
    rw [List.map_cons, List.sum_cons, List.sum_cons, sum_cast cs]
    rfl
theorem w_sum {p : Addr} {cs : List Nat} (h : SqL K H p (vI cs)) (q : Q (.int (cs.sum : Nat)) H) : rSum K [.ref p] H Q := by
  rw [← sum_cast] at q
  rw [vI_map] at h
  exact ⟨p, _, rfl, h, q⟩
theorem w_slI_to {p : Addr} {cs : List Nat} {k : Nat} (h : SqL K H p (vI cs)) (q : ∀ o, H o = none → Q (.ref o) (upd H o (.lst (vI (cs.take k))))) : rSlL K (.ref p) none (some (k : Int)) H Q := by
  refine ⟨p, _, rfl, h, fun o no => ?_⟩
  rw [cutV_to]
  have := q o no
  unfold vI at this ⊢
  rw [List.map_take] at this
  exact this
theorem w_slI_from {p : Addr} {cs : List Nat} {k : Nat} (h : SqL K H p (vI cs)) (q : ∀ o, H o = none → Q (.ref o) (upd H o (.lst (vI (cs.drop k))))) : rSlL K (.ref p) (some (k : Int)) none H Q := by
  refine ⟨p, _, rfl, h, fun o no => ?_⟩
  rw [cutV_from]
  have := q o no
  unfold vI at this ⊢
  rw [List.map_drop] at this
  exact this
theorem w_slI_mid {p : Addr} {cs : List Nat} {i j : Nat} (h : SqL K H p (vI cs)) (q : ∀ o, H o = none → Q (.ref o) (upd H o (.lst (vI ((cs.take j).drop i))))) : rSlL K (.ref p) (some (i : Int)) (some (j : Int)) H Q := by
  refine ⟨p, _, rfl, h, fun o no => ?_⟩
  rw [cutV_mid]
  have := q o no
  unfold vI at this ⊢
  rw [List.map_drop, List.map_take] at this
  exact this
theorem Dr.vI {b p : Addr} {H1 : Hp} {cs : List Nat} (s : Dr K b H H1) (h : H p = some (.lst (vI cs))) : H1 p = some (.lst (vI cs)) := by
  rw [vI_map] at h ⊢
  exact s.ints' h
theorem w_neB {b c : Bool} (h : Q (.bl (!bD (b = c))) H) : rNe (.bl b) (.bl c) H Q := ⟨rfl, by rw [show decide (V.bl b = V.bl c) = bD (b = c) from by rw [bD_eq]; exact decide_eq_decide.mpr ⟨V.bl.inj, congrArg _⟩]; exact h⟩
theorem w_eqB {b c : Bool} (h : Q (.bl (bD (b = c))) H) : rEq (.bl b) (.bl c) H Q := ⟨rfl, by rw [show decide (V.bl b = V.bl c) = bD (b = c) from by rw [bD_eq]; exact decide_eq_decide.mpr ⟨V.bl.inj, congrArg _⟩]; exact h⟩
end
section
variable (K : PySem.W.Frag)
def sp_l_copies : Sp := fun vs H Q _ => ∃ (x : V) (r : Row) (n : Nat), vs = [x, .int (n : Nat)] ∧ Dp K H x (rowD r) ∧ rok r ∧ r.length ≤ 6 ∧ n ≤ 100000 ∧
  ∀ (H' : Hp) (p f c : Addr), Same H H' → H' p = some (.tup [.ref f, .ref c]) → H f = none → H' f = some (.lst (vI (copies r n))) → Q (.ref p) H'
def sp_law : Sp := fun vs H Q _ => ∃ (a : Addr) (ns : List Int), vs = [.ref a] ∧ SqL K H a (ns.map V.int) ∧ ns.length ≤ 63 ∧ ∀ H', Q (.bl true) H'
theorem len_l_copies : ∀ vs H Q E, sp_l_copies K vs H Q E → vs.length = 2 := by rintro _ _ _ _ ⟨_, _, _, rfl, _⟩; rfl
theorem len_law : ∀ vs H Q E, sp_law K vs H Q E → vs.length = 1 := by rintro _ _ _ _ ⟨_, _, rfl, _⟩; rfl
end
def t_l_copies (K : PySem.W.Frag) : TS :=
  (tSeq (tPar 2 3 (tCons (tCall (sp_l_begun K) [] E0 (tCons (tVar 0) tNil)) (tCons (tLst tNil) tNil)))
  (tSeq (tFor (iRng1 (tCons (tVar 1) tNil)) (gName 4)
  (tDrop (tBM K "list" rAppend (tVar 3) (tCons (tCB rLenT (tCons (tCall (sp_l_told_on K) [] E0 (tCons (tVar 0) (tCons (tVar 2) (tCons (tC (.str "q")) tNil)))) tNil)) tNil))))
  (tRet (tTup (tCons (tVar 3) (tCons (tVar 2) tNil))))))

section
variable (K : PySem.W.Frag)
theorem q_sg : Str.ofString "q" = sg 113 := by decide +kernel
theorem sem_l_copies : ∀ vs H Q E, sp_l_copies K vs H Q E → t_l_copies K { nx := fun _ H' => Q .non H', rt := Q } (start ["house", "many", "counts", "found", "turn"] vs) H := by
  rintro vs H Q E ⟨x, r, n, rfl, hd, hr, hl, hn, q⟩
  show t_l_copies K _ [some x, some (.int (n : Nat)), none, none, none] H
  unfold t_l_copies
  walk_at "w"
  refine ⟨x, r, rfl, hd, by omega, fun H1 cl s1 ncl hcl => ?_⟩
  walk_at "w"
  refine ⟨szOk 0, fun fo nfo => ?_⟩
  walk_at "w"
  refine ⟨(n : Nat), rfl, by omega, by omega, ?_⟩
  have nfo' : H fo = none := s1.free nfo
  have ne : fo ≠ cl := (ne_of_none hcl nfo).symm
  refine for_range (lo := 0) (n := ((n : Nat) : Int).toNat) (fun i σ H2 => ∃ y4, σ = [some x, some (.int (n : Nat)), some (.ref cl), some (.ref fo), y4] ∧ Same H H2 ∧ H2 cl = some (.lst (vI (feed r (begun r) (qs i)).2)) ∧ H2 fo = some (.lst (vI ((feed r (begun r) (qs i)).1.map List.length)))) ?_ ?_ ?_
  · exact ⟨none, rfl, s1.trans (same_new nfo), (same_new nfo) _ _ hcl, upd_same⟩
  · rintro i σ H2 hi ⟨y4, rfl, sm, hc, hf⟩
    rw [Int.toNat_natCast] at hi
    walk_at "w"
    have hlen : (feed r (begun r) (qs i)).2.length = r.length := by
      have := congrArg Prod.snd (feed_told r (qs i) (begun r))
      have h2 : (feed r (begun r) (qs i)).2 = (told r (begun r) (qs i)).2 := this
      rw [h2, told_len]
      exact List.length_map _
    have hqs : feed r (begun r) (qs (i + 1)) = ((feed r (begun r) (qs i)).1 ++ [(told r (feed r (begun r) (qs i)).2 [113]).1], (told r (feed r (begun r) (qs i)).2 [113]).2) := by
      rw [show qs (i + 1) = qs i ++ [113] from List.replicate_succ', feed_app]
      rfl
    refine ⟨x, r, cl, (feed r (begun r) (qs i)).2, 113, by rw [q_sg]; rfl, sm.dat hd, hr, hl, hlen, hc, fun H3 mv hc3 => ?_⟩
    walk_at "w"
    have h64 : (told r (feed r (begun r) (qs i)).2 [113]).1.length ≤ 64 := by
      have h1 := told_len2 r (feed r (begun r) (qs i)).2 [113]
      have h3 : 2 ^ r.length ≤ 2 ^ 6 := Nat.pow_le_pow_right (by decide) hl
      have h4 : [113].length = 1 := rfl
      rw [h4, Nat.mul_one] at h1
      omega
    have hf3 := mv.but _ _ ne hf
    have sm3 : Same H H3 := fun a o e => mv.but a o (ne_of_none e ncl) (sm _ _ e)
    refine w_lenS (szOk _ (by rw [tx_len]; omega)) ?_
    walk_at "w"
    refine w_append hf3 (szLt _ (by unfold vI; rw [List.length_map, List.length_map, feed_len]; show (qs i).length < _; unfold qs; rw [List.length_replicate]; omega)) ?_
    walk_at "w"
    refine ⟨_, rfl, same_mut sm3 nfo', ?_, ?_⟩
    · rw [upd_ne ne.symm, hqs]
      exact hc3
    · rw [upd_same, hqs]
      unfold vI
      rw [List.map_append, List.map_append, tx_len]
      rfl
  · rintro σ H2 ⟨y4, rfl, sm, hc, hf⟩
    walk_at "w"
    refine ⟨szOk 2, fun p np => ?_⟩
    rw [Int.toNat_natCast] at hc hf
    exact q _ p fo cl (sm.trans (same_new np)) upd_same nfo' ((same_new np) _ _ hf)
end
end HH

namespace HH
open PySem PySem.Spec L2
local macro_rules | `(tactic| walk_at "cy") => `(tactic| first
  | assumption
  | exact L2.upd_same
  | exact L2.sqL_new
  | exact L2.sqT_new
  | exact L2.sqL_at (by assumption)
  | exact L2.sqT_at (by assumption)
  | (refine' L2.Same.seq (by assumption) ?k0; (case k0 => walk_at "cy"))
  | (refine' L2.Same.sqT (by assumption) ?k0; (case k0 => walk_at "cy"))
  | (refine' L2.Same.dat (by assumption) ?k0; (case k0 => walk_at "cy"))
  | (refine' (by assumption : L2.Same _ _) _ _ ?k0; (case k0 => walk_at "cy"))
  | (refine' L2.Same.seq (L2.same_new (by assumption)) ?k0; (case k0 => walk_at "cy"))
  | (refine' L2.Same.sqT (L2.same_new (by assumption)) ?k0; (case k0 => walk_at "cy"))
  | (refine' L2.Same.dat (L2.same_new (by assumption)) ?k0; (case k0 => walk_at "cy"))
  | (refine' L2.same_new (by assumption) _ _ ?k0; (case k0 => walk_at "cy"))
  | (refine' L2.Mv.sqT (by assumption) ?k0; (case k0 => walk_at "cy")))
local macro_rules | `(tactic| walk_at "w") => `(tactic| repeat (first
  | refine HH.stp ?_
  | with_reducible refine L2.iteT ?_
  | with_reducible refine L2.iteF ?_
  | ((with_reducible refine' HH.w_gtup ?k1 ?k2 ?_); (case k1 => walk_at "cy"); (case k2 => exact rfl))
  | ((with_reducible refine' HH.w_ixT ?k1 ?k2 ?_); (case k1 => walk_at "cy"); (case k2 => exact rfl))
  | ((with_reducible refine' HH.w_ixL ?k1 ?k2 ?_); (case k1 => walk_at "cy"); (case k2 => exact rfl))
  | ((with_reducible refine' HH.w_lenL ?k1 ?_); (case k1 => walk_at "cy"))
  | ((with_reducible refine' HH.w_lenT ?k1 ?_); (case k1 => walk_at "cy"))
  | ((with_reducible refine' HH.w_exT ?k1 ?_); (case k1 => walk_at "cy"))
  | ((with_reducible refine' HH.w_exL ?k1 ?_); (case k1 => walk_at "cy"))
  | ((with_reducible refine' HH.w_tyL ?k1 ?_); (case k1 => walk_at "cy"))
  | ((with_reducible refine' HH.w_setL ?k1 ?k2 ?_); (case k1 => walk_at "cy"); (case k2 => exact rfl))
  | ((with_reducible refine' HH.w_modI ?k1 ?_); (case k1 => first | (with_reducible assumption) | omega))
  | ((with_reducible refine' HH.w_divI ?k1 ?_); (case k1 => (constructor <;> omega)))))
local macro_rules | `(tactic| walk_at "v") => `(tactic| ((repeat ((fail_if_success (with_reducible refine HH.isIf ?_)); first
  | refine HH.stp ?_
  | with_reducible refine L2.iteT ?_
  | with_reducible refine L2.iteF ?_
  | ((with_reducible refine' HH.w_gtup ?k1 ?k2 ?_); (case k1 => walk_at "cy"); (case k2 => exact rfl))
  | ((with_reducible refine' HH.w_ixT ?k1 ?k2 ?_); (case k1 => walk_at "cy"); (case k2 => exact rfl))
  | ((with_reducible refine' HH.w_ixL ?k1 ?k2 ?_); (case k1 => walk_at "cy"); (case k2 => exact rfl))
  | ((with_reducible refine' HH.w_lenL ?k1 ?_); (case k1 => walk_at "cy"))
  | ((with_reducible refine' HH.w_lenT ?k1 ?_); (case k1 => walk_at "cy"))
  | ((with_reducible refine' HH.w_exT ?k1 ?_); (case k1 => walk_at "cy"))
  | ((with_reducible refine' HH.w_exL ?k1 ?_); (case k1 => walk_at "cy"))
  | ((with_reducible refine' HH.w_tyL ?k1 ?_); (case k1 => walk_at "cy"))
  | ((with_reducible refine' HH.w_setL ?k1 ?k2 ?_); (case k1 => walk_at "cy"); (case k2 => exact rfl))
  | ((with_reducible refine' HH.w_modI ?k1 ?_); (case k1 => first | (with_reducible assumption) | omega))
  | ((with_reducible refine' HH.w_divI ?k1 ?_); (case k1 => (constructor <;> omega)))))); (try (with_reducible refine HH.isIf ?_)))
/-! ### words -/
def WordOk (w : List Nat) : Prop := w.length ≤ 200 ∧ ∀ c ∈ w, isSmall c = true
def isWordD : PyData → Bool
  | .str z => decide (z.length ≤ 200) && z.cps.toList.all isSmall
  | _ => false
theorem isWord_of {w : List Nat} (h : WordOk w) : isWordD (.str (tx w)) = true := by
  show (decide (w.length ≤ 200) && w.all isSmall) = true
  rw [decide_eq_true h.1, Bool.true_and, List.all_eq_true]
  exact h.2
theorem join_tx (ps : List (List Nat)) : Txt.join (Str.ofString "") (ps.map tx) = tx ps.flatten := by
  rw [join_strs, List.map_map]
  congr 1
  have : (TL.tl ∘ tx) = id := rfl
  rw [this, List.map_id]
theorem sum_tx : ∀ ps : List (List Nat), ((ps.map tx).map (·.length)).sum = ps.flatten.length
  | [] => rfl
  | p :: ps => by
    show p.length + ((ps.map tx).map (·.length)).sum = _
    rw [sum_tx ps, List.flatten_cons, List.length_append]
abbrev vT (ps : List (List Nat)) : List V := ps.map fun p => V.str (tx p)
theorem w_joinT {K : PySem.W.Frag} {H : Hp} {p : Addr} {Q : VK} {ps : List (List Nat)} (h : SqL K H p (vT ps)) (z : ps.flatten.length ≤ 16777216) (q : Q (.str (tx ps.flatten)) H) : rJoin K (.str (Str.ofString "")) [.ref p] H Q := by
  refine w_joinQ (ps.map tx) (by rw [List.map_map]; exact h) ?_ ?_
  · rw [sum_tx, show (Str.ofString "").length = 0 by decide +kernel, Nat.mul_zero]
    exact z
  · rw [join_tx]
    exact q
theorem tx_sg (c : Nat) : tx [c] = sg c := rfl
theorem tx_app (a b : List Nat) : tx a ++ tx b = tx (a ++ b) := by
  apply tl_inj
  show ((⟨a.toArray ++ b.toArray⟩ : Str)).cps.toList = a ++ b
  simp
theorem tx_inj {a b : List Nat} (h : tx a = tx b) : a = b := congrArg TL.tl h
theorem cutS_to (w : List Nat) (k : Nat) : cutS (tx w) none (some (k : Int)) = tx (w.take k) := by
  unfold cutS
  rw [HT.sIx_none, HT.sIx_nat, Nat.sub_zero, List.drop_zero]
  show tx ((tx w).cps.toList.take (min k w.length)) = _
  congr 1
  show w.take (min k w.length) = _
  rcases Nat.le_total k w.length with h | h
  · rw [Nat.min_eq_left h]
  · rw [Nat.min_eq_right h, List.take_length, List.take_of_length_le h]
theorem cutS_from (w : List Nat) (k : Nat) : cutS (tx w) (some (k : Int)) none = tx (w.drop k) := by
  unfold cutS
  rw [HT.sIx_none, HT.sIx_nat]
  show tx ((w.drop (min k w.length)).take (w.length - min k w.length)) = _
  congr 1
  rcases Nat.le_total k w.length with h | h
  · rw [Nat.min_eq_left h, List.take_of_length_le (by rw [List.length_drop]; exact Nat.le_refl _)]
  · rw [Nat.min_eq_right h, List.drop_length, List.drop_of_length_le h]
    simp
theorem cutS_mid (w : List Nat) (i j : Nat) : cutS (tx w) (some (i : Int)) (some (j : Int)) = tx ((w.take j).drop i) := by
  unfold cutS
  rw [HT.sIx_nat, HT.sIx_nat]
  show tx ((w.drop (min i w.length)).take (min j w.length - min i w.length)) = _
  congr 1
  rw [List.drop_take]
  rcases Nat.le_total i w.length with h2 | h2
  · rw [Nat.min_eq_left h2]
    rcases Nat.le_total j w.length with h | h
    · rw [Nat.min_eq_left h]
    · rw [Nat.min_eq_right h, List.take_of_length_le (by rw [List.length_drop]; omega), List.take_of_length_le (by rw [List.length_drop]; omega)]
  · rw [Nat.min_eq_right h2, List.drop_length, List.drop_of_length_le h2]
    simp
section
variable {K : PySem.W.Frag} {H : Hp} {Q : VK} {w w2 : List Nat}
theorem w_slW_to {k : Nat} (hz : w.length ≤ 10000000) (q : Q (.str (tx (w.take k))) H) : rSlS (.str (tx w)) none (some (k : Int)) H Q := ⟨tx w, rfl, szOk _ hz, by rw [cutS_to]; exact q⟩
theorem w_slW_from {k : Nat} (hz : w.length ≤ 10000000) (q : Q (.str (tx (w.drop k))) H) : rSlS (.str (tx w)) (some (k : Int)) none H Q := ⟨tx w, rfl, szOk _ hz, by rw [cutS_from]; exact q⟩
theorem w_slW_mid {i j : Nat} (hz : w.length ≤ 10000000) (q : Q (.str (tx ((w.take j).drop i))) H) : rSlS (.str (tx w)) (some (i : Int)) (some (j : Int)) H Q := ⟨tx w, rfl, szOk _ hz, by rw [cutS_mid]; exact q⟩
theorem w_lenW (hz : w.length ≤ 10000000) (q : Q (.int (w.length : Nat)) H) : rLenT [.str (tx w)] H Q := w_lenS (szOk _ hz) q
theorem w_addW (hz : w.length + w2.length ≤ 10000000) (q : Q (.str (tx (w ++ w2))) H) : rAddS (.str (tx w)) (.str (tx w2)) H Q := w_addS (szOk _ hz) (by rw [tx_app]; exact q)
theorem w_eqW (q : Q (.bl (bD (w = w2))) H) : rEq (.str (tx w)) (.str (tx w2)) H Q := w_eqS (by rw [bD_congr (⟨tx_inj, congrArg tx⟩ : tx w = tx w2 ↔ w = w2)]; exact q)
theorem w_neW (q : Q (.bl (!bD (w = w2))) H) : rNe (.str (tx w)) (.str (tx w2)) H Q := w_neS (by rw [bD_congr (⟨tx_inj, congrArg tx⟩ : tx w = tx w2 ↔ w = w2)]; exact q)
end
/-! one letter -/
def heard1 (f : Folk) (c : Nat) : Nat := match f with
  | .hears a b => if c = a then b else c
  | .ctr _ _ _ => c
def heardAs : Row → Nat → Nat
  | [], c => c
  | f :: r, c => heardAs r (heard1 f c)
def isHears : Folk → Bool
  | .hears _ _ => true
  | .ctr _ _ _ => false
theorem heard1_small {f : Folk} (h : f.ok = true) {c : Nat} (hc : isSmall c = true) : isSmall (heard1 f c) = true := by
  cases f with
  | hears a b =>
    have h' : (isSmall a && isSmall b && decide (a ≠ b)) = true := h
    simp only [Bool.and_eq_true] at h'
    show isSmall (if c = a then b else c) = true
    split
    · exact h'.1.2
    · exact hc
  | ctr tw e c' => exact hc
theorem heardAs_small : ∀ {r : Row}, (∀ f ∈ r, f.ok = true) → ∀ {c : Nat}, isSmall c = true → isSmall (heardAs r c) = true
  | [], _, _, hc => hc
  | f :: r, h, _, hc => heardAs_small (fun g hg => h g (List.mem_cons_of_mem _ hg)) (heard1_small (h f List.mem_cons_self) hc)
/-- how many of a sign that has come so often; the counts do not hang on the signs -/
def cnt1 (f : Folk) (n : Nat) : Nat → Nat × Nat
  | 0 => (0, n)
  | k + 1 => match f with
    | .hears _ _ => ((cnt1 f n k).1 + 1, n)
    | .ctr tw e _ => ((cnt1 f n k).1 + (if ((cnt1 f n k).2 + 1) % e = 0 then (if tw then 2 else 0) else 1), ((cnt1 f n k).2 + 1) % e)
theorem runOne_rep (f : Folk) (n c : Nat) : ∀ k : Nat, runOne f n (List.replicate k c) = (List.replicate (cnt1 f n k).1 (heard1 f c), (cnt1 f n k).2)
  | 0 => rfl
  | k + 1 => by
    rw [List.replicate_succ', runOne_snoc, runOne_rep f n c k]
    cases f with
    | hears a b =>
      show (List.replicate (cnt1 (.hears a b) n k).1 (if c = a then b else c) ++ [if c = a then b else c], (cnt1 (.hears a b) n k).2) = (List.replicate ((cnt1 (.hears a b) n k).1 + 1) (if c = a then b else c), n)
      have e : ∀ k, (cnt1 (.hears a b) n k).2 = n := fun k => by cases k <;> rfl
      rw [List.replicate_succ', e]
    | ctr tw e c' =>
      have h2 : heard1 (.ctr tw e c') c = c := rfl
      have h1 : stepOne (.ctr tw e c') (cnt1 (.ctr tw e c') n k).2 c = (if ((cnt1 (.ctr tw e c') n k).2 + 1) % e = 0 then (if tw then [c, c] else []) else [c], ((cnt1 (.ctr tw e c') n k).2 + 1) % e) := rfl
      have h3 : cnt1 (.ctr tw e c') n (k + 1) = ((cnt1 (.ctr tw e c') n k).1 + (if ((cnt1 (.ctr tw e c') n k).2 + 1) % e = 0 then (if tw then 2 else 0) else 1), ((cnt1 (.ctr tw e c') n k).2 + 1) % e) := rfl
      rw [h1, h2, h3]
      dsimp only
      rw [← List.replicate_append_replicate]
      split
      · cases tw <;> rfl
      · rfl
def cntN : Row → List Nat → Nat → Nat × List Nat
  | f :: r, c :: cs, k => ((cntN r cs (cnt1 f c k).1).1, (cnt1 f c k).2 :: (cntN r cs (cnt1 f c k).1).2)
  | _, cs, k => (k, cs)
theorem told_rep : ∀ (r : Row) (cs : List Nat) (c k : Nat), cs.length = r.length → told r cs (List.replicate k c) = (List.replicate (cntN r cs k).1 (heardAs r c), (cntN r cs k).2)
  | [], cs, c, k, _ => rfl
  | f :: r, d :: cs, c, k, h => by
    show ((told r cs (runOne f d (List.replicate k c)).1).1, (runOne f d (List.replicate k c)).2 :: (told r cs (runOne f d (List.replicate k c)).1).2) = _
    rw [runOne_rep, told_rep r cs (heard1 f c) _ (Nat.succ.inj h)]
    rfl
  | _ :: _, [], _, _, h => by cases h
/-- signs behind one another: how many of each -/
def pass (r : Row) (cs : List Nat) : Nat → List Nat
  | 0 => []
  | n + 1 => (cntN r cs 1).1 :: pass r (cntN r cs 1).2 n
theorem cntN_len : ∀ (r : Row) (cs : List Nat) (k : Nat), (cntN r cs k).2.length = cs.length
  | [], _, _ => rfl
  | _ :: _, [], _ => rfl
  | f :: r, c :: cs, k => congrArg (· + 1) (cntN_len r cs _)
theorem pass_len (r : Row) : ∀ (n : Nat) (cs : List Nat), (pass r cs n).length = n
  | 0, _ => rfl
  | n + 1, cs => congrArg (· + 1) (pass_len r n _)
theorem feed_pass (r : Row) : ∀ (w cs : List Nat), cs.length = r.length → (feed r cs w).1 = (List.zip (pass r cs w.length) w).map fun p => List.replicate p.1 (heardAs r p.2)
  | [], _, _ => rfl
  | s :: w, cs, h => by
    have e : told r cs [s] = (List.replicate (cntN r cs 1).1 (heardAs r s), (cntN r cs 1).2) := told_rep r cs s 1 h
    show (told r cs [s]).1 :: (feed r (told r cs [s]).2 w).1 = _
    rw [e, feed_pass r w (cntN r cs 1).2 (by rw [cntN_len]; exact h)]
    rfl
theorem begun_len (r : Row) : (begun r).length = r.length := List.length_map _
theorem comes_feed (r : Row) (w : List Nat) : comes r w = (feed r (begun r) w).1.flatten := (congrArg Prod.fst (feed_told r w (begun r))).symm
theorem copies_pass (r : Row) (n : Nat) : copies r n = pass r (begun r) n := by
  unfold copies
  rw [feed_pass r _ _ (begun_len r), List.map_map]
  have hq : (qs n).length = n := List.length_replicate
  rw [hq]
  have : (List.length ∘ fun p : Nat × Nat => List.replicate p.1 (heardAs r p.2)) = Prod.fst := by
    funext p
    exact List.length_replicate
  rw [this, List.map_fst_zip]
  rw [pass_len, hq]
  exact Nat.le_refl _
theorem comes_hears : ∀ (r : Row) (c : Nat), comes (r.filter isHears) [c] = [heardAs r c]
  | [], c => rfl
  | .hears a b :: r, c => by
    show comes (.hears a b :: r.filter isHears) [c] = [heardAs r (heard1 (.hears a b) c)]
    have : comes (.hears a b :: r.filter isHears) [c] = comes (r.filter isHears) [if c = a then b else c] := rfl
    rw [this, comes_hears r _]
    rfl
  | .ctr tw e n :: r, c => comes_hears r c
theorem comes_cons (f : Folk) (r : Row) (w : List Nat) : comes (f :: r) w = comes r (runOne f f.begun w).1 := rfl
theorem runOne_small {f : Folk} (h : f.ok = true) : ∀ (n : Nat) {w : List Nat}, (∀ c ∈ w, isSmall c = true) → ∀ c ∈ (runOne f n w).1, isSmall c = true
  | _, [], _, _, hc => by cases hc
  | n, s :: w, hw, c, hc => by
    have hc' : c ∈ (stepOne f n s).1 ++ (runOne f (stepOne f n s).2 w).1 := hc
    rcases List.mem_append.mp hc' with q | q
    · have hs := hw s List.mem_cons_self
      cases f with
      | hears a b =>
        have e : c = heard1 (.hears a b) s := List.mem_singleton.mp q
        rw [e]
        exact heard1_small h hs
      | ctr tw e n' =>
        have q' : c ∈ (if (n + 1) % e = 0 then (if tw then [s, s] else []) else [s]) := q
        have : c = s := by
          split at q'
          · cases tw
            · cases q'
            · rcases List.mem_cons.mp q' with z | z
              · exact z
              · exact List.mem_singleton.mp z
          · exact List.mem_singleton.mp q'
        rw [this]
        exact hs
    · exact runOne_small h _ (fun d hd => hw d (List.mem_cons_of_mem _ hd)) c q
theorem comes_small : ∀ {r : Row}, (∀ f ∈ r, f.ok = true) → ∀ {w : List Nat}, (∀ c ∈ w, isSmall c = true) → ∀ c ∈ comes r w, isSmall c = true
  | [], _, _, hw => hw
  | f :: r, h, w, hw => by
    rw [comes_cons]
    exact comes_small (fun g hg => h g (List.mem_cons_of_mem _ hg)) (runOne_small (h f List.mem_cons_self) _ hw)
theorem comes_snoc (f : Folk) : ∀ (r : Row) (w : List Nat), comes (r ++ [f]) w = (runOne f f.begun (comes r w)).1
  | [], w => rfl
  | g :: r, w => by
    show comes (g :: (r ++ [f])) w = _
    rw [comes_cons, comes_snoc f r, ← comes_cons]
theorem heardAs_snoc (f : Folk) : ∀ (r : Row) (c : Nat), heardAs (r ++ [f]) c = heard1 f (heardAs r c)
  | [], c => rfl
  | g :: r, c => heardAs_snoc f r _
theorem comes_len2 : ∀ (r : Row) (w : List Nat), (comes r w).length ≤ 2 ^ r.length * w.length
  | r, w => told_len2 r (begun r) w
theorem comes_take {r : Row} (h : rok r) (w : List Nat) (k : Nat) : comes r (w.take k) = (comes r w).take (allCome r (min k w.length)) := by
  have e : w = w.take k ++ w.drop k := (List.take_append_drop k w).symm
  have : comes r w = comes r (w.take k) ++ (told r (told r (begun r) (w.take k)).2 (w.drop k)).1 := by
    have := congrArg Prod.fst (told_app r (begun r) (w.take k) (w.drop k))
    rw [← e] at this
    exact this
  rw [this]
  have hl : (comes r (w.take k)).length = allCome r (min k w.length) := by rw [comes_len h, List.length_take]
  rw [← hl, List.take_left']
  rfl
section
variable (K : PySem.W.Frag)
def sp_is_word : Sp := fun vs H Q _ => ∃ (x : V) (d : PyData), vs = [x] ∧ Dp K H x d ∧ fitD d = true ∧ ∀ H', Same H H' → Q (.bl (isWordD d)) H'
def sp_need_word : Sp := fun vs H Q _ => ∃ (x : V) (d : PyData), vs = [x] ∧ Dp K H x d ∧ fitD d = true ∧ isWordD d = true ∧ ∀ H', Same H H' → Q .non H'
def sp_said_by : Sp := fun vs H Q _ => ∃ (x : V) (f : Folk) (w : List Nat), vs = [x, .str (tx w)] ∧ Dp K H x (folkD f) ∧ fok f ∧ w.length ≤ 1000000 ∧ ∀ H', Same H H' → Q (.str (tx (runOne f f.begun w).1)) H'
def sp_comes_out : Sp := fun vs H Q _ => ∃ (x : V) (r : Row) (w : List Nat), vs = [x, .str (tx w)] ∧ Dp K H x (rowD r) ∧ rok r ∧ r.length ≤ 6 ∧ w.length ≤ 10000 ∧ ∀ H', Same H H' → Q (.str (tx (comes r w))) H'
def sp_out : Sp := fun vs H Q _ => ∃ (x : V) (r : Row) (w : List Nat), vs = [x, .str (tx w)] ∧ Dp K H x (rowD r) ∧ Row.Ok r ∧ WordOk w ∧ ∀ H', Same H H' → Q (.str (tx (comes r w))) H'
def sp_heard_as : Sp := fun vs H Q _ => ∃ (x : V) (r : Row) (c : Nat), vs = [x, .str (sg c)] ∧ Dp K H x (rowD r) ∧ Q (.str (sg (heardAs r c))) H
def sp_letter_out : Sp := fun vs H Q _ => ∃ (x : V) (r : Row) (c : Nat), vs = [x, .str (sg c)] ∧ Dp K H x (rowD r) ∧ Row.Ok r ∧ isSmall c = true ∧ ∀ H', Same H H' → Q (.str (sg (heardAs r c))) H'
def sp_come_alike : Sp := fun vs H Q _ => ∃ (x : V) (r : Row) (w w2 : List Nat), vs = [x, .str (tx w), .str (tx w2)] ∧ Dp K H x (rowD r) ∧ Row.Ok r ∧ WordOk w ∧ WordOk w2 ∧ ∀ H', Same H H' → Q (.bl (bD (comes r w = comes r w2))) H'
def sp_l_letter : Sp := fun vs H Q _ => ∃ (b : Addr) (wide : Nat), vs = [.ref b, .int (wide : Nat)] ∧ BagOk K H b ∧ 0 < wide ∧ wide ≤ 26 ∧ ∀ (c : Nat) (H' : Hp), 97 ≤ c → c < 97 + wide → Dr K b H H' → Q (.str (sg c)) H'
def sp_l_a_word : Sp := fun vs H Q _ => ∃ (b : Addr) (most wide : Nat), vs = [.ref b, .int (most : Nat), .int (wide : Nat)] ∧ BagOk K H b ∧ most ≤ 300 ∧ 0 < wide ∧ wide ≤ 26 ∧
  ∀ (w : List Nat) (H' : Hp), w.length ≤ most → (∀ c ∈ w, 97 ≤ c ∧ c < 97 + wide) → Dr K b H H' → Q (.str (tx w)) H'
def sp_l_comes : Sp := fun vs H Q _ => ∃ (x : V) (r : Row) (w : List Nat), vs = [x, .str (tx w)] ∧ Dp K H x (rowD r) ∧ rok r ∧ r.length ≤ 6 ∧ w.length ≤ 10000 ∧ ∀ H', Same H H' → Q (.str (tx (comes r w))) H'
theorem len_is_word : ∀ vs H Q E, sp_is_word K vs H Q E → vs.length = 1 := by rintro _ _ _ _ ⟨_, _, rfl, _⟩; rfl
theorem len_need_word : ∀ vs H Q E, sp_need_word K vs H Q E → vs.length = 1 := by rintro _ _ _ _ ⟨_, _, rfl, _⟩; rfl
theorem len_said_by : ∀ vs H Q E, sp_said_by K vs H Q E → vs.length = 2 := by rintro _ _ _ _ ⟨_, _, _, rfl, _⟩; rfl
theorem len_comes_out : ∀ vs H Q E, sp_comes_out K vs H Q E → vs.length = 2 := by rintro _ _ _ _ ⟨_, _, _, rfl, _⟩; rfl
theorem len_out : ∀ vs H Q E, sp_out K vs H Q E → vs.length = 2 := by rintro _ _ _ _ ⟨_, _, _, rfl, _⟩; rfl
theorem len_heard_as : ∀ vs H Q E, sp_heard_as K vs H Q E → vs.length = 2 := by rintro _ _ _ _ ⟨_, _, _, rfl, _⟩; rfl
theorem len_letter_out : ∀ vs H Q E, sp_letter_out K vs H Q E → vs.length = 2 := by rintro _ _ _ _ ⟨_, _, _, rfl, _⟩; rfl
theorem len_come_alike : ∀ vs H Q E, sp_come_alike K vs H Q E → vs.length = 3 := by rintro _ _ _ _ ⟨_, _, _, _, rfl, _⟩; rfl
theorem len_l_letter : ∀ vs H Q E, sp_l_letter K vs H Q E → vs.length = 2 := by rintro _ _ _ _ ⟨_, _, rfl, _⟩; rfl
theorem len_l_a_word : ∀ vs H Q E, sp_l_a_word K vs H Q E → vs.length = 3 := by rintro _ _ _ _ ⟨_, _, _, rfl, _⟩; rfl
theorem len_l_comes : ∀ vs H Q E, sp_l_comes K vs H Q E → vs.length = 2 := by rintro _ _ _ _ ⟨_, _, _, rfl, _⟩; rfl
end
def t_is_word (K : PySem.W.Frag) : TS :=
  (tRet (tAndV (tCB (rIsi K) (tCons (tVar 0) (tCons (tC (.ty "str")) tNil))) (tAndV (tOp rLeI (tCB rLenT (tCons (tVar 0) tNil)) (tC (.int 200))) (tCB (rAll K) (tCons (tLc (iStr (tVar 0)) (gName 1) tYes (tOp rInC (tVar 1) (tC (.str "abcdefghijklmnopqrstuvwxyz"))) [1]) tNil)))))

def t_need_word (K : PySem.W.Frag) : TS :=
  (tIfS (tNot (tB (tCall (sp_is_word K) [] E0 (tCons (tVar 0) tNil)))) tNever tNext)

def t_said_by (K : PySem.W.Frag) : TS :=
  (tSeq (tAsg (tVar 0) (gTup K 3 (gCons (gName 2) (gCons (gName 3) (gCons (gName 4) gNil)))))
  (tSeq (tAsg (tLst tNil) (gName 5))
  (tSeq (tFor (iStr (tVar 1)) (gName 6)
  (tIfS (tTest (tOp rEq (tVar 2) (tC (.str "hears")))) (tDrop (tBM K "list" rAppend (tVar 5) (tCons (tIf (tTest (tOp rEq (tVar 6) (tVar 3))) (tVar 4) (tVar 6)) tNil))) (tSeq (tAsg (tOp rModI (tOp rAddI (tVar 4) (tC (.int 1))) (tVar 3)) (gName 4))
  (tIfS (tTest (tOp rGtI (tVar 4) (tC (.int 0)))) (tDrop (tBM K "list" rAppend (tVar 5) (tCons (tVar 6) tNil))) (tIfS (tTest (tOp rEq (tVar 2) (tC (.str "twice")))) (tDrop (tBM K "list" rAppend (tVar 5) (tCons (tOp rAddS (tVar 6) (tVar 6)) tNil))) tNext)))))
  (tRet (tM1 (rJoin K) (tC (.str "")) (tVar 5))))))

def t_comes_out (K : PySem.W.Frag) : TS :=
  (tSeq (tFor (iTup K (tVar 0)) (gName 2)
  (tAsg (tCall (sp_said_by K) [] E0 (tCons (tVar 2) (tCons (tVar 1) tNil))) (gName 1)))
  (tRet (tVar 1)))

def t_out (K : PySem.W.Frag) : TS :=
  (tSeq (tDrop (tCall (sp_need_row K) [] E0 (tCons (tVar 0) tNil)))
  (tSeq (tDrop (tCall (sp_need_word K) [] E0 (tCons (tVar 1) tNil)))
  (tRet (tCall (sp_comes_out K) [] E0 (tCons (tVar 0) (tCons (tVar 1) tNil))))))

def t_heard_as (K : PySem.W.Frag) : TS :=
  (tSeq (tFor (iTup K (tVar 0)) (gTup K 3 (gCons (gName 2) (gCons (gName 3) (gCons (gName 4) gNil))))
  (tIfS (tAnd (tTest (tOp rEq (tVar 2) (tC (.str "hears")))) (tTest (tOp rEq (tVar 1) (tVar 3)))) (tAsg (tVar 4) (gName 1)) tNext))
  (tRet (tVar 1)))

def t_letter_out (K : PySem.W.Frag) : TS :=
  (tSeq (tDrop (tCall (sp_need_row K) [] E0 (tCons (tVar 0) tNil)))
  (tSeq (tIfS (tNot (tB (tCall (sp_is_letter K) [] E0 (tCons (tVar 1) tNil)))) tNever tNext)
  (tRet (tCall (sp_heard_as K) [] E0 (tCons (tVar 0) (tCons (tVar 1) tNil))))))

def t_come_alike (K : PySem.W.Frag) : TS :=
  (tSeq (tDrop (tCall (sp_need_row K) [] E0 (tCons (tVar 0) tNil)))
  (tSeq (tDrop (tCall (sp_need_word K) [] E0 (tCons (tVar 1) tNil)))
  (tSeq (tDrop (tCall (sp_need_word K) [] E0 (tCons (tVar 2) tNil)))
  (tRet (tOp rEq (tCall (sp_comes_out K) [] E0 (tCons (tVar 0) (tCons (tVar 1) tNil))) (tCall (sp_comes_out K) [] E0 (tCons (tVar 0) (tCons (tVar 2) tNil))))))))

def t_l_letter (K : PySem.W.Frag) : TS :=
  (tRet (tOp rIxS (tC (.str "abcdefghijklmnopqrstuvwxyz")) (tCall (sp_l_take K) [] E0 (tCons (tVar 0) (tCons (tVar 1) tNil)))))

def t_l_a_word (K : PySem.W.Frag) : TS :=
  (tRet (tM1 (rJoin K) (tC (.str "")) (tLc (iRng1 (tCons (tCall (sp_l_take K) [] E0 (tCons (tVar 0) (tCons (tOp rAddI (tVar 1) (tC (.int 1))) tNil))) tNil)) (gName 3) tYes (tCall (sp_l_letter K) [] E0 (tCons (tVar 0) (tCons (tVar 2) tNil))) [3])))

def t_l_comes (K : PySem.W.Frag) : TS :=
  (tSeq (tPar 2 3 (tCons (tCall (sp_l_begun K) [] E0 (tCons (tVar 0) tNil)) (tCons (tLst tNil) tNil)))
  (tSeq (tFor (iStr (tVar 1)) (gName 4)
  (tDrop (tBM K "list" rAppend (tVar 3) (tCons (tCall (sp_l_told_on K) [] E0 (tCons (tVar 0) (tCons (tVar 2) (tCons (tVar 4) tNil)))) tNil))))
  (tRet (tM1 (rJoin K) (tC (.str "")) (tVar 3)))))

local macro_rules | `(tactic| walk_at "is") => `(tactic| first
  | ((with_reducible refine' HH.w_is_int ?k1 ?_); (case k1 => walk_at "cy"))
  | ((with_reducible refine' HH.w_is_bool ?k1 ?_); (case k1 => walk_at "cy"))
  | ((with_reducible refine' HH.w_is_str ?k1 ?_); (case k1 => walk_at "cy"))
  | ((with_reducible refine' HH.w_is_tuple ?k1 ?_); (case k1 => walk_at "cy"))
  | ((with_reducible refine' HH.w_is_list ?k1 ?_); (case k1 => walk_at "cy")))
section
variable (K : PySem.W.Frag)
theorem sem_is_word : ∀ vs H Q E, sp_is_word K vs H Q E → t_is_word K { nx := fun _ H' => Q .non H', rt := Q } (start ["thing", "sign"] vs) H := by
  rintro vs H Q E ⟨x, d, rfl, hd, hf, q⟩
  show t_is_word K _ [some x, none] H
  unfold t_is_word
  walk_at "w"; walk_at "is"; walk_at "w"
  cases d with
  | str z =>
    cases hd
    refine iteT ?_
    walk_at "w"
    have hz : z.length ≤ 10000 := of_decide_eq_true hf
    refine w_lenS (szOk _ (Nat.le_trans hz (by decide))) ?_
    walk_at "w"
    rw [show isWordD (.str z) = (decide (z.length ≤ 200) && z.cps.toList.all isSmall) from rfl] at q
    refine w_ifB (fun e => ?_) (fun e => ?_)
    · have e' : z.length ≤ 200 := by have := bT e; omega
      rw [decide_eq_true e'] at q
      walk_at "w"
      intro D nD
      refine lc_same (walk_str (z := z)) nD [some (.str z), none] rfl (fun i => ((z.cps.toList.take i).map isSmall).map V.bl) rfl (fun _ _ => trivial) (fun i x H1 H1' hi p y => ?_) (fun H1 s hD => ?_)
      · obtain ⟨rfl, c, hc, rfl⟩ := y
        walk_at "w"
        refine ⟨rfl, ?_⟩
        walk_at "w"
        rw [bD_eq, small_mem]
        refine lc_put nD p (Same.refl _) (szLt _ ?_) ?_
        · rw [List.length_map, List.length_map, List.length_take]
          have : z.cps.toList.length = z.length := rfl
          omega
        · have hc' : z.cps.toList[i]? = some c := by rw [Array.getElem?_toList]; exact hc
          rw [List.take_add_one, hc', List.map_append, List.map_append]
          rfl
      · walk_at "w"
        refine w_all (z.cps.toList.map isSmall) (sqL_at (by rw [hD]; congr 2; rw [List.take_of_length_le (show z.cps.toList.length ≤ z.cps.size from Nat.le_refl _)])) ?_
        rw [show (z.cps.toList.map isSmall).all id = z.cps.toList.all isSmall from by rw [List.all_map]; rfl]
        exact q H1 s
    · have e' : ¬ z.length ≤ 200 := by have := bF e; omega
      rw [decide_eq_false e'] at q
      exact q H (Same.refl H)
  | _ => exact iteF (q H (Same.refl H))
theorem sem_need_word : ∀ vs H Q E, sp_need_word K vs H Q E → t_need_word K { nx := fun _ H' => Q .non H', rt := Q } (start ["word"] vs) H := by
  rintro vs H Q E ⟨x, d, rfl, hd, hf, hr, q⟩
  show t_need_word K _ [some x] H
  unfold t_need_word
  walk_at "w"
  refine ⟨x, d, rfl, hd, hf, fun H' s => ?_⟩
  rw [hr]
  walk_at "w"
  refine iteF ?_
  exact q H' s
theorem fit_tx {w : List Nat} (h : w.length ≤ 10000) : fitD (.str (tx w)) = true := decide_eq_true h
theorem sem_said_by : ∀ vs H Q E, sp_said_by K vs H Q E → t_said_by K { nx := fun _ H' => Q .non H', rt := Q } (start ["one", "word", "kind", "every", "counted", "found", "sign"] vs) H := by
  rintro vs H Q E ⟨x, f, w, rfl, hd, hf, hw, q⟩
  show t_said_by K _ [some x, some (.str (tx w)), none, none, none, none, none] H
  unfold t_said_by
  obtain ⟨a, rfl, hs⟩ := folk_inv hd
  have piece : ∀ (n s : Nat), (stepOne f n s).1.length ≤ 2 := fun n s => by
    have := runOne_len f n [s]
    have e : (runOne f n [s]).1 = (stepOne f n s).1 ++ [] := rfl
    rw [e, List.append_nil] at this
    exact this
  have snoc : ∀ (i s : Nat), w[i]? = some s → runOne f f.begun (w.take (i + 1)) = ((runOne f f.begun (w.take i)).1 ++ (stepOne f (runOne f f.begun (w.take i)).2 s).1, (stepOne f (runOne f f.begun (w.take i)).2 s).2) := fun i s h => by
    rw [List.take_add_one, h]
    exact runOne_snoc _ _ _ _
  have fin : ∀ (H1 : Hp) (o : Addr) (ps : List (List Nat)), Same H H1 → H1 o = some (.lst (vT ps)) → ps.flatten = (runOne f f.begun w).1 → rJoin K (.str (Str.ofString "")) [.ref o] H1 Q := fun H1 o ps s1 ho hps => by
    refine w_joinT (sqL_at ho) ?_ ?_
    · rw [hps]
      have := runOne_len f f.begun w
      omega
    · rw [hps]
      exact q H1 s1
  cases f with
  | hears u v =>
    have hs' : SqT K H a [.str "hears", .str (sg u), .str (sg v)] := hs
    walk_at "w"
    refine ⟨szOk 0, fun o no => ?_⟩
    walk_at "w"
    refine for_it (walk_str (z := tx w)) (fun i σ H1 => ∃ (y6 : Option V) (ps : List (List Nat)), σ = [some (.ref a), some (.str (tx w)), some (.str "hears"), some (.str (sg u)), some (.str (sg v)), some (.ref o), y6] ∧ Same H H1 ∧ H1 o = some (.lst (vT ps)) ∧ ps.length = i ∧ ps.flatten = (runOne (.hears u v) (Folk.hears u v).begun (w.take i)).1) ?_ (fun _ _ _ _ _ => trivial) ?_ ?_
    · exact ⟨none, [], rfl, same_new no, upd_same, rfl, rfl⟩
    · rintro i y σ H1 H1' hi ⟨y6, ps, rfl, s1, ho, hl, hps⟩ ⟨rfl, c, hc, rfl⟩
      have hc' : w[i]? = some c := by rw [← Array.getElem?_toList] at hc; exact hc
      have hiw : i < w.length := (List.getElem?_eq_some_iff.mp hc').1
      walk_at "w"
      refine w_dT rfl ?_
      walk_at "w"
      have hz : (vT ps).length < sizeLine := szLt _ (by rw [List.length_map]; omega)
      have put : ∀ t, (stepOne (.hears u v) (runOne (.hears u v) (Folk.hears u v).begun (w.take i)).2 c).1 = [t] → ∃ (y6 : Option V) (ps' : List (List Nat)), [some (.ref a), some (.str (tx w)), some (.str "hears"), some (.str (sg u)), some (.str (sg v)), some (.ref o), some (.str (sg c))] = [some (.ref a), some (.str (tx w)), some (.str "hears"), some (.str (sg u)), some (.str (sg v)), some (.ref o), y6] ∧ Same H (upd H1' o (.lst (vT ps ++ [.str (sg t)]))) ∧ (upd H1' o (.lst (vT ps ++ [.str (sg t)]))) o = some (.lst (vT ps')) ∧ ps'.length = i + 1 ∧ ps'.flatten = (runOne (.hears u v) (Folk.hears u v).begun (w.take (i + 1))).1 := fun t ht =>
        ⟨_, ps ++ [[t]], rfl, same_mut s1 no, by rw [upd_same]; unfold vT; rw [List.map_append]; rfl, by rw [List.length_append, hl]; rfl, by rw [snoc i c hc', List.flatten_append, hps, ht]; simp⟩
      refine w_ifB (fun e => ?_) (fun e => ?_)
      · walk_at "w"
        refine w_append ho hz ?_
        walk_at "w"
        have e' : c = u := sg_inj (bT e)
        exact put v (by show [if c = u then v else c] = [v]; rw [if_pos e'])
      · walk_at "w"
        refine w_append ho hz ?_
        walk_at "w"
        have e' : ¬ c = u := fun h => (bF e) (congrArg sg h)
        exact put c (by show [if c = u then v else c] = [c]; rw [if_neg e'])
    · rintro σ H1 ⟨y6, ps, rfl, s1, ho, hl, hps⟩
      walk_at "w"
      refine fin H1 o ps s1 ho ?_
      rw [hps]
      congr 2
      exact List.take_of_length_le (Nat.le_refl _)
  | ctr tw e c0 =>
    have hs' : SqT K H a [.str (kindOf tw), .int (e : Nat), .int (c0 : Nat)] := hs
    obtain ⟨h2, h6, hc0⟩ := hf
    walk_at "w"
    refine ⟨szOk 0, fun o no => ?_⟩
    walk_at "w"
    refine for_it (walk_str (z := tx w)) (fun i σ H1 => ∃ (y6 : Option V) (ps : List (List Nat)) (acc : List Nat) (n : Nat), runOne (.ctr tw e c0) c0 (w.take i) = (acc, n) ∧ σ = [some (.ref a), some (.str (tx w)), some (.str (kindOf tw)), some (.int (e : Nat)), some (.int (n : Nat)), some (.ref o), y6] ∧ Same H H1 ∧ H1 o = some (.lst (vT ps)) ∧ ps.length ≤ i ∧ ps.flatten = acc) ?_ (fun _ _ _ _ _ => trivial) ?_ ?_
    · exact ⟨none, [], [], c0, rfl, rfl, same_new no, upd_same, Nat.le_refl _, rfl⟩
    · rintro i y σ H1 H1' hi ⟨y6, ps, acc, n, hrun, rfl, s1, ho, hl, hps⟩ ⟨rfl, c, hc, rfl⟩
      have hc' : w[i]? = some c := by rw [← Array.getElem?_toList] at hc; exact hc
      have hiw : i < w.length := (List.getElem?_eq_some_iff.mp hc').1
      have hn := snoc i c hc'
      rw [show (Folk.ctr tw e c0).begun = c0 from rfl, hrun] at hn
      have hz : (vT ps).length < sizeLine := szLt _ (by rw [List.length_map]; omega)
      have e1 : ((n : Int) + 1) % (e : Int) = (((n + 1) % e : Nat) : Int) := rfl
      have hst : stepOne (.ctr tw e c0) n c = (if (n + 1) % e = 0 then (if tw then [c, c] else []) else [c], (n + 1) % e) := rfl
      have put : ∀ (H2 : Hp) (t : List Nat), Same H H2 → H2 o = some (.lst (vT (ps ++ [t]))) → (stepOne (.ctr tw e c0) n c).1 = t → ∃ (y6 : Option V) (ps' : List (List Nat)) (acc' : List Nat) (n' : Nat), runOne (.ctr tw e c0) c0 (w.take (i + 1)) = (acc', n') ∧ [some (.ref a), some (.str (tx w)), some (.str (kindOf tw)), some (.int (e : Nat)), some (.int (((n : Int) + 1) % (e : Int))), some (.ref o), some (.str (sg c))] = [some (.ref a), some (.str (tx w)), some (.str (kindOf tw)), some (.int (e : Nat)), some (.int (n' : Nat)), some (.ref o), y6] ∧ Same H H2 ∧ H2 o = some (.lst (vT ps')) ∧ ps'.length ≤ i + 1 ∧ ps'.flatten = acc' := fun H2 t s2 h2 ht =>
        ⟨_, ps ++ [t], _, _, hn, rfl, s2, h2, by rw [List.length_append]; show ps.length + 1 ≤ i + 1; omega, by show (ps ++ [t]).flatten = acc ++ (stepOne (.ctr tw e c0) n c).1; rw [List.flatten_append, hps, ht]; simp⟩
      have vTa : ∀ t, vT (ps ++ [t]) = vT ps ++ [.str (tx t)] := fun t => by unfold vT; rw [List.map_append]; rfl
      walk_at "w"
      refine w_dF (kind_nh tw) ?_
      walk_at "w"
      refine w_ifB (fun q1 => ?_) (fun q1 => ?_)
      · have q2 : ¬ (n + 1) % e = 0 := by have := bT q1; rw [e1] at this; omega
        walk_at "w"
        refine w_append ho hz ?_
        walk_at "w"
        exact put _ [c] (same_mut s1 no) (by rw [upd_same, vTa]; rfl) (by rw [hst]; exact if_neg q2)
      · have q2 : (n + 1) % e = 0 := by have := bF q1; rw [e1] at this; omega
        walk_at "w"
        cases tw with
        | true =>
          refine w_dT rfl ?_
          walk_at "w"
          refine w_addS (szOk 2) ?_
          walk_at "w"
          refine w_append ho hz ?_
          walk_at "w"
          exact put _ [c, c] (same_mut s1 no) (by rw [upd_same, vTa]; rfl) (by rw [hst]; exact if_pos q2)
        | false =>
          refine w_dF (by decide +kernel) ?_
          walk_at "w"
          refine ⟨_, ps, _, _, hn, rfl, s1, ho, by omega, ?_⟩
          show ps.flatten = acc ++ (stepOne (.ctr false e c0) n c).1
          rw [hst]
          show ps.flatten = acc ++ (if (n + 1) % e = 0 then [] else [c])
          rw [if_pos q2, List.append_nil, hps]
    · rintro σ H1 ⟨y6, ps, acc, n, hrun, rfl, s1, ho, hl, hps⟩
      walk_at "w"
      refine fin H1 o ps s1 ho ?_
      rw [hps]
      have : w.take (tx w).cps.size = w := List.take_of_length_le (Nat.le_refl _)
      rw [this] at hrun
      show acc = (runOne (.ctr tw e c0) c0 w).1
      rw [hrun]
end
section
variable (K : PySem.W.Frag)
theorem sem_comes_out : ∀ vs H Q E, sp_comes_out K vs H Q E → t_comes_out K { nx := fun _ H' => Q .non H', rt := Q } (start ["row", "word", "one"] vs) H := by
  rintro vs H Q E ⟨x, r, w, rfl, hd, hr, hl, hw, q⟩
  show t_comes_out K _ [some x, some (.str (tx w)), none] H
  unfold t_comes_out
  obtain ⟨a, xs, rfl, hs, ha⟩ := dp_tup hd
  have hlx : xs.length = r.length := by rw [ha.len, List.length_map]
  walk_at "w"
  refine for_tup (xs := xs) (fun i σ H1 => ∃ y, σ = [some (.ref a), some (.str (tx (comes (r.take i) w))), y] ∧ Same H H1) ⟨none, rfl, Same.refl H⟩ (fun i σ H1 _ p => by obtain ⟨y, _, s⟩ := p; exact s.sqT hs) ?_ ?_
  · rintro i v σ H1 hv ⟨y, rfl, s⟩
    obtain ⟨f, hf, dd⟩ := row_get K ha hv
    walk_at "w"
    have hlen : (comes (r.take i) w).length ≤ 1000000 := by
      have h1 := comes_len2 (r.take i) w
      have h2 : 2 ^ (r.take i).length ≤ 2 ^ 6 := Nat.pow_le_pow_right (by decide) (by rw [List.length_take]; omega)
      have h3 : 2 ^ (r.take i).length * w.length ≤ 2 ^ 6 * 10000 := Nat.mul_le_mul h2 hw
      have h4 : 2 ^ 6 * 10000 ≤ 1000000 := by decide
      omega
    refine ⟨v, f, _, rfl, s.dat dd, hr f (List.mem_of_getElem? hf), hlen, fun H' s' => ?_⟩
    walk_at "w"
    have e : comes (r.take (i + 1)) w = (runOne f f.begun (comes (r.take i) w)).1 := by
      rw [List.take_add_one, hf]
      exact comes_snoc f _ w
    rw [e]
    exact ⟨_, rfl, s.trans s'⟩
  · rintro σ H1 ⟨y, rfl, s⟩
    rw [hlx, List.take_length]
    walk_at "w"
    exact q H1 s
theorem sem_out : ∀ vs H Q E, sp_out K vs H Q E → t_out K { nx := fun _ H' => Q .non H', rt := Q } (start ["row", "word"] vs) H := by
  rintro vs H Q E ⟨x, r, w, rfl, hd, hR, hw, q⟩
  show t_out K _ [some x, some (.str (tx w))] H
  unfold t_out
  walk_at "w"
  refine ⟨x, rowD r, rfl, hd, fit_row r, isRow_of hR, fun H1 s1 => ?_⟩
  walk_at "w"
  refine ⟨_, .str (tx w), rfl, .str _, fit_tx (by have := hw.1; omega), isWord_of hw, fun H2 s2 => ?_⟩
  walk_at "w"
  have hl := hR.1
  exact ⟨x, r, w, rfl, s2.dat (s1.dat hd), rok_of hR, by omega, by have := hw.1; omega, fun H3 s3 => q H3 ((s1.trans s2).trans s3)⟩
theorem sem_heard_as : ∀ vs H Q E, sp_heard_as K vs H Q E → t_heard_as K { nx := fun _ H' => Q .non H', rt := Q } (start ["row", "letter", "kind", "one", "other"] vs) H := by
  rintro vs H Q E ⟨x, r, c, rfl, hd, q⟩
  show t_heard_as K _ [some x, some (.str (sg c)), none, none, none] H
  unfold t_heard_as
  obtain ⟨a, xs, rfl, hs, ha⟩ := dp_tup hd
  have hlx : xs.length = r.length := by rw [ha.len, List.length_map]
  walk_at "w"
  refine for_tup (xs := xs) (fun i σ H1 => ∃ y2 y3 y4, σ = [some (.ref a), some (.str (sg (heardAs (r.take i) c))), y2, y3, y4] ∧ H1 = H) ⟨none, none, none, rfl, rfl⟩ (fun i σ H1 _ p => by obtain ⟨_, _, _, _, rfl⟩ := p; exact hs) ?_ ?_
  · rintro i v σ H1 hv ⟨y2, y3, y4, rfl, rfl⟩
    obtain ⟨f, hf, dd⟩ := row_get K ha hv
    obtain ⟨b, rfl, hb⟩ := folk_inv dd
    have hstep : heardAs (r.take (i + 1)) c = heard1 f (heardAs (r.take i) c) := by
      rw [List.take_add_one, hf]
      exact heardAs_snoc f _ c
    rw [hstep]
    cases f with
    | hears u v =>
      have hb' : SqT K H1 b [.str "hears", .str (sg u), .str (sg v)] := hb
      walk_at "w"
      refine w_dT rfl ?_
      walk_at "w"
      refine w_ifB (fun e => ?_) (fun e => ?_)
      · have e' : heardAs (r.take i) c = u := sg_inj (bT e)
        walk_at "w"
        rw [show heard1 (.hears u v) (heardAs (r.take i) c) = v from if_pos e']
        exact ⟨_, _, _, rfl, rfl⟩
      · have e' : ¬ heardAs (r.take i) c = u := fun h => (bF e) (congrArg sg h)
        walk_at "w"
        rw [show heard1 (.hears u v) (heardAs (r.take i) c) = heardAs (r.take i) c from if_neg e']
        exact ⟨_, _, _, rfl, rfl⟩
    | ctr tw e c0 =>
      have hb' : SqT K H1 b [.str (kindOf tw), .int (e : Nat), .int (c0 : Nat)] := hb
      walk_at "w"
      refine w_dF (kind_nh tw) ?_
      walk_at "w"
      exact ⟨_, _, _, rfl, rfl⟩
  · rintro σ H1 ⟨y2, y3, y4, rfl, rfl⟩
    rw [hlx, List.take_length]
    walk_at "w"
    exact q
theorem sem_letter_out : ∀ vs H Q E, sp_letter_out K vs H Q E → t_letter_out K { nx := fun _ H' => Q .non H', rt := Q } (start ["row", "letter"] vs) H := by
  rintro vs H Q E ⟨x, r, c, rfl, hd, hR, hc, q⟩
  show t_letter_out K _ [some x, some (.str (sg c))] H
  unfold t_letter_out
  walk_at "w"
  refine ⟨x, rowD r, rfl, hd, fit_row r, isRow_of hR, fun H1 s1 => ?_⟩
  walk_at "w"
  refine ⟨_, .str (sg c), rfl, .str _, decide_eq_true (show (sg c).length ≤ 10000 by rw [lenS_sg]; decide), ?_⟩
  rw [isLetter_sg hc]
  walk_at "w"
  refine iteF ?_
  walk_at "w"
  exact ⟨x, r, c, rfl, s1.dat hd, q H1 s1⟩
theorem sem_come_alike : ∀ vs H Q E, sp_come_alike K vs H Q E → t_come_alike K { nx := fun _ H' => Q .non H', rt := Q } (start ["row", "word", "other"] vs) H := by
  rintro vs H Q E ⟨x, r, w, w2, rfl, hd, hR, hw, hw2, q⟩
  show t_come_alike K _ [some x, some (.str (tx w)), some (.str (tx w2))] H
  unfold t_come_alike
  have hl := hR.1
  have h1 := hw.1
  have h2 := hw2.1
  walk_at "w"
  refine ⟨x, rowD r, rfl, hd, fit_row r, isRow_of hR, fun H1 s1 => ?_⟩
  walk_at "w"
  refine ⟨_, .str (tx w), rfl, .str _, fit_tx (by omega), isWord_of hw, fun H2 s2 => ?_⟩
  walk_at "w"
  refine ⟨_, .str (tx w2), rfl, .str _, fit_tx (by omega), isWord_of hw2, fun H3 s3 => ?_⟩
  have hd3 := s3.dat (s2.dat (s1.dat hd))
  walk_at "w"
  refine ⟨x, r, w, rfl, hd3, rok_of hR, by omega, by omega, fun H4 s4 => ?_⟩
  walk_at "w"
  refine ⟨x, r, w2, rfl, s4.dat hd3, rok_of hR, by omega, by omega, fun H5 s5 => ?_⟩
  refine w_eqW ?_
  exact q H5 ((((s1.trans s2).trans s3).trans s4).trans s5)
theorem sem_l_letter : ∀ vs H Q E, sp_l_letter K vs H Q E → t_l_letter K { nx := fun _ H' => Q .non H', rt := Q } (start ["bag", "wide"] vs) H := by
  rintro vs H Q E ⟨b, wide, rfl, hb, h0, h26, q⟩
  show t_l_letter K _ [some (.ref b), some (.int (wide : Nat))] H
  unfold t_l_letter
  walk_at "w"
  refine ⟨b, (wide : Int), rfl, hb, by omega, fun k H1 hk dr => ?_⟩
  refine w_ixS alpha_len (alpha_at k (by omega)) ?_
  exact q (97 + k) H1 (by omega) (by omega) dr
theorem sem_l_a_word : ∀ vs H Q E, sp_l_a_word K vs H Q E → t_l_a_word K { nx := fun _ H' => Q .non H', rt := Q } (start ["bag", "most", "wide", "turn"] vs) H := by
  rintro vs H Q E ⟨b, most, wide, rfl, hb, hm, h0, h26, q⟩
  show t_l_a_word K _ [some (.ref b), some (.int (most : Nat)), some (.int (wide : Nat)), none] H
  unfold t_l_a_word
  walk_at "w"
  refine ⟨b, (most : Int) + 1, rfl, hb, by omega, fun n H1 hn dr1 => ?_⟩
  walk_at "w"
  refine ⟨(n : Nat), rfl, by omega, by omega, fun D nD => ?_⟩
  have neD : D ≠ b := bag_ne dr1.b1 nD
  refine lc_it walk_range (fun i H2 => ∃ w : List Nat, Dr K b H1 H2 ∧ H2 D = some (.lst (vS w)) ∧ w.length = i ∧ ∀ c ∈ w, 97 ≤ c ∧ c < 97 + wide) ⟨[], .of_same (same_new nD) dr1.b1, upd_same, rfl, fun c hc => by cases hc⟩ (fun _ _ _ _ => trivial) ?_ ?_
  · rintro i x H2 H2' hi ⟨w, dr2, hD, hl, hw⟩ ⟨rfl, rfl⟩
    rw [Int.toNat_natCast] at hi
    show gName 3 _ [some (.ref b), some (.int (most : Nat)), some (.int (wide : Nat)), none] _ _
    walk_at "w"
    refine ⟨rfl, ?_⟩
    walk_at "w"
    refine ⟨b, wide, rfl, dr2.b1, h0, h26, fun c H3 hc1 hc2 dr3 => ?_⟩
    have hD3 : H3 D = some (.lst (vS w)) := dr3.at hD neD
    refine ⟨_, hD3, szLt _ (by rw [List.length_map]; omega), w ++ [c], (dr2.trans dr3).mut nD (bag_mut K dr3.b1 hD3 (by rw [List.length_map]; omega) neD), by rw [upd_same]; unfold vS; rw [List.map_append]; rfl, by rw [List.length_append, hl]; rfl, fun d hd => ?_⟩
    rcases List.mem_append.mp hd with hd | hd
    · exact hw d hd
    · rw [List.mem_singleton.mp hd]; exact ⟨hc1, hc2⟩
  · rintro H2 ⟨w, dr2, hD, hl, hw⟩
    rw [Int.toNat_natCast] at hl
    walk_at "w"
    have e : vS w = (w.map sg).map V.str := by rw [List.map_map]; rfl
    refine w_joinQ (w.map sg) (sqL_at (by rw [hD, e])) ?_ ?_
    · rw [sum_ones, show (Str.ofString "").length = 0 by decide +kernel, Nat.mul_zero]
      omega
    · rw [join_strs, flat_sg]
      exact q w H2 (by omega) hw (dr1.trans dr2)
theorem sem_l_comes : ∀ vs H Q E, sp_l_comes K vs H Q E → t_l_comes K { nx := fun _ H' => Q .non H', rt := Q } (start ["house", "word", "counts", "found", "sign"] vs) H := by
  rintro vs H Q E ⟨x, r, w, rfl, hd, hr, hl, hw, q⟩
  show t_l_comes K _ [some x, some (.str (tx w)), none, none, none] H
  unfold t_l_comes
  walk_at "w"
  refine ⟨x, r, rfl, hd, by omega, fun H1 cl s1 ncl hcl => ?_⟩
  walk_at "w"
  refine ⟨szOk 0, fun fo nfo => ?_⟩
  have ncl2 : cl ≠ fo := ne_of_none hcl nfo
  walk_at "w"
  have hd1 := s1.dat hd
  refine for_it (walk_str (z := tx w)) (fun i σ H2 => ∃ y4, σ = [some x, some (.str (tx w)), some (.ref cl), some (.ref fo), y4] ∧ Same H H2 ∧ H2 cl = some (.lst (vI (feed r (begun r) (w.take i)).2)) ∧ H2 fo = some (.lst (vT (feed r (begun r) (w.take i)).1))) ?_ (fun _ _ _ _ _ => trivial) ?_ ?_
  · exact ⟨none, rfl, s1.trans (same_new nfo), (same_new nfo) _ _ hcl, upd_same⟩
  · rintro i y σ H2 H2' hi ⟨y4, rfl, s2, hc2, hf2⟩ ⟨rfl, c, hc, rfl⟩
    have hc' : w[i]? = some c := by rw [← Array.getElem?_toList] at hc; exact hc
    have hiw : i < w.length := (List.getElem?_eq_some_iff.mp hc').1
    walk_at "w"
    have hfl : (feed r (begun r) (w.take i)).2.length = r.length := by
      have := congrArg Prod.snd (feed_told r (w.take i) (begun r))
      rw [show (feed r (begun r) (w.take i)).2 = (told r (begun r) (w.take i)).2 from this, told_len, begun_len]
    refine ⟨x, r, cl, _, c, rfl, s2.dat hd, hr, hl, hfl, hc2, fun H3 m3 hc3 => ?_⟩
    have hf3 : H3 fo = some (.lst (vT (feed r (begun r) (w.take i)).1)) := m3.but _ _ ncl2.symm hf2
    have hfl1 : (feed r (begun r) (w.take i)).1.length = min i w.length := by rw [feed_len, List.length_take]
    walk_at "w"
    refine w_append hf3 (szLt _ (by rw [List.length_map]; omega)) ?_
    walk_at "w"
    have e : feed r (begun r) (w.take (i + 1)) = ((feed r (begun r) (w.take i)).1 ++ [(told r (feed r (begun r) (w.take i)).2 [c]).1], (told r (feed r (begun r) (w.take i)).2 [c]).2) := by
      rw [List.take_add_one, hc']
      exact feed_app r _ [c] _
    refine ⟨_, rfl, same_mut (fun p o e => m3.but p o (ne_of_none e ncl) (s2 _ _ e)) (s1.free nfo), ?_, ?_⟩
    · rw [upd_ne ncl2, e]; exact hc3
    · rw [upd_same, e]; unfold vT; rw [List.map_append]; rfl
  · rintro σ H2 ⟨y4, rfl, s2, hc2, hf2⟩
    have : w.take (tx w).cps.size = w := List.take_of_length_le (Nat.le_refl _)
    rw [this] at hf2
    walk_at "w"
    refine w_joinT (sqL_at hf2) ?_ ?_
    · rw [← comes_feed]
      have h1 := comes_len2 r w
      have h2 : 2 ^ r.length ≤ 2 ^ 6 := Nat.pow_le_pow_right (by decide) hl
      have h3 : 2 ^ r.length * w.length ≤ 2 ^ 6 * 10000 := Nat.mul_le_mul h2 hw
      have h4 : 2 ^ 6 * 10000 ≤ 1000000 := by decide
      omega
    · rw [← comes_feed]
      exact q H2 s2
end
end HH

namespace HH
open PySem PySem.Spec L2
/-! ### when it goes round -/
/-- so many signs more, so many more come -/
def Per (A : Nat → Nat) (s t : Nat) : Prop := ∀ n, A (n + s) = A n + t
theorem Per.mul {A : Nat → Nat} {s t : Nat} (h : Per A s t) : ∀ k, Per A (s * k) (t * k)
  | 0, n => rfl
  | k + 1, n => by
    rw [Nat.mul_succ, Nat.mul_succ, ← Nat.add_assoc, h, h.mul k n, Nat.add_assoc]
def wr : Row → Nat → Nat → Nat × Nat
  | [], s, t => (s, t)
  | .hears _ _ :: r, s, t => wr r s t
  | .ctr tw e _ :: r, s, t => wr r (s * (e / Nat.gcd t e)) (passed (.ctr tw e 0) (t * (e / Nat.gcd t e)))
def whole (r : Row) : Nat := (wr r 1 1).1
theorem pas0 {tw : Bool} {e : Nat} (he : 2 ≤ e) (x : Nat) : passed (.ctr tw e 0) (e * x) = if tw then e * x + x else e * x - x := by
  show (if tw then e * x + (e * x + 0) / e else e * x - (e * x + 0) / e) = _
  rw [Nat.add_zero, Nat.mul_div_cancel_left x (by omega)]
theorem pas_per {tw : Bool} {e c : Nat} (he : 2 ≤ e) (hc : c < e) (n x : Nat) : passed (.ctr tw e c) (n + e * x) = passed (.ctr tw e c) n + passed (.ctr tw e 0) (e * x) := by
  rw [pas0 he]
  have e1 : (n + e * x + c) / e = (n + c) / e + x := by
    rw [show n + e * x + c = (n + c) + e * x by omega, Nat.add_mul_div_left _ _ (by omega)]
  have h1 := div_le_self' (n := n) he hc
  have h2 : x ≤ e * x := Nat.le_mul_of_pos_left x (by omega)
  cases tw with
  | true =>
    show n + e * x + (n + e * x + c) / e = n + (n + c) / e + (e * x + x)
    omega
  | false =>
    show n + e * x - (n + e * x + c) / e = n - (n + c) / e + (e * x - x)
    omega
theorem pas0_mul {tw : Bool} {e : Nat} (he : 2 ≤ e) (x k : Nat) : passed (.ctr tw e 0) (e * x * k) = passed (.ctr tw e 0) (e * x) * k := by
  rw [Nat.mul_assoc, pas0 he, pas0 he]
  cases tw with
  | true =>
    show e * (x * k) + x * k = (e * x + x) * k
    rw [Nat.add_mul, Nat.mul_assoc]
  | false =>
    show e * (x * k) - x * k = (e * x - x) * k
    rw [Nat.sub_mul, Nat.mul_assoc]
theorem gcd_mul {t e : Nat} (he : 0 < e) : t * (e / Nat.gcd t e) = e * (t / Nat.gcd t e) := by
  have h1 := Nat.div_mul_cancel (Nat.gcd_dvd_right t e)
  have h2 := Nat.div_mul_cancel (Nat.gcd_dvd_left t e)
  generalize Nat.gcd t e = g at *
  calc t * (e / g) = (t / g * g) * (e / g) := by rw [h2]
    _ = (e / g * g) * (t / g) := by ac_rfl
    _ = e * (t / g) := by rw [h1]
theorem wr_per : ∀ (r : Row) (s t : Nat) (A : Nat → Nat), rok r → Per A s t → Per (fun n => allCome r (A n)) (wr r s t).1 (wr r s t).2
  | [], s, t, A, _, h => h
  | .hears a b :: r, s, t, A, hr, h => wr_per r s t A (rok_tail hr) h
  | .ctr tw e c :: r, s, t, A, hr, h => by
    have hf : fok (.ctr tw e c) := hr _ List.mem_cons_self
    refine wr_per r _ _ (fun n => passed (.ctr tw e c) (A n)) (rok_tail hr) fun n => ?_
    show passed (.ctr tw e c) (A (n + s * (e / Nat.gcd t e))) = _
    rw [h.mul (e / Nat.gcd t e) n, gcd_mul (by have := hf.1; omega), pas_per hf.1 hf.2.2]
theorem wr_dvd : ∀ (r : Row) (s t : Nat), s ∣ (wr r s t).1
  | [], s, t => Nat.dvd_refl s
  | .hears a b :: r, s, t => wr_dvd r s t
  | .ctr tw e c :: r, s, t => Nat.dvd_trans (Nat.dvd_mul_right _ _) (wr_dvd r _ _)
theorem wr_bound : ∀ (r : Row) (s t : Nat), rok r → 1 ≤ s → 1 ≤ t → (1 ≤ (wr r s t).1 ∧ (wr r s t).1 ≤ s * 6 ^ r.length) ∧ 1 ≤ (wr r s t).2
  | [], s, t, _, hs, ht => ⟨⟨hs, by show s ≤ s * 1; omega⟩, ht⟩
  | .hears a b :: r, s, t, hr, hs, ht => by
    have ih := wr_bound r s t (rok_tail hr) hs ht
    refine ⟨⟨ih.1.1, Nat.le_trans ih.1.2 (Nat.mul_le_mul_left s ?_)⟩, ih.2⟩
    show 6 ^ r.length ≤ 6 ^ (r.length + 1)
    exact Nat.pow_le_pow_right (by decide) (by omega)
  | .ctr tw e c :: r, s, t, hr, hs, ht => by
    have hf : fok (.ctr tw e c) := hr _ List.mem_cons_self
    have hg : 0 < Nat.gcd t e := Nat.gcd_pos_of_pos_left e (by omega)
    have hm : 0 < e / Nat.gcd t e := Nat.div_pos (Nat.gcd_le_right t (by have := hf.1; omega)) hg
    have hm6 : e / Nat.gcd t e ≤ 6 := Nat.le_trans (Nat.div_le_self _ _) hf.2.1
    have h1 : 1 ≤ s * (e / Nat.gcd t e) := Nat.mul_pos (by omega) hm
    have hx : 0 < t / Nat.gcd t e := Nat.div_pos (Nat.gcd_le_left e (by omega)) hg
    have h2 : 1 ≤ passed (.ctr tw e 0) (t * (e / Nat.gcd t e)) := by
      rw [gcd_mul (by have := hf.1; omega), pas0 hf.1]
      have h3 : 2 * (t / Nat.gcd t e) ≤ e * (t / Nat.gcd t e) := Nat.mul_le_mul_right _ hf.1
      split <;> omega
    have ih := wr_bound r _ _ (rok_tail hr) h1 h2
    refine ⟨⟨ih.1.1, Nat.le_trans ih.1.2 ?_⟩, ih.2⟩
    show s * (e / Nat.gcd t e) * 6 ^ r.length ≤ s * 6 ^ (r.length + 1)
    rw [Nat.pow_succ, Nat.mul_comm (6 ^ r.length) 6, ← Nat.mul_assoc]
    exact Nat.mul_le_mul_right _ (Nat.mul_le_mul_left _ hm6)
theorem whole_pos {r : Row} (h : rok r) : 1 ≤ whole r := (wr_bound r 1 1 h (Nat.le_refl 1) (Nat.le_refl 1)).1.1
theorem whole_le {r : Row} (h : rok r) (hl : r.length ≤ 4) : whole r ≤ 1296 := by
  have h1 := (wr_bound r 1 1 h (Nat.le_refl 1) (Nat.le_refl 1)).1.2
  have h2 : 6 ^ r.length ≤ 6 ^ 4 := Nat.pow_le_pow_right (by decide) hl
  have h3 : 6 ^ 4 = 1296 := rfl
  show (wr r 1 1).1 ≤ 1296
  omega
/-- of sign i, counted from none, so many come -/
def dl (r : Row) (i : Nat) : Nat := allCome r (i + 1) - allCome r i
def PerD (r : Row) (k : Nat) : Prop := ∀ i, dl r (i + k) = dl r i
theorem allCome_succ {r : Row} (h : rok r) (n : Nat) : allCome r (n + 1) = allCome r n + dl r n := by
  have : allCome r n ≤ allCome r (n + 1) := allCome_mono h (Nat.le_succ n)
  unfold dl
  omega
theorem perD_per {r : Row} (h : rok r) {k : Nat} (p : PerD r k) : Per (allCome r) k (allCome r k) := by
  intro n
  induction n with
  | zero => rw [Nat.zero_add, allCome_zero h, Nat.zero_add]
  | succ n ih => rw [show n + 1 + k = (n + k) + 1 by omega, allCome_succ h, ih, p, allCome_succ h]; omega
theorem per_perD {r : Row} {k t : Nat} (p : Per (allCome r) k t) : PerD r k := by
  intro i
  have h1 := p i
  have h2 := p (i + 1)
  unfold dl
  rw [show i + k + 1 = i + 1 + k by omega, h1, h2]
  omega
theorem perD_whole {r : Row} (h : rok r) : PerD r (whole r) := per_perD (wr_per r 1 1 id h fun _ => rfl)
theorem PerD.mul {r : Row} {k : Nat} (h : PerD r k) : ∀ j, PerD r (k * j)
  | 0, i => rfl
  | j + 1, i => by rw [Nat.mul_succ, ← Nat.add_assoc, h, h.mul j i]
theorem PerD.mod {r : Row} {k : Nat} (h : PerD r k) (i : Nat) : dl r (i % k) = dl r i := by
  have := h.mul (i / k) (i % k)
  rw [Nat.mod_add_div] at this
  exact this.symm
def IsLeast (r : Row) (p : Nat) : Prop := 1 ≤ p ∧ PerD r p ∧ ∀ k, PerD r k → p ∣ k
theorem least_of_min {r : Row} {p : Nat} (h1 : 1 ≤ p) (hp : PerD r p) (hm : ∀ k, 1 ≤ k → k < p → ¬ PerD r k) : IsLeast r p := by
  refine ⟨h1, hp, fun k hk => ?_⟩
  have h2 : PerD r (k % p) := fun i => by
    have h3 := hp.mul (k / p) (i + k % p)
    rw [show i + k % p + p * (k / p) = i + k by rw [Nat.add_assoc, Nat.mod_add_div]] at h3
    rw [← h3, hk]
  rcases Nat.eq_zero_or_pos (k % p) with h | h
  · exact Nat.dvd_of_mod_eq_zero h
  · exact absurd h2 (hm _ h (Nat.mod_lt _ (by omega)))
theorem least_ex {r : Row} : ∀ (n : Nat) {k : Nat}, k ≤ n → 1 ≤ k → PerD r k → ∃ p, IsLeast r p
  | 0, k, h, h1, _ => by omega
  | n + 1, k, h, h1, hk => by
    by_cases hm : ∃ j, 1 ≤ j ∧ j < k ∧ PerD r j
    · obtain ⟨j, j1, j2, j3⟩ := hm
      exact least_ex n (by omega) j1 j3
    · exact ⟨k, least_of_min h1 hk fun j j1 j2 j3 => hm ⟨j, j1, j2, j3⟩⟩
theorem least_uniq {r : Row} {p q : Nat} (hp : IsLeast r p) (hq : IsLeast r q) : p = q := Nat.dvd_antisymm (hp.2.2 q hq.2.1) (hq.2.2 p hp.2.1)
noncomputable def lp (r : Row) : Nat := @dite _ (∃ p, IsLeast r p) (Classical.propDecidable _) (fun h => Classical.choose h) (fun _ => 0)
theorem lp_spec {r : Row} (h : rok r) : IsLeast r (lp r) := by
  have e : ∃ p, IsLeast r p := least_ex _ (Nat.le_refl _) (whole_pos h) (perD_whole h)
  unfold lp
  rw [dif_pos e]
  exact Classical.choose_spec e
theorem lp_eq {r : Row} (h : rok r) {p : Nat} (hp : IsLeast r p) : lp r = p := least_uniq (lp_spec h) hp
/-- the steps -/
def stp' (r : Row) (n : Nat) : List Nat := (List.range n).map (dl r)
theorem stp_len (r : Row) (n : Nat) : (stp' r n).length = n := by unfold stp'; rw [List.length_map, List.length_range]
theorem stp_get (r : Row) {n i : Nat} (h : i < n) : (stp' r n)[i]? = some (dl r i) := by
  unfold stp'
  rw [List.getElem?_map, List.getElem?_range h]
  rfl
theorem ext_get {a b : List Nat} {n : Nat} (ha : a.length = n) (hb : b.length = n) (h : ∀ i, i < n → a[i]? = b[i]?) : a = b := by
  apply List.ext_getElem?
  intro i
  rcases Nat.lt_or_ge i n with h1 | h1
  · exact h i h1
  · rw [List.getElem?_eq_none (by omega), List.getElem?_eq_none (by omega)]
theorem copies_len (r : Row) (n : Nat) : (copies r n).length = n := by
  unfold copies
  rw [List.length_map, feed_len]
  exact List.length_replicate
theorem copies_stp {r : Row} (h : rok r) (n : Nat) : copies r n = stp' r n := by
  refine ext_get (copies_len r n) (stp_len r n) fun i hi => ?_
  rw [stp_get r hi]
  have h1 := copies_sum h i n (by omega)
  have h2 := copies_sum h (i + 1) n (by omega)
  have hi' : i < (copies r n).length := by rw [copies_len]; exact hi
  rw [List.take_add_one, List.getElem?_eq_getElem hi', List.sum_append, h1] at h2
  rw [List.getElem?_eq_getElem hi']
  have h3 : ([(copies r n)[i]] : List Nat).sum = (copies r n)[i] := by simp
  rw [show (some (copies r n)[i]).toList = [(copies r n)[i]] from rfl, h3] at h2
  congr 1
  unfold dl
  omega
theorem rot_iff {r : Row} {W k : Nat} (hW : PerD r W) (hk : k ≤ W) : (stp' r W).drop k ++ (stp' r W).take k = stp' r W ↔ PerD r k := by
  have hl : ((stp' r W).drop k).length = W - k := by rw [List.length_drop, stp_len]
  have hg : ∀ i, i < W → ((stp' r W).drop k ++ (stp' r W).take k)[i]? = some (dl r (i + k)) := by
    intro i hi
    rcases Nat.lt_or_ge i (W - k) with h | h
    · rw [List.getElem?_append_left (by omega), List.getElem?_drop, stp_get r (by omega), Nat.add_comm]
    · rw [List.getElem?_append_right (by omega), hl, List.getElem?_take_of_lt (by omega), stp_get r (by omega)]
      have := hW (i - (W - k))
      rw [show i - (W - k) + W = i + k by omega] at this
      rw [this]
  refine ⟨fun e i => ?_, fun h => ?_⟩
  · rcases Nat.eq_zero_or_pos W with h0 | h0
    · have : k = 0 := by omega
      rw [this]; rfl
    · have hi : i % W < W := Nat.mod_lt _ h0
      have h1 := hg (i % W) hi
      rw [e, stp_get r hi] at h1
      have h2 : dl r (i % W) = dl r (i % W + k) := Option.some.inj h1
      rw [hW.mod] at h2
      rw [h2]
      have h3 := hW.mul (i / W) (i % W + k)
      rw [show i % W + k + W * (i / W) = i + k by have := Nat.mod_add_div i W; omega] at h3
      exact h3
  · refine ext_get (by rw [List.length_append, hl, List.length_take, stp_len]; omega) (stp_len r W) fun i hi => ?_
    rw [hg i hi, stp_get r hi, h]
theorem cut_iff {r : Row} {S k : Nat} (hS : PerD r S) (h1 : 1 ≤ S) (n : Nat) (hn : S + k ≤ n) : ((stp' r n).take (k + S)).drop k = (stp' r n).take S ↔ PerD r k := by
  have e2 : (stp' r n).take S = stp' r S := by
    refine ext_get (by rw [List.length_take, stp_len]; omega) (stp_len r S) fun i hi => ?_
    rw [List.getElem?_take_of_lt hi, stp_get r (by omega), stp_get r hi]
  have hg : ∀ i, i < S → (((stp' r n).take (k + S)).drop k)[i]? = some (dl r (i + k)) := by
    intro i hi
    rw [List.getElem?_drop, List.getElem?_take_of_lt (by omega), stp_get r (by omega), Nat.add_comm]
  rw [e2]
  refine ⟨fun e i => ?_, fun h => ?_⟩
  · have hi : i % S < S := Nat.mod_lt _ h1
    have h2 := hg (i % S) hi
    rw [e, stp_get r hi] at h2
    have h3 : dl r (i % S) = dl r (i % S + k) := Option.some.inj h2
    rw [hS.mod] at h3
    rw [h3]
    have h4 := hS.mul (i / S) (i % S + k)
    rw [show i % S + k + S * (i / S) = i + k by have := Nat.mod_add_div i S; omega] at h4
    exact h4
  · refine ext_get (by rw [List.length_drop, List.length_take, stp_len]; omega) (stp_len r S) fun i hi => ?_
    rw [hg i hi, stp_get r hi, h]
/-- the counts behind n signs -/
def cn (r : Row) (n : Nat) : List Nat := (feed r (begun r) (qs n)).2
theorem cn_succ (r : Row) (n : Nat) : cn r (n + 1) = (told r (cn r n) [113]).2 := by
  unfold cn
  rw [show qs (n + 1) = qs n ++ [113] from List.replicate_succ', feed_app]
  rfl
theorem copies_succ (r : Row) (n : Nat) : copies r (n + 1) = copies r n ++ [(told r (cn r n) [113]).1.length] := by
  unfold copies cn
  rw [show qs (n + 1) = qs n ++ [113] from List.replicate_succ', feed_app, List.map_append]
  rfl
theorem dl_cn {r : Row} (h : rok r) (n : Nat) : dl r n = (told r (cn r n) [113]).1.length := by
  have h1 := copies_stp h (n + 1)
  have h2 := stp_get r (Nat.lt_succ_self n)
  rw [← h1, copies_succ, List.getElem?_append_right (by rw [copies_len]; exact Nat.le_refl n), copies_len, Nat.sub_self] at h2
  exact (Option.some.inj h2).symm
theorem cn_back {r : Row} {M : Nat} (h : cn r M = begun r) : ∀ i, cn r (i + M) = cn r i
  | 0 => by rw [Nat.zero_add, h]; rfl
  | i + 1 => by
    rw [show i + 1 + M = (i + M) + 1 by omega, cn_succ, cn_back h i, ← cn_succ]
theorem perD_back {r : Row} (hr : rok r) {M : Nat} (h : cn r M = begun r) : PerD r M := fun i => by
  rw [dl_cn hr, dl_cn hr, cn_back h]
/-- the counts behind n signs, one behind the other -/
def cnr : Row → Nat → List Nat
  | [], _ => []
  | .hears a b :: r, n => 0 :: cnr r n
  | .ctr tw e c :: r, n => (c + n) % e :: cnr r (passed (.ctr tw e c) n)
theorem told_cnr : ∀ {r : Row}, rok r → ∀ ss : List Nat, (told r (begun r) ss).2 = cnr r ss.length
  | [], _, _ => rfl
  | .hears a b :: r, h, ss => by
    show (runOne (.hears a b) 0 ss).2 :: (told r (begun r) (runOne (.hears a b) 0 ss).1).2 = 0 :: cnr r ss.length
    rw [told_cnr (rok_tail h), run_hears, List.length_map]
  | .ctr tw e c :: r, h, ss => by
    have hf : fok (.ctr tw e c) := h _ List.mem_cons_self
    have := run_ctr tw e hf.1 c ss c hf.2.2
    show (runOne (.ctr tw e c) c ss).2 :: (told r (begun r) (runOne (.ctr tw e c) c ss).1).2 = _
    rw [told_cnr (rok_tail h), this.1, this.2.1]
    rfl
theorem cn_cnr {r : Row} (h : rok r) (n : Nat) : cn r n = cnr r n := by
  have h1 : cn r n = (told r (begun r) (qs n)).2 := congrArg Prod.snd (feed_told r (qs n) (begun r))
  rw [h1, told_cnr h]
  congr 1
  exact List.length_replicate
theorem cnr_whole : ∀ {r : Row}, rok r → ∀ (s t j : Nat), 1 ≤ s → (wr r s t).1 ∣ s * j → cnr r (t * j) = begun r
  | [], _, _, _, _, _, _ => rfl
  | .hears a b :: r, h, s, t, j, hs, hd => by
    show 0 :: cnr r (t * j) = 0 :: begun r
    rw [cnr_whole (rok_tail h) s t j hs hd]
  | .ctr tw e c :: r, h, s, t, j, hs, hd => by
    have hf : fok (.ctr tw e c) := h _ List.mem_cons_self
    have h1 : s * (e / Nat.gcd t e) ∣ s * j := Nat.dvd_trans (wr_dvd r _ _) hd
    have h2 : (e / Nat.gcd t e) ∣ j := Nat.dvd_of_mul_dvd_mul_left (by omega) h1
    obtain ⟨x, rfl⟩ := h2
    have e1 : t * (e / Nat.gcd t e * x) = e * (t / Nat.gcd t e) * x := by rw [← Nat.mul_assoc, gcd_mul (by have := hf.1; omega)]
    have hm : 0 < e / Nat.gcd t e := Nat.div_pos (Nat.gcd_le_right t (by have := hf.1; omega)) (Nat.gcd_pos_of_pos_right t (by have := hf.1; omega))
    show (c + t * (e / Nat.gcd t e * x)) % e :: cnr r (passed (.ctr tw e c) (t * (e / Nat.gcd t e * x))) = c :: begun r
    have e2 : passed (.ctr tw e c) (t * (e / Nat.gcd t e * x)) = passed (.ctr tw e 0) (t * (e / Nat.gcd t e)) * x := by
      have := pas_per (tw := tw) hf.1 hf.2.2 0 (t / Nat.gcd t e * x)
      rw [passed_zero hf, Nat.zero_add, Nat.zero_add] at this
      rw [e1, Nat.mul_assoc, this, gcd_mul (by have := hf.1; omega), ← Nat.mul_assoc, pas0_mul hf.1]
    rw [e2, cnr_whole (rok_tail h) (s * (e / Nat.gcd t e)) _ x (Nat.mul_pos (by omega) hm) (by rw [Nat.mul_assoc]; exact hd)]
    rw [e1, Nat.mul_assoc, Nat.add_mul_mod_self_left, Nat.mod_eq_of_lt hf.2.2]
theorem cn_whole {r : Row} (h : rok r) : cn r (whole r) = begun r := by
  rw [cn_cnr h]
  have := cnr_whole h 1 1 (whole r) (Nat.le_refl 1) (by rw [Nat.one_mul]; exact Nat.dvd_refl _)
  rw [Nat.one_mul] at this
  exact this
end HH

namespace HH
open PySem PySem.Spec L2
local macro_rules | `(tactic| walk_at "cy") => `(tactic| first
  | assumption
  | exact L2.upd_same
  | exact L2.sqL_new
  | exact L2.sqT_new
  | exact L2.sqL_at (by assumption)
  | exact L2.sqT_at (by assumption)
  | (refine' L2.Same.seq (by assumption) ?k0; (case k0 => walk_at "cy"))
  | (refine' L2.Same.sqT (by assumption) ?k0; (case k0 => walk_at "cy"))
  | (refine' L2.Same.dat (by assumption) ?k0; (case k0 => walk_at "cy"))
  | (refine' (by assumption : L2.Same _ _) _ _ ?k0; (case k0 => walk_at "cy"))
  | (refine' L2.Same.seq (L2.same_new (by assumption)) ?k0; (case k0 => walk_at "cy"))
  | (refine' L2.Same.sqT (L2.same_new (by assumption)) ?k0; (case k0 => walk_at "cy"))
  | (refine' L2.Same.dat (L2.same_new (by assumption)) ?k0; (case k0 => walk_at "cy"))
  | (refine' L2.same_new (by assumption) _ _ ?k0; (case k0 => walk_at "cy"))
  | (refine' L2.Mv.sqT (by assumption) ?k0; (case k0 => walk_at "cy")))
local macro_rules | `(tactic| walk_at "w") => `(tactic| repeat (first
  | refine HH.stp ?_
  | with_reducible refine L2.iteT ?_
  | with_reducible refine L2.iteF ?_
  | ((with_reducible refine' HH.w_gtup ?k1 ?k2 ?_); (case k1 => walk_at "cy"); (case k2 => exact rfl))
  | ((with_reducible refine' HH.w_ixT ?k1 ?k2 ?_); (case k1 => walk_at "cy"); (case k2 => exact rfl))
  | ((with_reducible refine' HH.w_ixL ?k1 ?k2 ?_); (case k1 => walk_at "cy"); (case k2 => exact rfl))
  | ((with_reducible refine' HH.w_lenL ?k1 ?_); (case k1 => walk_at "cy"))
  | ((with_reducible refine' HH.w_lenT ?k1 ?_); (case k1 => walk_at "cy"))
  | ((with_reducible refine' HH.w_exT ?k1 ?_); (case k1 => walk_at "cy"))
  | ((with_reducible refine' HH.w_exL ?k1 ?_); (case k1 => walk_at "cy"))
  | ((with_reducible refine' HH.w_tyL ?k1 ?_); (case k1 => walk_at "cy"))
  | ((with_reducible refine' HH.w_setL ?k1 ?k2 ?_); (case k1 => walk_at "cy"); (case k2 => exact rfl))
  | ((with_reducible refine' HH.w_modI ?k1 ?_); (case k1 => first | (with_reducible assumption) | omega))
  | ((with_reducible refine' HH.w_divI ?k1 ?_); (case k1 => (constructor <;> omega)))))
local macro_rules | `(tactic| walk_at "v") => `(tactic| ((repeat ((fail_if_success (with_reducible refine HH.isIf ?_)); first
  | refine HH.stp ?_
  | with_reducible refine L2.iteT ?_
  | with_reducible refine L2.iteF ?_
  | ((with_reducible refine' HH.w_gtup ?k1 ?k2 ?_); (case k1 => walk_at "cy"); (case k2 => exact rfl))
  | ((with_reducible refine' HH.w_ixT ?k1 ?k2 ?_); (case k1 => walk_at "cy"); (case k2 => exact rfl))
  | ((with_reducible refine' HH.w_ixL ?k1 ?k2 ?_); (case k1 => walk_at "cy"); (case k2 => exact rfl))
  | ((with_reducible refine' HH.w_lenL ?k1 ?_); (case k1 => walk_at "cy"))
  | ((with_reducible refine' HH.w_lenT ?k1 ?_); (case k1 => walk_at "cy"))
  | ((with_reducible refine' HH.w_exT ?k1 ?_); (case k1 => walk_at "cy"))
  | ((with_reducible refine' HH.w_exL ?k1 ?_); (case k1 => walk_at "cy"))
  | ((with_reducible refine' HH.w_tyL ?k1 ?_); (case k1 => walk_at "cy"))
  | ((with_reducible refine' HH.w_setL ?k1 ?k2 ?_); (case k1 => walk_at "cy"); (case k2 => exact rfl))
  | ((with_reducible refine' HH.w_modI ?k1 ?_); (case k1 => first | (with_reducible assumption) | omega))
  | ((with_reducible refine' HH.w_divI ?k1 ?_); (case k1 => (constructor <;> omega)))))); (try (with_reducible refine HH.isIf ?_)))
/-! ### lists of numbers compared -/
def dI (cs : List Nat) : List PyData := cs.map fun c => .int (c : Nat)
theorem dI_dp {K : PySem.W.Frag} {H : Hp} : ∀ cs : List Nat, DpAll K H (vI cs) (dI cs)
  | [] => .nil
  | c :: cs => .cons (.int _) (dI_dp cs)
theorem dI_lay : ∀ cs : List Nat, PyData.canLayAll0 (dI cs) = true
  | [] => rfl
  | c :: cs => by
    show (true && PyData.canLayAll0 (dI cs)) = true
    rw [dI_lay cs]
    rfl
theorem dI_depth : ∀ cs : List Nat, PyData.depthAll (dI cs) = 0
  | [] => rfl
  | c :: cs => by
    show max 0 (PyData.depthAll (dI cs)) = 0
    rw [dI_depth cs]
    rfl
theorem dI_eqv : ∀ a b : List Nat, PyData.eqvAll (dI a) (dI b) = bD (a = b)
  | [], [] => (bD_t rfl).symm
  | x :: a, y :: b => by
    show (((x : Int) == (y : Int)) && PyData.eqvAll (dI a) (dI b)) = _
    rw [dI_eqv a b]
    by_cases h : x = y
    · subst h
      rw [show ((x : Int) == (x : Int)) = true from beq_self_eq_true _, Bool.true_and]
      exact bD_congr ⟨fun h => by rw [h], fun h => (List.cons.inj h).2⟩
    · rw [show ((x : Int) == (y : Int)) = false from beq_false_of_ne (by omega), Bool.false_and]
      exact (bD_f fun e => h (List.cons.inj e).1).symm
  | [], _ :: _ => (bD_f (fun e => by cases e)).symm
  | _ :: _, [] => (bD_f (fun e => by cases e)).symm
theorem shp_L (cs : List Nat) : SeqAt.shaped (.list (dI cs)) = true := by
  show (PyData.canLayAll0 (dI cs) && decide (PyData.depthAll (dI cs) + 1 ≤ 64)) = true
  rw [dI_lay, dI_depth]
  rfl
theorem shp_T (cs : List Nat) : SeqAt.shaped (.tuple (dI cs)) = true := by
  show (PyData.canLayAll0 (dI cs) && decide (PyData.depthAll (dI cs) + 1 ≤ 64)) = true
  rw [dI_lay, dI_depth]
  rfl
section
variable {K : PySem.W.Frag} {H : Hp} {Q : VK} {p p' : Addr} {a b : List Nat}
theorem w_eqL (h1 : SqL K H p (vI a)) (h2 : SqL K H p' (vI b)) (q : Q (.bl (bD (a = b))) H) : rEqD K (.ref p) (.ref p') H Q :=
  ⟨.list (dI a), .list (dI b), .lst h1 (dI_dp a), .lst h2 (dI_dp b), shp_L a, shp_L b, by rw [show PyData.eqv (.list (dI a)) (.list (dI b)) = bD (a = b) from dI_eqv a b]; exact q⟩
theorem w_neL (h1 : SqL K H p (vI a)) (h2 : SqL K H p' (vI b)) (q : Q (.bl (!bD (a = b))) H) : rNeD K (.ref p) (.ref p') H Q :=
  ⟨.list (dI a), .list (dI b), .lst h1 (dI_dp a), .lst h2 (dI_dp b), shp_L a, shp_L b, by rw [show PyData.eqv (.list (dI a)) (.list (dI b)) = bD (a = b) from dI_eqv a b]; exact q⟩
theorem w_eqT (h1 : SqT K H p (vI a)) (h2 : SqT K H p' (vI b)) (q : Q (.bl (bD (a = b))) H) : rEqD K (.ref p) (.ref p') H Q :=
  ⟨.tuple (dI a), .tuple (dI b), .tup h1 (dI_dp a), .tup h2 (dI_dp b), shp_T a, shp_T b, by rw [show PyData.eqv (.tuple (dI a)) (.tuple (dI b)) = bD (a = b) from dI_eqv a b]; exact q⟩
theorem w_neT (h1 : SqT K H p (vI a)) (h2 : SqT K H p' (vI b)) (q : Q (.bl (!bD (a = b))) H) : rNeD K (.ref p) (.ref p') H Q :=
  ⟨.tuple (dI a), .tuple (dI b), .tup h1 (dI_dp a), .tup h2 (dI_dp b), shp_T a, shp_T b, by rw [show PyData.eqv (.tuple (dI a)) (.tuple (dI b)) = bD (a = b) from dI_eqv a b]; exact q⟩
theorem w_catI (h1 : H p = some (.lst (vI a))) (h2 : H p' = some (.lst (vI b))) (z : a.length + b.length ≤ 10000000) (q : ∀ o, H o = none → Q (.ref o) (upd H o (.lst (vI (a ++ b))))) : rCat (.ref p) (.ref p') H Q :=
  w_cat h1 h2 (by rw [List.length_map, List.length_map]; exact szOk _ z) fun o no => by
    have := q o no
    unfold vI at this ⊢
    rw [List.map_append] at this
    exact this
end
section
variable (K : PySem.W.Frag)
def sp_common (_ : PySem.W.Frag) : Sp := fun vs H Q _ => ∃ (a b : Nat), vs = [.int (a : Nat), .int (b : Nat)] ∧ Q (.int (Nat.gcd a b : Nat)) H
def sp_whole_round : Sp := fun vs H Q _ => ∃ (x : V) (r : Row), vs = [x] ∧ Dp K H x (rowD r) ∧ rok r ∧ ∀ H', Same H H' → Q (.int (whole r : Nat)) H'
def sp_steps : Sp := fun vs H Q _ => ∃ (x : V) (r : Row) (n : Nat), vs = [x, .int (n : Nat)] ∧ Dp K H x (rowD r) ∧ rok r ∧ n ≤ 100000 ∧ ∀ (H' : Hp) (p : Addr), Same H H' → H p = none → H' p = some (.lst (vI (stp' r n))) → Q (.ref p) H'
def sp_least_round : Sp := fun vs H Q _ => ∃ (x : V) (r : Row), vs = [x] ∧ Dp K H x (rowD r) ∧ rok r ∧ r.length ≤ 4 ∧ ∀ H', Same H H' → Q (.int (lp r : Nat)) H'
def sp_round_of : Sp := fun vs H Q _ => ∃ (x : V) (r : Row), vs = [x] ∧ Dp K H x (rowD r) ∧ Row.Ok r ∧ ∀ (H' : Hp) (p : Addr), Same H H' → H p = none → H' p = some (.tup (vI [lp r, allCome r (lp r)])) → Q (.ref p) H'
theorem len_common : ∀ vs H Q E, sp_common K vs H Q E → vs.length = 2 := by rintro _ _ _ _ ⟨_, _, rfl, _⟩; rfl
theorem len_whole_round : ∀ vs H Q E, sp_whole_round K vs H Q E → vs.length = 1 := by rintro _ _ _ _ ⟨_, _, rfl, _⟩; rfl
theorem len_steps : ∀ vs H Q E, sp_steps K vs H Q E → vs.length = 2 := by rintro _ _ _ _ ⟨_, _, _, rfl, _⟩; rfl
theorem len_least_round : ∀ vs H Q E, sp_least_round K vs H Q E → vs.length = 1 := by rintro _ _ _ _ ⟨_, _, rfl, _⟩; rfl
theorem len_round_of : ∀ vs H Q E, sp_round_of K vs H Q E → vs.length = 1 := by rintro _ _ _ _ ⟨_, _, rfl, _⟩; rfl
end
def t_common (K : PySem.W.Frag) : TS :=
  (tSeq (tWhile (tTest (tOp rNe (tVar 1) (tC (.int 0)))) (tPar 0 1 (tCons (tVar 1) (tCons (tOp rModI (tVar 0) (tVar 1)) tNil))))
  (tRet (tVar 0)))

def t_whole_round (K : PySem.W.Frag) : TS :=
  (tSeq (tAsg (tTup (tCons (tC (.int 1)) (tCons (tC (.int 1)) tNil))) (gTup K 2 (gCons (gName 1) (gCons (gName 2) gNil))))
  (tSeq (tFor (iTup K (tVar 0)) (gName 3)
  (tIfS (tTest (tOp rNe (tOp (rIxT K) (tVar 3) (tC (.int 0))) (tC (.str "hears")))) (tSeq (tAsg (tOp rDivI (tOp (rIxT K) (tVar 3) (tC (.int 1))) (tCall (sp_common K) [] E0 (tCons (tVar 2) (tCons (tOp (rIxT K) (tVar 3) (tC (.int 1))) tNil)))) (gName 4))
  (tSeq (tPar 1 2 (tCons (tOp rMulI (tVar 1) (tVar 4)) (tCons (tOp rMulI (tVar 2) (tVar 4)) tNil)))
  (tAsg (tCall (sp_passed K) [] E0 (tCons (tTup (tCons (tOp (rIxT K) (tVar 3) (tC (.int 0))) (tCons (tOp (rIxT K) (tVar 3) (tC (.int 1))) (tCons (tC (.int 0)) tNil)))) (tCons (tVar 2) tNil))) (gName 2)))) tNext))
  (tRet (tVar 1))))

def t_steps (K : PySem.W.Frag) : TS :=
  (tSeq (tAsg (tLc (iRng1 (tCons (tOp rAddI (tVar 1) (tC (.int 1))) tNil)) (gName 3) tYes (tCall (sp_all_come K) [] E0 (tCons (tVar 0) (tCons (tVar 3) tNil))) [3]) (gName 2))
  (tRet (tLc (iZip K (tCons (tVar 2) (tCons (tSl (rSlL K) (tVar 2) (tPart (tC (.int 1))) tNoPart) tNil))) (gTup K 2 (gCons (gName 4) (gCons (gName 5) gNil))) tYes (tOp rSubI (tVar 5) (tVar 4)) [4, 5])))

def t_least_round (K : PySem.W.Frag) : TS :=
  (tSeq (tAsg (tCall (sp_whole_round K) [] E0 (tCons (tVar 0) tNil)) (gName 1))
  (tSeq (tAsg (tCall (sp_steps K) [] E0 (tCons (tVar 0) (tCons (tVar 1) tNil))) (gName 2))
  (tSeq (tFor (iRng2 (tCons (tC (.int 1)) (tCons (tOp rAddI (tVar 1) (tC (.int 1))) tNil))) (gName 3)
  (tIfS (tAnd (tTest (tOp rEq (tOp rModI (tVar 1) (tVar 3)) (tC (.int 0)))) (tTest (tOp (rEqD K) (tOp rCat (tSl (rSlL K) (tVar 2) (tPart (tVar 3)) tNoPart) (tSl (rSlL K) (tVar 2) tNoPart (tPart (tVar 3)))) (tVar 2)))) (tRet (tVar 3)) tNext))
  (tRet (tVar 1)))))

def t_round_of (K : PySem.W.Frag) : TS :=
  (tSeq (tDrop (tCall (sp_need_row K) [] E0 (tCons (tVar 0) tNil)))
  (tSeq (tAsg (tCall (sp_least_round K) [] E0 (tCons (tVar 0) tNil)) (gName 1))
  (tRet (tTup (tCons (tVar 1) (tCons (tCall (sp_all_come K) [] E0 (tCons (tVar 0) (tCons (tVar 1) tNil))) tNil))))))

theorem w_iZ {K : PySem.W.Frag} {ta : TA} {σ : St} {H : Hp} {R : It → Hp → Prop} (h : ta σ H fun vs H1 => ∃ a b xs ys, vs = [.ref a, .ref b] ∧ SqL K H1 a xs ∧ SqL K H1 b ys ∧ R (Itz K a b) H1) : iZip K ta σ H R := h
theorem vI_get {cs : List Nat} {i : Nat} {x : V} (h : (vI cs)[i]? = some x) : ∃ c, cs[i]? = some c ∧ x = .int (c : Nat) := by
  rw [List.getElem?_map] at h
  cases e : cs[i]? with
  | none => rw [e] at h; cases h
  | some c => rw [e] at h; cases h; exact ⟨c, rfl, rfl⟩
section
variable (K : PySem.W.Frag)
theorem sem_common : ∀ vs H Q E, sp_common K vs H Q E → t_common K { nx := fun _ H' => Q .non H', rt := Q } (start ["one", "other"] vs) H := by
  rintro vs H Q E ⟨a, b, rfl, q⟩
  show t_common K _ [some (.int (a : Nat)), some (.int (b : Nat))] H
  unfold t_common
  walk_at "w"
  refine ⟨fun m σ H1 => ∃ a' b' : Nat, σ = [some (.int (a' : Nat)), some (.int (b' : Nat))] ∧ Nat.gcd a' b' = Nat.gcd a b ∧ m = b' ∧ H1 = H, ⟨b, a, b, rfl, rfl, rfl, rfl⟩, ?_⟩
  rintro m σ H1 ⟨a', b', rfl, hg, rfl, rfl⟩
  walk_at "w"
  by_cases h0 : m = 0
  · subst h0
    rw [bD_t (by rfl : (((0 : Nat) : Int)) = 0)]
    refine iteF ?_
    walk_at "w"
    rw [Nat.gcd_zero_right] at hg
    rw [hg]
    exact q
  · rw [bD_f (by omega : ¬ (m : Int) = 0)]
    refine iteT ?_
    refine ⟨_, fun σ' H' q' => q', ?_⟩
    walk_at "w"
    refine ⟨a' % m, Nat.mod_lt _ (by omega), m, a' % m, rfl, ?_, rfl, rfl⟩
    rw [← hg, Nat.gcd_comm a' m, Nat.gcd_rec m a', Nat.gcd_comm]
theorem sem_whole_round : ∀ vs H Q E, sp_whole_round K vs H Q E → t_whole_round K { nx := fun _ H' => Q .non H', rt := Q } (start ["row", "signs", "there", "one", "times"] vs) H := by
  rintro vs H Q E ⟨x, r, rfl, hd, hr, q⟩
  show t_whole_round K _ [some x, none, none, none, none] H
  unfold t_whole_round
  obtain ⟨a, xs, rfl, hs, ha⟩ := dp_tup hd
  have hlx : xs.length = r.length := by rw [ha.len, List.length_map]
  walk_at "w"
  refine ⟨szOk 2, fun o0 no0 => ?_⟩
  walk_at "w"
  have hs0 : SqT K (upd H o0 (.tup [.int 1, .int 1])) a xs := (same_new no0).sqT hs
  refine for_tup (xs := xs) (fun i σ H1 => ∃ (s t : Nat) (y3 y4 : Option V), wr (r.drop i) s t = wr r 1 1 ∧ σ = [some (.ref a), some (.int (s : Nat)), some (.int (t : Nat)), y3, y4] ∧ Same H H1) ⟨1, 1, none, none, by rw [List.drop_zero], rfl, same_new no0⟩ (fun i σ H1 _ p => by obtain ⟨_, _, _, _, _, _, s⟩ := p; exact s.sqT hs) ?_ ?_
  · rintro i v σ H1 hv ⟨s, t, y3, y4, hw, rfl, sm⟩
    obtain ⟨f, hf, dd⟩ := row_get K ha hv
    obtain ⟨b, rfl, hb⟩ := folk_inv (sm.dat dd)
    have hdr : r.drop i = f :: r.drop (i + 1) := by
      obtain ⟨h1, h2⟩ := List.getElem?_eq_some_iff.mp hf
      rw [List.drop_eq_getElem_cons h1, h2]
    rw [hdr] at hw
    have hfok := hr f (List.mem_of_getElem? hf)
    cases f with
    | hears u v =>
      have hb' : SqT K H1 b [.str "hears", .str (sg u), .str (sg v)] := hb
      walk_at "w"
      refine w_nF rfl ?_
      walk_at "w"
      exact ⟨s, t, _, _, hw, rfl, sm⟩
    | ctr tw e c =>
      have hb' : SqT K H1 b [.str (kindOf tw), .int (e : Nat), .int (c : Nat)] := hb
      obtain ⟨h2, h6, hc⟩ := hfok
      walk_at "w"
      refine w_nT (kind_nh tw) ?_
      walk_at "w"
      refine ⟨t, e, rfl, ?_⟩
      have hg : 0 < Nat.gcd t e := Nat.gcd_pos_of_pos_right t (by omega)
      have hge : Nat.gcd t e ≤ e := Nat.gcd_le_right t (by omega)
      refine w_divI ⟨by omega, by omega⟩ ?_
      have hm6 : e / Nat.gcd t e ≤ 6 := Nat.le_trans (Nat.div_le_self _ _) h6
      have hw' : wr (r.drop (i + 1)) (s * (e / Nat.gcd t e)) (passed (.ctr tw e 0) (t * (e / Nat.gcd t e))) = wr r 1 1 := hw
      rw [show ((e : Int) / ((Nat.gcd t e : Nat) : Int)) = ((e / Nat.gcd t e : Nat) : Int) from rfl]
      generalize e / Nat.gcd t e = m at hm6 hw'
      walk_at "w"
      refine w_mulI (.inr ⟨by omega, by omega⟩) ?_
      walk_at "w"
      refine w_mulI (.inr ⟨by omega, by omega⟩) ?_
      walk_at "w"
      refine ⟨szOk 3, fun o no => ?_⟩
      walk_at "w"
      refine ⟨.ref o, .ctr tw e 0, t * m, rfl, folk_of (f := .ctr tw e 0) sqT_new, ⟨h2, h6, by omega⟩, ?_⟩
      walk_at "w"
      exact ⟨s * m, _, _, _, hw', rfl, sm.trans (same_new no)⟩
  · rintro σ H1 ⟨s, t, y3, y4, hw, rfl, sm⟩
    walk_at "w"
    rw [hlx, List.drop_length] at hw
    have := q H1 sm
    unfold whole at this
    rw [← hw] at this
    exact this
theorem sem_steps : ∀ vs H Q E, sp_steps K vs H Q E → t_steps K { nx := fun _ H' => Q .non H', rt := Q } (start ["row", "many", "counts", "number", "ahead", "later"] vs) H := by
  rintro vs H Q E ⟨x, r, n, rfl, hd, hr, hn, q⟩
  show t_steps K _ [some x, some (.int (n : Nat)), none, none, none, none] H
  unfold t_steps
  walk_at "w"
  refine ⟨(n : Int) + 1, rfl, by omega, by omega, fun D nD => ?_⟩
  refine lc_same walk_range nD [some x, some (.int (n : Nat)), none, none, none, none] rfl (fun i => vI ((List.range i).map (allCome r))) rfl (fun _ _ => trivial) (fun i v H1 H1' hi p y => ?_) (fun H1 s hD => ?_)
  · obtain ⟨rfl, rfl⟩ := y
    walk_at "w"
    refine ⟨rfl, ?_⟩
    walk_at "w"
    refine ⟨x, r, i, by show [x, V.int (0 + (i : Int))] = _; rw [Int.zero_add], p.1.dat hd, hr, ?_⟩
    refine lc_put nD p (Same.refl _) (szLt _ (by rw [List.length_map, List.length_map, List.length_range]; omega)) ?_
    unfold vI
    rw [List.range_succ, List.map_append, List.map_append]
    rfl
  · rw [show ((n : Int) + 1).toNat = n + 1 by omega] at hD
    walk_at "w"
    refine w_iZ ?_
    walk_at "w"
    refine w_slI_from (k := 1) (sqL_at hD) fun o no => ?_
    walk_at "w"
    have hD2 := (same_new (o := .lst (vI (((List.range (n + 1)).map (allCome r)).drop 1))) no) _ _ hD
    refine ⟨D, o, _, _, rfl, sqL_at hD2, sqL_new, fun D2 nD2 => ?_⟩
    have sA := s.trans (same_new (o := .lst (vI (((List.range (n + 1)).map (allCome r)).drop 1))) no)
    refine lc_same (walk_zip (xs := vI ((List.range (n + 1)).map (allCome r))) (ys := vI (((List.range (n + 1)).map (allCome r)).drop 1)) (n := n) (by simp only [vI, List.length_map, List.length_drop, List.length_range]; omega)) nD2 [some x, some (.int (n : Nat)), some (.ref D), none, none, none] rfl (fun i => vI (stp' r i)) rfl (fun H3 s3 => ⟨sqL_at (s3 _ _ hD2), sqL_at (s3 _ _ upd_same)⟩) (fun i v H3 H3' hi p y => ?_) (fun H3 s3 hD3 => ?_)
    · obtain ⟨T, x1, x2, rfl, nT, rfl, h1, h2⟩ := y
      obtain ⟨c1, g1, rfl⟩ := vI_get h1
      obtain ⟨c2, g2, rfl⟩ := vI_get h2
      rw [List.getElem?_drop, List.getElem?_map, List.getElem?_range (by omega)] at g2
      rw [List.getElem?_map, List.getElem?_range (by omega)] at g1
      cases g1
      cases g2
      have hT : SqT K (upd H3 T (.tup [.int (allCome r i : Nat), .int (allCome r (1 + i) : Nat)])) T [.int (allCome r i : Nat), .int (allCome r (1 + i) : Nat)] := sqT_new
      walk_at "w"
      refine ⟨rfl, ?_⟩
      walk_at "w"
      refine lc_put nD2 p (same_new nT) (szLt _ (by rw [List.length_map, stp_len]; omega)) ?_
      have e1 := allCome_succ hr i
      rw [Nat.add_comm 1 i, show ((allCome r (i + 1) : Nat) : Int) - (allCome r i : Nat) = (dl r i : Nat) by omega]
      unfold vI stp'
      rw [List.range_succ, List.map_append, List.map_append]
      rfl
    · exact q H3 D2 (sA.trans s3) (sA.free nD2) hD3
theorem sem_least_round : ∀ vs H Q E, sp_least_round K vs H Q E → t_least_round K { nx := fun _ H' => Q .non H', rt := Q } (start ["row", "signs", "some", "many"] vs) H := by
  rintro vs H Q E ⟨x, r, rfl, hd, hr, hl, q⟩
  show t_least_round K _ [some x, none, none, none] H
  unfold t_least_round
  have hW := perD_whole hr
  have hWp := whole_pos hr
  have hWl := whole_le hr hl
  walk_at "w"
  refine ⟨x, r, rfl, hd, hr, fun H1 s1 => ?_⟩
  generalize whole r = W at hW hWp hWl
  walk_at "w"
  refine ⟨x, r, W, rfl, s1.dat hd, hr, by omega, fun H2 p s2 np hp => ?_⟩
  walk_at "w"
  refine ⟨1, (W : Int) + 1, rfl, ⟨by omega, by omega, by omega, by omega⟩, ?_⟩
  refine for_range (lo := 1) (n := ((W : Int) + 1 - 1).toNat) (fun i σ H3 => ∃ y, σ = [some x, some (.int (W : Nat)), some (.ref p), y] ∧ Same H2 H3 ∧ ∀ k, 1 ≤ k → k ≤ i → k ∣ W → ¬ PerD r k) ⟨none, rfl, Same.refl _, fun k h1 h2 => by omega⟩ ?_ ?_
  · rintro i σ H3 hi ⟨y, rfl, s3, hno⟩
    have hp3 := s3 _ _ hp
    walk_at "w"
    rw [show (1 : Int) + (i : Nat) = ((i + 1 : Nat) : Int) by omega]
    have next : ∀ H4, Same H2 H4 → (i + 1 ∣ W → ¬ PerD r (i + 1)) → ∃ y, [some x, some (.int (W : Nat)), some (.ref p), some (.int ((i + 1 : Nat) : Int))] = [some x, some (.int (W : Nat)), some (.ref p), y] ∧ Same H2 H4 ∧ ∀ k, 1 ≤ k → k ≤ i + 1 → k ∣ W → ¬ PerD r k := fun H4 s4 h => ⟨_, rfl, s4, fun k k1 k2 k3 => by
      rcases Nat.lt_or_ge i k with h5 | h5
      · have : k = i + 1 := by omega
        subst this
        exact h k3
      · exact hno k k1 h5 k3⟩
    rw [show ((W : Int) % ((i + 1 : Nat) : Int)) = ((W % (i + 1) : Nat) : Int) from rfl]
    by_cases hm : W % (i + 1) = 0
    · refine w_dT (by omega) ?_
      walk_at "w"
      refine w_slI_from (sqL_at hp3) fun o no => ?_
      walk_at "w"
      have hp4 := (same_new (o := .lst (vI ((stp' r W).drop (i + 1)))) no) _ _ hp3
      refine w_slI_to (sqL_at hp4) fun o2 no2 => ?_
      refine w_catI ((same_new no2) _ _ upd_same) upd_same (by rw [List.length_drop, List.length_take, stp_len]; omega) fun o3 no3 => ?_
      have hp6 := (same_new (o := .lst (vI ((stp' r W).drop (i + 1) ++ (stp' r W).take (i + 1)))) no3) _ _ ((same_new (o := .lst (vI ((stp' r W).take (i + 1)))) no2) _ _ hp4)
      have s6 := ((s3.trans (same_new (o := .lst (vI ((stp' r W).drop (i + 1)))) no)).trans (same_new (o := .lst (vI ((stp' r W).take (i + 1)))) no2)).trans (same_new (o := .lst (vI ((stp' r W).drop (i + 1) ++ (stp' r W).take (i + 1)))) no3)
      walk_at "w"
      refine w_eqL sqL_new (sqL_at hp6) ?_
      walk_at "w"
      have hdv := Nat.dvd_of_mod_eq_zero hm
      have hle := Nat.le_of_dvd (by omega) hdv
      refine w_ifB (fun e => ?_) (fun e => ?_)
      · have hper := (rot_iff hW hle).mp (bT e)
        walk_at "w"
        have hL : IsLeast r (i + 1) := least_of_min (by omega) hper fun k k1 k2 k3 => by
          have hls := lp_spec hr
          have hd1 := hls.2.2 k k3
          have hd2 := hls.2.2 W hW
          exact hno (lp r) hls.1 (by have := Nat.le_of_dvd (by omega) hd1; omega) hd2 hls.2.1
        have := q _ ((s1.trans s2).trans s6)
        rw [lp_eq hr hL] at this
        exact this
      · walk_at "w"
        exact next _ s6 fun _ h => (bF e) ((rot_iff hW hle).mpr h)
    · refine w_dF (by omega) ?_
      walk_at "w"
      exact next _ s3 fun h => absurd (Nat.mod_eq_zero_of_dvd h) hm
  · rintro σ H3 ⟨y, rfl, s3, hno⟩
    exact absurd hW (hno W hWp (by omega) (Nat.dvd_refl _))
theorem sem_round_of : ∀ vs H Q E, sp_round_of K vs H Q E → t_round_of K { nx := fun _ H' => Q .non H', rt := Q } (start ["row", "many"] vs) H := by
  rintro vs H Q E ⟨x, r, rfl, hd, hR, q⟩
  show t_round_of K _ [some x, none] H
  unfold t_round_of
  walk_at "w"
  refine ⟨x, rowD r, rfl, hd, fit_row r, isRow_of hR, fun H1 s1 => ?_⟩
  walk_at "w"
  refine ⟨x, r, rfl, s1.dat hd, rok_of hR, hR.1, fun H2 s2 => ?_⟩
  walk_at "w"
  refine ⟨x, r, lp r, rfl, s2.dat (s1.dat hd), rok_of hR, ?_⟩
  walk_at "w"
  refine ⟨szOk 2, fun p np => ?_⟩
  exact q _ p ((s1.trans s2).trans (same_new np)) ((s1.trans s2).free np) upd_same
end
end HH

namespace HH
open PySem PySem.Spec L2
local macro_rules | `(tactic| walk_at "cy") => `(tactic| first
  | assumption
  | exact L2.upd_same
  | exact L2.sqL_new
  | exact L2.sqT_new
  | exact L2.sqL_at (by assumption)
  | exact L2.sqT_at (by assumption)
  | (refine' L2.Same.seq (by assumption) ?k0; (case k0 => walk_at "cy"))
  | (refine' L2.Same.sqT (by assumption) ?k0; (case k0 => walk_at "cy"))
  | (refine' L2.Same.dat (by assumption) ?k0; (case k0 => walk_at "cy"))
  | (refine' (by assumption : L2.Same _ _) _ _ ?k0; (case k0 => walk_at "cy"))
  | (refine' L2.Same.seq (L2.same_new (by assumption)) ?k0; (case k0 => walk_at "cy"))
  | (refine' L2.Same.sqT (L2.same_new (by assumption)) ?k0; (case k0 => walk_at "cy"))
  | (refine' L2.Same.dat (L2.same_new (by assumption)) ?k0; (case k0 => walk_at "cy"))
  | (refine' L2.same_new (by assumption) _ _ ?k0; (case k0 => walk_at "cy"))
  | (refine' L2.Mv.sqT (by assumption) ?k0; (case k0 => walk_at "cy")))
local macro_rules | `(tactic| walk_at "w") => `(tactic| repeat (first
  | refine HH.stp ?_
  | with_reducible refine L2.iteT ?_
  | with_reducible refine L2.iteF ?_
  | ((with_reducible refine' HH.w_gtup ?k1 ?k2 ?_); (case k1 => walk_at "cy"); (case k2 => exact rfl))
  | ((with_reducible refine' HH.w_ixT ?k1 ?k2 ?_); (case k1 => walk_at "cy"); (case k2 => exact rfl))
  | ((with_reducible refine' HH.w_ixL ?k1 ?k2 ?_); (case k1 => walk_at "cy"); (case k2 => exact rfl))
  | ((with_reducible refine' HH.w_lenL ?k1 ?_); (case k1 => walk_at "cy"))
  | ((with_reducible refine' HH.w_lenT ?k1 ?_); (case k1 => walk_at "cy"))
  | ((with_reducible refine' HH.w_exT ?k1 ?_); (case k1 => walk_at "cy"))
  | ((with_reducible refine' HH.w_exL ?k1 ?_); (case k1 => walk_at "cy"))
  | ((with_reducible refine' HH.w_tyL ?k1 ?_); (case k1 => walk_at "cy"))
  | ((with_reducible refine' HH.w_setL ?k1 ?k2 ?_); (case k1 => walk_at "cy"); (case k2 => exact rfl))
  | ((with_reducible refine' HH.w_modI ?k1 ?_); (case k1 => first | (with_reducible assumption) | omega))
  | ((with_reducible refine' HH.w_divI ?k1 ?_); (case k1 => (constructor <;> omega)))))
local macro_rules | `(tactic| walk_at "v") => `(tactic| ((repeat ((fail_if_success (with_reducible refine HH.isIf ?_)); first
  | refine HH.stp ?_
  | with_reducible refine L2.iteT ?_
  | with_reducible refine L2.iteF ?_
  | ((with_reducible refine' HH.w_gtup ?k1 ?k2 ?_); (case k1 => walk_at "cy"); (case k2 => exact rfl))
  | ((with_reducible refine' HH.w_ixT ?k1 ?k2 ?_); (case k1 => walk_at "cy"); (case k2 => exact rfl))
  | ((with_reducible refine' HH.w_ixL ?k1 ?k2 ?_); (case k1 => walk_at "cy"); (case k2 => exact rfl))
  | ((with_reducible refine' HH.w_lenL ?k1 ?_); (case k1 => walk_at "cy"))
  | ((with_reducible refine' HH.w_lenT ?k1 ?_); (case k1 => walk_at "cy"))
  | ((with_reducible refine' HH.w_exT ?k1 ?_); (case k1 => walk_at "cy"))
  | ((with_reducible refine' HH.w_exL ?k1 ?_); (case k1 => walk_at "cy"))
  | ((with_reducible refine' HH.w_tyL ?k1 ?_); (case k1 => walk_at "cy"))
  | ((with_reducible refine' HH.w_setL ?k1 ?k2 ?_); (case k1 => walk_at "cy"); (case k2 => exact rfl))
  | ((with_reducible refine' HH.w_modI ?k1 ?_); (case k1 => first | (with_reducible assumption) | omega))
  | ((with_reducible refine' HH.w_divI ?k1 ?_); (case k1 => (constructor <;> omega)))))); (try (with_reducible refine HH.isIf ?_)))
section
variable (K : PySem.W.Frag)
/-- the bags, while one is drawn from -/
theorem bags_dr {H H' : Hp} {b p : Addr} {bs : List Addr} (d : Dr K b H H') (h : H p = some (.lst (bs.map V.ref)) ∧ ∀ c ∈ bs, BagOk K H c ∧ p ≠ c) (hb : b ∈ bs) : H' p = some (.lst (bs.map V.ref)) ∧ ∀ c ∈ bs, BagOk K H' c ∧ p ≠ c :=
  ⟨d.at h.1 (h.2 b hb).2, fun c hc => ⟨d.bag (h.2 c hc).1, (h.2 c hc).2⟩⟩
theorem dp_lit {H : Hp} {p q : Addr} {tw : Bool} {e c : Nat} (hq : H q = some (.tup [.str (kindOf tw), .int (e : Nat), .int (c : Nat)])) (hp : H p = some (.tup [.ref q])) : Dp K H (.ref p) (rowD [.ctr tw e c]) :=
  .tup (sqT_at hp) (.cons (folk_of (f := .ctr tw e c) (sqT_at hq)) .nil)
theorem ok_ctr {tw : Bool} {e c : Nat} (h1 : 2 ≤ e) (h2 : e ≤ 6) (h3 : c < e) : Folk.ok (.ctr tw e c) = true := by
  show (decide (2 ≤ e) && decide (e ≤ 6) && decide (c < e)) = true
  rw [decide_eq_true h1, decide_eq_true h2, decide_eq_true h3]
  rfl
theorem rowOk_1 {f : Folk} (h : f.ok = true) : Row.Ok [f] := ⟨by show 1 ≤ 4; decide, fun g hg => by rw [List.mem_singleton.mp hg]; exact h⟩
end
/-! ### the law's least round -/
theorem rep_get {r : Row} {k m i : Nat} (hk : 0 < k) (hi : i < k * m) : (List.replicate m (stp' r k)).flatten[i]? = some (dl r (i % k)) := by
  induction m generalizing i with
  | zero => omega
  | succ m ih =>
    rw [List.replicate_succ, List.flatten_cons]
    rcases Nat.lt_or_ge i k with h | h
    · rw [List.getElem?_append_left (by rw [stp_len]; exact h), stp_get r h, Nat.mod_eq_of_lt h]
    · rw [List.getElem?_append_right (by rw [stp_len]; exact h), stp_len, ih (by rw [Nat.mul_succ] at hi; omega)]
      congr 2
      rw [← Nat.mod_eq_sub_mod h]
theorem stp_take {r : Row} {k n : Nat} (h : k ≤ n) : (stp' r n).take k = stp' r k := by
  refine ext_get (by rw [List.length_take, stp_len]; omega) (stp_len r k) fun i hi => ?_
  rw [List.getElem?_take_of_lt hi, stp_get r (by omega), stp_get r hi]
theorem rep_iff {r : Row} {M k : Nat} (hM : PerD r M) (h1 : 1 ≤ M) (hk : 0 < k) (hd : k ∣ M) : stp' r M = ((List.replicate M (stp' r k)).flatten).take M ↔ PerD r k := by
  have hg : ∀ i, i < M → (((List.replicate M (stp' r k)).flatten).take M)[i]? = some (dl r (i % k)) := fun i hi => by
    have : M ≤ k * M := Nat.le_mul_of_pos_left M hk
    rw [List.getElem?_take_of_lt hi, rep_get hk (by omega)]
  refine ⟨fun e i => ?_, fun h => ?_⟩
  · have h2 : ∀ i, i < M → dl r i = dl r (i % k) := fun i hi => by
      have h3 := hg i hi
      rw [← e, stp_get r hi] at h3
      exact Option.some.inj h3
    have h4 : ∀ i, dl r i = dl r (i % k) := fun i => by
      rw [← hM.mod i, h2 _ (Nat.mod_lt _ (by omega)), Nat.mod_mod_of_dvd i hd]
    rw [h4 (i + k), h4 i, Nat.add_mod_right]
  · refine ext_get (stp_len r M) ?_ fun i hi => ?_
    · rw [List.length_take]
      have h5 : (List.replicate M (stp' r k)).flatten.length = M * k := by
        rw [List.length_flatten, List.map_replicate, stp_len]
        simp
      have h6 : M ≤ M * k := Nat.le_mul_of_pos_right M hk
      omega
    · rw [hg i hi, stp_get r hi, h.mod]
section
variable (K : PySem.W.Frag)
def sp_l_undoing : Sp := fun vs H Q _ => ∃ (b : Addr) (x : V) (r : Row), vs = [.ref b, x] ∧ BagOk K H b ∧ Dp K H x (rowD r) ∧ r.length ≤ 2 ∧ (∀ f ∈ r, f.ok = true) ∧
  ∀ (v : V) (r' : Row) (H' : Hp), Dr K b H H' → Row.Ok r' → Dp K H' v (rowD r') → Q v H'
def sp_l_least_round : Sp := fun vs H Q _ => ∃ (x : V) (r : Row), vs = [x] ∧ Dp K H x (rowD r) ∧ Row.Ok r ∧ ∀ (H' : Hp) (p : Addr), Same H H' → H p = none → H' p = some (.tup (vI [lp r, allCome r (lp r)])) → Q (.ref p) H'
theorem len_l_undoing : ∀ vs H Q E, sp_l_undoing K vs H Q E → vs.length = 2 := by rintro _ _ _ _ ⟨_, _, _, rfl, _⟩; rfl
theorem len_l_least_round : ∀ vs H Q E, sp_l_least_round K vs H Q E → vs.length = 1 := by rintro _ _ _ _ ⟨_, _, rfl, _⟩; rfl
end
def t_l_undoing (K : PySem.W.Frag) : TS :=
  (tSeq (tAsg (tOp rAddI (tC (.int 2)) (tCall (sp_l_take K) [] E0 (tCons (tVar 0) (tCons (tC (.int 4)) tNil)))) (gName 2))
  (tSeq (tAsg (tCall (sp_l_take K) [] E0 (tCons (tVar 0) (tCons (tVar 2) tNil))) (gName 3))
  (tSeq (tAsg (tTup (tCons (tTup (tCons (tC (.str "twice")) (tCons (tVar 2) (tCons (tVar 3) tNil)))) (tCons (tTup (tCons (tC (.str "drop")) (tCons (tOp rAddI (tVar 2) (tC (.int 1))) (tCons (tOp rAddI (tVar 3) (tCall (sp_l_take K) [] E0 (tCons (tVar 0) (tCons (tC (.int 2)) tNil)))) tNil)))) tNil))) (gName 4))
  (tSeq (tAsg (tCall (sp_l_take K) [] E0 (tCons (tVar 0) (tCons (tOp rAddI (tCB (rLenQ K) (tCons (tVar 1) tNil)) (tC (.int 1))) tNil))) (gName 5))
  (tRet (tOp (rCatA K) (tOp (rCatA K) (tSl (rSlA K) (tVar 1) tNoPart (tPart (tVar 5))) (tVar 4)) (tSl (rSlA K) (tVar 1) (tPart (tVar 5)) tNoPart)))))))

def t_l_least_round (K : PySem.W.Frag) : TS :=
  (tSeq (tPar 1 2 (tCons (tCall (sp_l_begun K) [] E0 (tCons (tVar 0) tNil)) (tCons (tC (.int 0)) tNil)))
  (tSeq (tWhile (tOr (tTest (tOp rEq (tVar 2) (tC (.int 0)))) (tTest (tOp (rNeD K) (tVar 1) (tCall (sp_l_begun K) [] E0 (tCons (tVar 0) tNil))))) (tSeq (tDrop (tCall (sp_l_told_on K) [] E0 (tCons (tVar 0) (tCons (tVar 1) (tCons (tC (.str "q")) tNil)))))
  (tAsg (tOp rAddI (tVar 2) (tC (.int 1))) (gName 2))))
  (tSeq (tAsg (tOp (rIxT K) (tCall (sp_l_copies K) [] E0 (tCons (tVar 0) (tCons (tVar 2) tNil))) (tC (.int 0))) (gName 3))
  (tSeq (tFor (iRng2 (tCons (tC (.int 1)) (tCons (tOp rAddI (tVar 2) (tC (.int 1))) tNil))) (gName 4)
  (tIfS (tAnd (tTest (tOp rEq (tOp rModI (tVar 2) (tVar 4)) (tC (.int 0)))) (tTest (tOp (rEqD K) (tVar 3) (tSl (rSlL K) (tOp rRep (tSl (rSlL K) (tVar 3) tNoPart (tPart (tVar 4))) (tVar 2)) tNoPart (tPart (tVar 2)))))) (tRet (tTup (tCons (tVar 4) (tCons (tCB (rSum K) (tCons (tSl (rSlL K) (tVar 3) tNoPart (tPart (tVar 4))) tNil)) tNil)))) tNext))
  (tRet (tC .non))))))

section
variable (K : PySem.W.Frag)
theorem sem_l_undoing : ∀ vs H Q E, sp_l_undoing K vs H Q E → t_l_undoing K { nx := fun _ H' => Q .non H', rt := Q } (start ["bag", "house", "every", "counted", "pair", "at"] vs) H := by
  rintro vs H Q E ⟨b, x, r, rfl, hb, hd, hl, hok, q⟩
  show t_l_undoing K _ [some (.ref b), some x, none, none, none, none] H
  unfold t_l_undoing
  walk_at "w"
  refine ⟨b, 4, rfl, hb, by decide, fun e0 H1 he0 d1 => ?_⟩
  walk_at "w"
  refine ⟨b, _, rfl, d1.b1, by omega, fun c H2 hc d2 => ?_⟩
  walk_at "w"
  refine ⟨szOk 3, fun p1 n1 => ?_⟩
  walk_at "w"
  refine ⟨b, 2, rfl, (d2.new n1).b1, by decide, fun k H3 hk d3 => ?_⟩
  walk_at "w"
  refine ⟨szOk 3, fun p2 n2 => ?_⟩
  walk_at "w"
  refine ⟨szOk 2, fun p3 n3 => ?_⟩
  walk_at "w"
  have f1 : Dp K (upd H2 p1 (.tup [.str "twice", .int (2 + (e0 : Int)), .int (c : Nat)])) (.ref p1) (folkD (.ctr true (2 + e0) c)) := folk_of (f := .ctr true (2 + e0) c) sqT_new
  have o1 : Folk.ok (.ctr true (2 + e0) c) = true := ok_ctr (by omega) (by omega) (by omega)
  have f1' := (same_new (o := .tup [.ref p1, .ref p2]) n3).dat ((same_new (o := .tup [.str "drop", .int (2 + (e0 : Int) + 1), .int ((c : Int) + (k : Int))]) n2).dat (d3.dat (noL_folk _) f1))
  have f2 : Dp K (upd H3 p2 (.tup [.str "drop", .int (2 + (e0 : Int) + 1), .int ((c : Int) + (k : Int))])) (.ref p2) (folkD (.ctr false (2 + e0 + 1) (c + k))) := folk_of (f := .ctr false (2 + e0 + 1) (c + k)) sqT_new
  have o2 : Folk.ok (.ctr false (2 + e0 + 1) (c + k)) = true := ok_ctr (by omega) (by omega) (by omega)
  have f2' := (same_new (o := .tup [.ref p1, .ref p2]) n3).dat f2
  have hp : Dp K (upd (upd H3 p2 (.tup [.str "drop", .int (2 + (e0 : Int) + 1), .int ((c : Int) + (k : Int))])) p3 (.tup [.ref p1, .ref p2])) (.ref p3) (rowD [.ctr true (2 + e0) c, .ctr false (2 + e0 + 1) (c + k)]) := .tup sqT_new (.cons f1' (.cons f2' .nil))
  have dd := ((((d1.trans d2).new (o := .tup [.str "twice", .int (2 + (e0 : Int)), .int (c : Nat)]) n1).trans d3).new (o := .tup [.str "drop", .int (2 + (e0 : Int) + 1), .int ((c : Int) + (k : Int))]) n2).new (o := .tup [.ref p1, .ref p2]) n3
  generalize upd (upd H3 p2 (.tup [.str "drop", .int (2 + (e0 : Int) + 1), .int ((c : Int) + (k : Int))])) p3 (.tup [.ref p1, .ref p2]) = H4 at hp dd
  have hd4 := dd.row hd
  refine w_lenR hd4 ?_
  walk_at "w"
  refine ⟨b, _, rfl, dd.b1, by omega, fun at' H5 hat d5 => ?_⟩
  have hd5 := d5.row hd4
  have hp5 := d5.row hp
  walk_at "w"
  refine w_slR_to hd5 fun v1 H6 s6 hv1 => ?_
  walk_at "w"
  refine w_catR hv1 (s6.dat hp5) (by rw [List.length_take]; show _ + 2 ≤ 10000; omega) fun v2 H7 s7 hv2 => ?_
  walk_at "w"
  refine w_slR_from (s7.dat (s6.dat hd5)) fun v3 H8 s8 hv3 => ?_
  refine w_catR (s8.dat hv2) hv3 (by rw [List.length_append, List.length_take, List.length_drop]; show _ + 2 + _ ≤ 10000; omega) fun v4 H9 s9 hv4 => ?_
  refine q v4 _ H9 ((((dd.trans d5).same s6).same s7).same s8 |>.same s9) ⟨?_, fun f hf => ?_⟩ hv4
  · rw [List.length_append, List.length_append, List.length_take, List.length_drop]
    show min at' r.length + 2 + _ ≤ 4
    omega
  · rcases List.mem_append.mp hf with hf | hf
    · rcases List.mem_append.mp hf with hf | hf
      · exact hok f (List.mem_of_mem_take hf)
      · rcases List.mem_cons.mp hf with hf | hf
        · rw [hf]; exact o1
        · rw [List.mem_singleton.mp hf]; exact o2
    · exact hok f (List.mem_of_mem_drop hf)
theorem w_ne0 {H : Hp} {p p' : Addr} {Q : VK} {a b : List Nat} (h1 : H p = some (.lst (vI a))) (h2 : H p' = some (.lst (vI b))) (q : Q (.bl (!bD (a = b))) H) : rNeD K (.ref p) (.ref p') H Q := w_neL (sqL_at h1) (sqL_at h2) q
theorem sem_l_least_round : ∀ vs H Q E, sp_l_least_round K vs H Q E → t_l_least_round K { nx := fun _ H' => Q .non H', rt := Q } (start ["house", "counts", "many", "copies", "least"] vs) H := by
  rintro vs H Q E ⟨x, r, rfl, hd, hR, q⟩
  show t_l_least_round K _ [some x, none, none, none, none] H
  unfold t_l_least_round
  have hro := rok_of hR
  have hl := hR.1
  have hWp := whole_pos hro
  have hWl := whole_le hro hl
  walk_at "w"
  refine ⟨x, r, rfl, hd, by omega, fun H1 cl s1 ncl hcl => ?_⟩
  walk_at "w"
  refine ⟨fun m σ H2 => ∃ n, σ = [some x, some (.ref cl), some (.int (n : Nat)), none, none] ∧ n ≤ whole r ∧ m = whole r - n ∧ Same H H2 ∧ H2 cl = some (.lst (vI (cn r n))), ⟨_, 0, rfl, by omega, rfl, s1, hcl⟩, ?_⟩
  rintro m σ H2 ⟨n, rfl, hnW, rfl, s2, hc2⟩
  have more : n = 0 ∨ cn r n ≠ begun r → n < whole r := fun h => by
    rcases h with h | h
    · omega
    · rcases Nat.lt_or_ge n (whole r) with h2 | h2
      · exact h2
      · have : n = whole r := by omega
        rw [this] at h
        exact absurd (cn_whole hro) h
  have body : ∀ (H3 : Hp) (D : Ends), n < whole r → Same H2 H3 → (∀ H4, Same H H4 → H4 cl = some (.lst (vI (cn r (n + 1)))) → D.nx [some x, some (.ref cl), some (.int ((n + 1 : Nat) : Int)), none, none] H4) →
      tSeq (tDrop (tCall (sp_l_told_on K) [] E0 (tCons (tVar 0) (tCons (tVar 1) (tCons (tC (.str "q")) tNil))))) (tAsg (tOp rAddI (tVar 2) (tC (.int 1))) (gName 2)) D [some x, some (.ref cl), some (.int (n : Nat)), none, none] H3 := by
    intro H3 D hn s3 k
    walk_at "w"
    have hcl2 : (cn r n).length = r.length := by
      rw [show cn r n = (told r (begun r) (qs n)).2 from congrArg Prod.snd (feed_told r (qs n) (begun r)), told_len]
      exact List.length_map _
    refine ⟨x, r, cl, cn r n, 113, by rw [q_sg]; rfl, s3.dat (s2.dat hd), hro, by omega, hcl2, s3 _ _ hc2, fun H4 m4 hc4 => ?_⟩
    walk_at "w"
    exact k H4 (fun p o e => m4.but p o (ne_of_none e ncl) ((s2.trans s3) _ _ e)) (by rw [cn_succ]; exact hc4)
  -- behind the while
  have fin : ∀ H3, Same H2 H3 → 1 ≤ n → cn r n = begun r → (tSeq (tAsg (tOp (rIxT K) (tCall (sp_l_copies K) [] E0 (tCons (tVar 0) (tCons (tVar 2) tNil))) (tC (.int 0))) (gName 3))
  (tSeq (tFor (iRng2 (tCons (tC (.int 1)) (tCons (tOp rAddI (tVar 2) (tC (.int 1))) tNil))) (gName 4)
  (tIfS (tAnd (tTest (tOp rEq (tOp rModI (tVar 2) (tVar 4)) (tC (.int 0)))) (tTest (tOp (rEqD K) (tVar 3) (tSl (rSlL K) (tOp rRep (tSl (rSlL K) (tVar 3) tNoPart (tPart (tVar 4))) (tVar 2)) tNoPart (tPart (tVar 2)))))) (tRet (tTup (tCons (tVar 4) (tCons (tCB (rSum K) (tCons (tSl (rSlL K) (tVar 3) tNoPart (tPart (tVar 4))) tNil)) tNil)))) tNext))
  (tRet (tC .non)))) { nx := fun _ H' => Q .non H', rt := Q } [some x, some (.ref cl), some (.int (n : Nat)), none, none] H3 := by
    intro H3 s3 hn1 hback
    have hM := perD_back hro hback
    have s3' := s2.trans s3
    walk_at "w"
    refine ⟨x, r, n, rfl, s3'.dat hd, hro, by omega, by omega, fun H4 cp cf cc s4 hcp ncf hcf => ?_⟩
    rw [copies_stp hro] at hcf
    have s4' := s3'.trans s4
    walk_at "w"
    refine ⟨1, (n : Int) + 1, rfl, ⟨by omega, by omega, by omega, by omega⟩, ?_⟩
    refine for_range (lo := 1) (n := ((n : Int) + 1 - 1).toNat) (fun i σ H5 => ∃ y, σ = [some x, some (.ref cl), some (.int (n : Nat)), some (.ref cf), y] ∧ Same H4 H5 ∧ ∀ k, 1 ≤ k → k ≤ i → k ∣ n → ¬ PerD r k) ⟨none, rfl, Same.refl _, fun k h1 h2 => by omega⟩ ?_ ?_
    · rintro i σ H5 hi ⟨y, rfl, s5, hno⟩
      have hp5 := s5 _ _ hcf
      walk_at "w"
      rw [show (1 : Int) + (i : Nat) = ((i + 1 : Nat) : Int) by omega]
      have next : ∀ H6, Same H4 H6 → (i + 1 ∣ n → ¬ PerD r (i + 1)) → ∃ y, [some x, some (.ref cl), some (.int (n : Nat)), some (.ref cf), some (.int ((i + 1 : Nat) : Int))] = [some x, some (.ref cl), some (.int (n : Nat)), some (.ref cf), y] ∧ Same H4 H6 ∧ ∀ k, 1 ≤ k → k ≤ i + 1 → k ∣ n → ¬ PerD r k := fun H6 s6 h => ⟨_, rfl, s6, fun k k1 k2 k3 => by
        rcases Nat.lt_or_ge i k with h5 | h5
        · have : k = i + 1 := by omega
          subst this
          exact h k3
        · exact hno k k1 h5 k3⟩
      rw [show ((n : Int) % ((i + 1 : Nat) : Int)) = ((n % (i + 1) : Nat) : Int) from rfl]
      walk_at "w"
      by_cases hm : n % (i + 1) = 0
      · refine w_dT (by omega) ?_
        have hdv := Nat.dvd_of_mod_eq_zero hm
        have hle := Nat.le_of_dvd (by omega) hdv
        walk_at "w"
        refine w_slI_to (sqL_at hp5) fun o no => ?_
        walk_at "w"
        rw [stp_take hle]
        refine w_rep upd_same (by omega) (by omega) ?_ fun o2 no2 => ?_
        · rw [List.length_map, stp_len, Int.toNat_natCast]
          have : (i + 1) * n ≤ 1296 * 1296 := Nat.mul_le_mul (by omega) (by omega)
          exact szOk _ (by omega)
        have e1 : (List.replicate ((n : Nat) : Int).toNat (vI (stp' r (i + 1)))).flatten = vI (List.replicate n (stp' r (i + 1))).flatten := by
          unfold vI
          rw [Int.toNat_natCast, List.map_flatten, List.map_replicate]
        rw [e1]
        walk_at "w"
        refine w_slI_to sqL_new fun o3 no3 => ?_
        have sx := (((same_new (o := .lst (vI (stp' r (i + 1)))) no).trans (same_new (o := .lst (vI (List.replicate n (stp' r (i + 1))).flatten)) no2)).trans (same_new (o := .lst (vI ((List.replicate n (stp' r (i + 1))).flatten.take n))) no3))
        have hp8 := sx _ _ hp5
        refine w_eqL (sqL_at hp8) sqL_new ?_
        walk_at "w"
        refine w_ifB (fun e => ?_) (fun e => ?_)
        · have hper := (rep_iff hM hn1 (by omega) hdv).mp (bT e)
          have hL : IsLeast r (i + 1) := least_of_min (by omega) hper fun k k1 k2 k3 => by
            have hls := lp_spec hro
            have hd1 := hls.2.2 k k3
            have hd2 := hls.2.2 n hM
            exact hno (lp r) hls.1 (by have := Nat.le_of_dvd (by omega) hd1; omega) hd2 hls.2.1
          walk_at "w"
          refine w_slI_to (sqL_at hp8) fun o4 no4 => ?_
          walk_at "w"
          refine w_sum sqL_new ?_
          walk_at "w"
          refine ⟨szOk 2, fun o5 no5 => ?_⟩
          have hsum := copies_sum hro (i + 1) n hle
          rw [copies_stp hro] at hsum
          rw [hsum]
          have := q _ o5 ((((s4'.trans s5).trans sx).trans (same_new no4)).trans (same_new no5)) ((((s4'.trans s5).trans sx).trans (same_new no4)).free no5) (by rw [lp_eq hro hL]; exact upd_same)
          exact this
        · walk_at "w"
          exact next _ (s5.trans sx) fun _ h => (bF e) ((rep_iff hM hn1 (by omega) hdv).mpr h)
      · refine w_dF (by omega) ?_
        walk_at "w"
        exact next _ s5 fun h => absurd (Nat.mod_eq_zero_of_dvd h) hm
    · rintro σ H5 ⟨y, rfl, s5, hno⟩
      exact absurd hM (hno n hn1 (by omega) (Nat.dvd_refl _))
  walk_at "w"
  by_cases h0 : n = 0
  · refine w_dT (by omega) ?_
    refine iteT ?_
    refine ⟨_, fun σ' H' q' => q', ?_⟩
    refine body H2 _ (more (.inl h0)) (Same.refl _) fun H4 s4 h4 => ?_
    exact ⟨_, by have := more (.inl h0); omega, n + 1, rfl, by have := more (.inl h0); omega, rfl, s4, h4⟩
  · refine w_dF (by omega) ?_
    walk_at "w"
    refine ⟨x, r, rfl, s2.dat hd, by omega, fun H3 c2 s3 nc2 hc3 => ?_⟩
    refine w_ne0 K (s3 _ _ hc2) hc3 ?_
    walk_at "w"
    by_cases hb : cn r n = begun r
    · rw [bD_t hb]
      refine iteF ?_
      exact fin H3 s3 (by omega) hb
    · rw [bD_f hb]
      refine iteT ?_
      refine ⟨_, fun σ' H' q' => q', ?_⟩
      refine body H3 _ (more (.inr hb)) s3 fun H4 s4 h4 => ?_
      exact ⟨_, by have := more (.inr hb); omega, n + 1, rfl, by have := more (.inr hb); omega, rfl, s4, h4⟩
end
end HH

namespace HH
open PySem PySem.Spec L2
/-! ### rows that do the same -/
theorem comes_rep {r : Row} (h : rok r) (n c : Nat) : comes r (List.replicate n c) = List.replicate (allCome r n) (heardAs r c) := by
  have h1 := congrArg Prod.fst (told_rep r (begun r) c n (begun_len r))
  have h2 : comes r (List.replicate n c) = List.replicate (cntN r (begun r) n).1 (heardAs r c) := h1
  have h3 := comes_len h (List.replicate n c)
  rw [h2, List.length_replicate, List.length_replicate] at h3
  rw [h2, h3]
theorem comes_rep1 {r : Row} (h : rok r) (n c d : Nat) : comes r (List.replicate n c ++ [d]) = List.replicate (allCome r n) (heardAs r c) ++ List.replicate (dl r n) (heardAs r d) := by
  have h1 : comes r (List.replicate n c ++ [d]) = comes r (List.replicate n c) ++ (told r (told r (begun r) (List.replicate n c)).2 [d]).1 := congrArg Prod.fst (told_app r (begun r) _ _)
  have h2 := congrArg Prod.fst (told_rep r (told r (begun r) (List.replicate n c)).2 d 1 (by rw [told_len, begun_len]))
  have h3 : (told r (told r (begun r) (List.replicate n c)).2 [d]).1 = List.replicate (cntN r (told r (begun r) (List.replicate n c)).2 1).1 (heardAs r d) := h2
  have h4 := comes_len h (List.replicate n c ++ [d])
  rw [h1, h3, comes_rep h, List.length_append, List.length_append, List.length_replicate, List.length_replicate, List.length_replicate] at h4
  rw [h1, h3, comes_rep h]
  have h5 : allCome r (n + [d].length) = allCome r n + dl r n := allCome_succ h n
  rw [h5] at h4
  congr 2
  omega
def smalls : List Nat := (List.range 26).map (· + 97)
theorem mem_smalls {c : Nat} : c ∈ smalls ↔ isSmall c = true := by
  unfold smalls isSmall
  rw [List.mem_map, Bool.and_eq_true, decide_eq_true_eq, decide_eq_true_eq]
  constructor
  · rintro ⟨i, hi, rfl⟩
    rw [List.mem_range] at hi
    omega
  · rintro ⟨h1, h2⟩
    exact ⟨c - 97, List.mem_range.mpr (by omega), by omega⟩
noncomputable def unl (r o : Row) : List Nat := smalls.filter fun c => bD (¬ heardAs r c = heardAs o c)
def alike (r o : Row) : Prop := (∀ i, dl r i = dl o i) ∧ ∀ c, isSmall c = true → heardAs r c = heardAs o c
theorem unl_nil {r o : Row} : unl r o = [] ↔ ∀ c, isSmall c = true → heardAs r c = heardAs o c := by
  unfold unl
  rw [List.filter_eq_nil_iff]
  constructor
  · intro h c hc
    have := h c (mem_smalls.mpr hc)
    by_cases e : heardAs r c = heardAs o c
    · exact e
    · exact absurd (bD_t e) this
  · intro h c hc h2
    exact bT h2 (h c (mem_smalls.mp hc))
def pf (r o : Row) (u : List Nat) : Nat → Nat → Option (List Nat)
  | 0, _ => none
  | k + 1, i => if dl r i = dl o i then (if 0 < dl r i ∧ u ≠ [] then some (List.replicate i 97 ++ [u.headD 0]) else pf r o u k (i + 1)) else some (List.replicate (i + 1) 97)
noncomputable def parted (r o : Row) : Option (List Nat) := pf r o (unl r o) (lp r + lp o) 0
theorem pf_cases (r o : Row) (u : List Nat) : ∀ k i, (pf r o u k i = none ∧ ∀ j, i ≤ j → j < i + k → dl r j = dl o j ∧ (dl r j = 0 ∨ u = [])) ∨
    ∃ j, i ≤ j ∧ j < i + k ∧ (∀ l, i ≤ l → l < j → dl r l = dl o l ∧ (dl r l = 0 ∨ u = [])) ∧ ((dl r j ≠ dl o j ∧ pf r o u k i = some (List.replicate (j + 1) 97)) ∨ (dl r j = dl o j ∧ 0 < dl r j ∧ u ≠ [] ∧ pf r o u k i = some (List.replicate j 97 ++ [u.headD 0])))
  | 0, i => .inl ⟨rfl, fun j h1 h2 => by omega⟩
  | k + 1, i => by
    by_cases h1 : dl r i = dl o i
    · by_cases h2 : 0 < dl r i ∧ u ≠ []
      · refine .inr ⟨i, Nat.le_refl _, by omega, fun l h3 h4 => by omega, .inr ⟨h1, h2.1, h2.2, ?_⟩⟩
        show (if dl r i = dl o i then (if 0 < dl r i ∧ u ≠ [] then some (List.replicate i 97 ++ [u.headD 0]) else pf r o u k (i + 1)) else _) = _
        rw [if_pos h1, if_pos h2]
      · have e : pf r o u (k + 1) i = pf r o u k (i + 1) := by
          show (if dl r i = dl o i then (if 0 < dl r i ∧ u ≠ [] then some (List.replicate i 97 ++ [u.headD 0]) else pf r o u k (i + 1)) else _) = _
          rw [if_pos h1, if_neg h2]
        have hi : dl r i = dl o i ∧ (dl r i = 0 ∨ u = []) := ⟨h1, by
          by_cases h3 : u = []
          · exact .inr h3
          · exact .inl (by
              rcases Nat.eq_zero_or_pos (dl r i) with h4 | h4
              · exact h4
              · exact absurd ⟨h4, h3⟩ h2)⟩
        have all : ∀ (P : Nat → Prop) (n : Nat), P i → (∀ l, i + 1 ≤ l → l < n → P l) → ∀ l, i ≤ l → l < n → P l := fun P n h5 h6 l h7 h8 => by
          rcases Nat.lt_or_ge i l with h9 | h9
          · exact h6 l h9 h8
          · have : l = i := by omega
            rw [this]; exact h5
        rw [e]
        rcases pf_cases r o u k (i + 1) with ⟨e1, e2⟩ | ⟨j, j1, j2, j3, j4⟩
        · exact .inl ⟨e1, all _ _ hi fun l l1 l2 => e2 l l1 (by omega)⟩
        · exact .inr ⟨j, by omega, by omega, all _ _ hi j3, j4⟩
    · refine .inr ⟨i, Nat.le_refl _, by omega, fun l h3 h4 => by omega, .inl ⟨h1, ?_⟩⟩
      show (if dl r i = dl o i then (if 0 < dl r i ∧ u ≠ [] then some (List.replicate i 97 ++ [u.headD 0]) else pf r o u k (i + 1)) else _) = _
      rw [if_neg h1]
theorem allCome_of_dl {r o : Row} (hr : rok r) (ho : rok o) {n : Nat} (h : ∀ i, i < n → dl r i = dl o i) : allCome r n = allCome o n := by
  induction n with
  | zero => rw [allCome_zero hr, allCome_zero ho]
  | succ n ih => rw [allCome_succ hr, allCome_succ ho, ih fun i hi => h i (by omega), h n (by omega)]
/-- alike for so long, alike for ever -/
theorem dl_ever {r o : Row} {p q : Nat} (hp : PerD r p) (hq : PerD o q) (p1 : 1 ≤ p) (q1 : 1 ≤ q) (h : ∀ i, i < p + q → dl r i = dl o i) : ∀ n i, i < n → dl r i = dl o i
  | 0, i, hi => by omega
  | n + 1, i, hi => by
    have ih := dl_ever hp hq p1 q1 h n
    rcases Nat.lt_or_ge i (p + q) with h1 | h1
    · exact h i h1
    · have a1 := hp (i - p)
      rw [show i - p + p = i by omega] at a1
      have a2 := hq (i - p - q)
      rw [show i - p - q + q = i - p by omega] at a2
      have a3 := hp (i - p - q)
      rw [show i - p - q + p = i - q by omega] at a3
      have a4 := hq (i - q)
      rw [show i - q + q = i by omega] at a4
      rw [a1, ih (i - p) (by omega), a2, ← ih (i - p - q) (by omega), ← a3, ih (i - q) (by omega), ← a4]
theorem whole_come {r : Row} (h : rok r) : 1 ≤ allCome r (whole r) := by
  have h1 := wr_per r 1 1 id h (fun _ => rfl) 0
  have h2 : allCome r (0 + whole r) = allCome r 0 + (wr r 1 1).2 := h1
  rw [Nat.zero_add, allCome_zero h, Nat.zero_add] at h2
  rw [h2]
  exact (wr_bound r 1 1 h (Nat.le_refl 1) (Nat.le_refl 1)).2
theorem some_come {r : Row} (h : rok r) : ∃ i, i < lp r ∧ 0 < dl r i := by
  have hp := lp_spec h
  apply Classical.byContradiction
  intro hn
  have h0 : ∀ i, dl r i = 0 := fun i => by
    rw [← hp.2.1.mod i]
    rcases Nat.eq_zero_or_pos (dl r (i % lp r)) with h1 | h1
    · exact h1
    · exact absurd ⟨_, Nat.mod_lt _ hp.1, h1⟩ hn
  have : ∀ n, allCome r n = 0 := fun n => by
    induction n with
    | zero => exact allCome_zero h
    | succ n ih => rw [allCome_succ h, ih, h0]
  have h2 := whole_come h
  rw [this] at h2
  omega
theorem parted_none {r o : Row} (hr : rok r) (ho : rok o) : parted r o = none ↔ alike r o := by
  have hp := lp_spec hr
  have hq := lp_spec ho
  constructor
  · intro e
    rcases pf_cases r o (unl r o) (lp r + lp o) 0 with ⟨_, e2⟩ | ⟨j, j1, j2, j3, j4⟩
    · have hd := dl_ever hp.2.1 hq.2.1 hp.1 hq.1 (fun i hi => (e2 i (Nat.zero_le _) (by omega)).1)
      refine ⟨fun i => hd (i + 1) i (by omega), ?_⟩
      obtain ⟨i, hi, hpos⟩ := some_come hr
      rcases (e2 i (Nat.zero_le _) (by omega)).2 with h | h
      · omega
      · exact unl_nil.mp h
    · exfalso
      unfold parted at e
      rcases j4 with ⟨_, e3⟩ | ⟨_, _, _, e3⟩
      · rw [e3] at e; cases e
      · rw [e3] at e; cases e
  · rintro ⟨h1, h2⟩
    rcases pf_cases r o (unl r o) (lp r + lp o) 0 with ⟨e1, _⟩ | ⟨j, j1, j2, j3, j4⟩
    · exact e1
    · rcases j4 with ⟨h3, _⟩ | ⟨_, _, h3, _⟩
      · exact absurd (h1 j) h3
      · exact absurd (unl_nil.mpr h2) h3
theorem feed_alike {r o : Row} (hr : rok r) (ho : rok o) (h : alike r o) {w : List Nat} (hw : ∀ c ∈ w, isSmall c = true) : comes r w = comes o w := by
  rw [comes_feed, comes_feed, feed_pass r w _ (begun_len r), feed_pass o w _ (begun_len o)]
  have e : pass r (begun r) w.length = pass o (begun o) w.length := by
    rw [← copies_pass, ← copies_pass, copies_stp hr, copies_stp ho]
    unfold stp'
    exact List.map_congr_left fun i _ => h.1 i
  rw [e]
  congr 1
  refine List.map_congr_left fun p hp => ?_
  rw [h.2 p.2 (hw _ (List.of_mem_zip hp).2)]
theorem alike_refl (r : Row) : alike r r := ⟨fun _ => rfl, fun _ _ => rfl⟩
theorem alike_come {r o : Row} (hr : rok r) (ho : rok o) (h : alike r o) (n : Nat) : allCome r n = allCome o n := allCome_of_dl hr ho fun i _ => h.1 i
theorem alike_of {r o : Row} (h1 : ∀ n, allCome r n = allCome o n) (h2 : ∀ c, isSmall c = true → heardAs r c = heardAs o c) : alike r o := ⟨fun i => by unfold dl; rw [h1, h1], h2⟩
theorem allCome_snoc (f : Folk) (r : Row) (n : Nat) : allCome (r ++ [f]) n = passed f (allCome r n) := by
  rw [allCome_app]
  rfl
theorem heardAs_app : ∀ (a b : Row) (c : Nat), heardAs (a ++ b) c = heardAs b (heardAs a c)
  | [], _, _ => rfl
  | f :: a, b, c => heardAs_app a b _
theorem heardAs_small' {r : Row} (h : Row.Ok r) {c : Nat} (hc : isSmall c = true) : isSmall (heardAs r c) = true := heardAs_small h.2 hc
/-- a pair that undoes itself -/
theorem undo_pair {e c d : Nat} (he : 2 ≤ e) (hc : c < e) (hd : d ≤ 1) (n : Nat) : passed (.ctr false (e + 1) (c + d)) (passed (.ctr true e c) n) = n := by
  show (n + (n + c) / e) - (n + (n + c) / e + (c + d)) / (e + 1) = n
  have h1 := Nat.mod_add_div (n + c) e
  have h2 := Nat.mod_lt (n + c) (show 0 < e by omega)
  generalize (n + c) / e = q at h1
  generalize (n + c) % e = s at h1 h2
  have h3 : n + q + (c + d) = (s + d) + (e + 1) * q := by
    rw [Nat.add_mul]
    omega
  rw [h3, Nat.add_mul_div_left _ _ (by omega), Nat.div_eq_of_lt (by omega), Nat.zero_add]
  omega
end HH

namespace HH
open PySem PySem.Spec L2
local macro_rules | `(tactic| walk_at "cy") => `(tactic| first
  | assumption
  | exact L2.upd_same
  | exact L2.sqL_new
  | exact L2.sqT_new
  | exact L2.sqL_at (by assumption)
  | exact L2.sqT_at (by assumption)
  | (refine' L2.Same.seq (by assumption) ?k0; (case k0 => walk_at "cy"))
  | (refine' L2.Same.sqT (by assumption) ?k0; (case k0 => walk_at "cy"))
  | (refine' L2.Same.dat (by assumption) ?k0; (case k0 => walk_at "cy"))
  | (refine' (by assumption : L2.Same _ _) _ _ ?k0; (case k0 => walk_at "cy"))
  | (refine' L2.Same.seq (L2.same_new (by assumption)) ?k0; (case k0 => walk_at "cy"))
  | (refine' L2.Same.sqT (L2.same_new (by assumption)) ?k0; (case k0 => walk_at "cy"))
  | (refine' L2.Same.dat (L2.same_new (by assumption)) ?k0; (case k0 => walk_at "cy"))
  | (refine' L2.same_new (by assumption) _ _ ?k0; (case k0 => walk_at "cy"))
  | (refine' L2.Mv.sqT (by assumption) ?k0; (case k0 => walk_at "cy")))
local macro_rules | `(tactic| walk_at "w") => `(tactic| repeat (first
  | refine HH.stp ?_
  | with_reducible refine L2.iteT ?_
  | with_reducible refine L2.iteF ?_
  | ((with_reducible refine' HH.w_gtup ?k1 ?k2 ?_); (case k1 => walk_at "cy"); (case k2 => exact rfl))
  | ((with_reducible refine' HH.w_ixT ?k1 ?k2 ?_); (case k1 => walk_at "cy"); (case k2 => exact rfl))
  | ((with_reducible refine' HH.w_ixL ?k1 ?k2 ?_); (case k1 => walk_at "cy"); (case k2 => exact rfl))
  | ((with_reducible refine' HH.w_lenL ?k1 ?_); (case k1 => walk_at "cy"))
  | ((with_reducible refine' HH.w_lenT ?k1 ?_); (case k1 => walk_at "cy"))
  | ((with_reducible refine' HH.w_exT ?k1 ?_); (case k1 => walk_at "cy"))
  | ((with_reducible refine' HH.w_exL ?k1 ?_); (case k1 => walk_at "cy"))
  | ((with_reducible refine' HH.w_tyL ?k1 ?_); (case k1 => walk_at "cy"))
  | ((with_reducible refine' HH.w_setL ?k1 ?k2 ?_); (case k1 => walk_at "cy"); (case k2 => exact rfl))
  | ((with_reducible refine' HH.w_modI ?k1 ?_); (case k1 => first | (with_reducible assumption) | omega))
  | ((with_reducible refine' HH.w_divI ?k1 ?_); (case k1 => (constructor <;> omega)))))
local macro_rules | `(tactic| walk_at "v") => `(tactic| ((repeat ((fail_if_success (with_reducible refine HH.isIf ?_)); first
  | refine HH.stp ?_
  | with_reducible refine L2.iteT ?_
  | with_reducible refine L2.iteF ?_
  | ((with_reducible refine' HH.w_gtup ?k1 ?k2 ?_); (case k1 => walk_at "cy"); (case k2 => exact rfl))
  | ((with_reducible refine' HH.w_ixT ?k1 ?k2 ?_); (case k1 => walk_at "cy"); (case k2 => exact rfl))
  | ((with_reducible refine' HH.w_ixL ?k1 ?k2 ?_); (case k1 => walk_at "cy"); (case k2 => exact rfl))
  | ((with_reducible refine' HH.w_lenL ?k1 ?_); (case k1 => walk_at "cy"))
  | ((with_reducible refine' HH.w_lenT ?k1 ?_); (case k1 => walk_at "cy"))
  | ((with_reducible refine' HH.w_exT ?k1 ?_); (case k1 => walk_at "cy"))
  | ((with_reducible refine' HH.w_exL ?k1 ?_); (case k1 => walk_at "cy"))
  | ((with_reducible refine' HH.w_tyL ?k1 ?_); (case k1 => walk_at "cy"))
  | ((with_reducible refine' HH.w_setL ?k1 ?k2 ?_); (case k1 => walk_at "cy"); (case k2 => exact rfl))
  | ((with_reducible refine' HH.w_modI ?k1 ?_); (case k1 => first | (with_reducible assumption) | omega))
  | ((with_reducible refine' HH.w_divI ?k1 ?_); (case k1 => (constructor <;> omega)))))); (try (with_reducible refine HH.isIf ?_)))
theorem lp_le {r : Row} (h : rok r) (hl : r.length ≤ 4) : lp r ≤ 1296 := by
  have h1 := Nat.le_of_dvd (whole_pos h) ((lp_spec h).2.2 _ (perD_whole h))
  have h2 := whole_le h hl
  omega
section
variable (K : PySem.W.Frag)
noncomputable def partV (r o : Row) : V := match parted r o with
  | none => .non
  | some w => .str (tx w)
theorem partV_non {r o : Row} : partV r o = .non ↔ parted r o = none := by
  unfold partV
  cases parted r o with
  | none => exact Iff.intro (fun _ => rfl) (fun _ => rfl)
  | some w => exact Iff.intro (fun h => by cases h) (fun h => by cases h)
def sp_parted : Sp := fun vs H Q _ => ∃ (x y : V) (r o : Row), vs = [x, y] ∧ Dp K H x (rowD r) ∧ Dp K H y (rowD o) ∧ Row.Ok r ∧ Row.Ok o ∧ ∀ H', Same H H' → Q (partV r o) H'
def sp_are_alike : Sp := fun vs H Q _ => ∃ (x y : V) (r o : Row), vs = [x, y] ∧ Dp K H x (rowD r) ∧ Dp K H y (rowD o) ∧ Row.Ok r ∧ Row.Ok o ∧ ∀ H', Same H H' → Q (.bl (bD (alike r o))) H'
def sp_parting : Sp := fun vs H Q _ => ∃ (x y : V) (r o : Row), vs = [x, y] ∧ Dp K H x (rowD r) ∧ Dp K H y (rowD o) ∧ Row.Ok r ∧ Row.Ok o ∧ ∀ H', Same H H' → Q (partV r o) H'
def sp_does_nothing : Sp := fun vs H Q _ => ∃ (x : V) (r : Row), vs = [x] ∧ Dp K H x (rowD r) ∧ Row.Ok r ∧ ∀ H', Same H H' → Q (.bl (bD (alike r []))) H'
def undoneR : Folk → Row
  | .hears _ _ => []
  | .ctr tw e c => if tw = true ∧ e ≤ 5 then [.ctr false (e + 1) c, .ctr false (e + 1) (c + 1)] else []
def sp_undone_by : Sp := fun vs H Q _ => ∃ (x : V) (f : Folk), vs = [x] ∧ Dp K H x (folkD f) ∧ f.ok = true ∧ ∀ (v : V) H', Same H H' → Dp K H' v (rowD (undoneR f)) → Q v H'
theorem len_parted : ∀ vs H Q E, sp_parted K vs H Q E → vs.length = 2 := by rintro _ _ _ _ ⟨_, _, _, _, rfl, _⟩; rfl
theorem len_are_alike : ∀ vs H Q E, sp_are_alike K vs H Q E → vs.length = 2 := by rintro _ _ _ _ ⟨_, _, _, _, rfl, _⟩; rfl
theorem len_parting : ∀ vs H Q E, sp_parting K vs H Q E → vs.length = 2 := by rintro _ _ _ _ ⟨_, _, _, _, rfl, _⟩; rfl
theorem len_does_nothing : ∀ vs H Q E, sp_does_nothing K vs H Q E → vs.length = 1 := by rintro _ _ _ _ ⟨_, _, rfl, _⟩; rfl
theorem len_undone_by : ∀ vs H Q E, sp_undone_by K vs H Q E → vs.length = 1 := by rintro _ _ _ _ ⟨_, _, rfl, _⟩; rfl
end
def t_parted (K : PySem.W.Frag) : TS :=
  (tSeq (tAsg (tOp rAddI (tCall (sp_least_round K) [] E0 (tCons (tVar 0) tNil)) (tCall (sp_least_round K) [] E0 (tCons (tVar 1) tNil))) (gName 2))
  (tSeq (tPar 3 4 (tCons (tCall (sp_steps K) [] E0 (tCons (tVar 0) (tCons (tVar 2) tNil))) (tCons (tCall (sp_steps K) [] E0 (tCons (tVar 1) (tCons (tVar 2) tNil))) tNil)))
  (tSeq (tAsg (tLc (iStr (tC (.str "abcdefghijklmnopqrstuvwxyz"))) (gName 7) (tTest (tOp rNe (tCall (sp_heard_as K) [] E0 (tCons (tVar 0) (tCons (tVar 7) tNil))) (tCall (sp_heard_as K) [] E0 (tCons (tVar 1) (tCons (tVar 7) tNil))))) (tVar 7) [7]) (gName 5))
  (tSeq (tFor (iRng1 (tCons (tVar 2) tNil)) (gName 6)
  (tSeq (tIfS (tTest (tOp rNe (tOp (rIxL K) (tVar 3) (tVar 6)) (tOp (rIxL K) (tVar 4) (tVar 6)))) (tRet (tOp rMulS (tC (.str "a")) (tOp rAddI (tVar 6) (tC (.int 1))))) tNext)
  (tIfS (tAnd (tTest (tOp rGtI (tOp (rIxL K) (tVar 3) (tVar 6)) (tC (.int 0)))) (tTest (tOp (rNeD K) (tVar 5) (tLst tNil)))) (tRet (tOp rAddS (tOp rMulS (tC (.str "a")) (tVar 6)) (tOp (rIxL K) (tVar 5) (tC (.int 0))))) tNext)))
  (tRet (tC .non))))))

def t_are_alike (K : PySem.W.Frag) : TS :=
  (tSeq (tDrop (tCall (sp_need_row K) [] E0 (tCons (tVar 0) tNil)))
  (tSeq (tDrop (tCall (sp_need_row K) [] E0 (tCons (tVar 1) tNil)))
  (tRet (tOp rIsNon (tCall (sp_parted K) [] E0 (tCons (tVar 0) (tCons (tVar 1) tNil))) (tC .non)))))

def t_parting (K : PySem.W.Frag) : TS :=
  (tSeq (tDrop (tCall (sp_need_row K) [] E0 (tCons (tVar 0) tNil)))
  (tSeq (tDrop (tCall (sp_need_row K) [] E0 (tCons (tVar 1) tNil)))
  (tRet (tCall (sp_parted K) [] E0 (tCons (tVar 0) (tCons (tVar 1) tNil))))))

def t_does_nothing (K : PySem.W.Frag) : TS :=
  (tSeq (tDrop (tCall (sp_need_row K) [] E0 (tCons (tVar 0) tNil)))
  (tRet (tOp rIsNon (tCall (sp_parted K) [] E0 (tCons (tVar 0) (tCons (tTup tNil) tNil))) (tC .non))))

def t_undone_by (K : PySem.W.Frag) : TS :=
  (tSeq (tIfS (tNot (tB (tCall (sp_is_one K) [] E0 (tCons (tVar 0) tNil)))) tNever tNext)
  (tSeq (tAsg (tVar 0) (gTup K 3 (gCons (gName 1) (gCons (gName 2) (gCons (gName 3) gNil)))))
  (tSeq (tIfS (tOr (tTest (tOp rNe (tVar 1) (tC (.str "twice")))) (tTest (tOp rGtI (tVar 2) (tC (.int 5))))) (tRet (tTup tNil)) tNext)
  (tRet (tTup (tCons (tTup (tCons (tC (.str "drop")) (tCons (tOp rAddI (tVar 2) (tC (.int 1))) (tCons (tVar 3) tNil)))) (tCons (tTup (tCons (tC (.str "drop")) (tCons (tOp rAddI (tVar 2) (tC (.int 1))) (tCons (tOp rAddI (tVar 3) (tC (.int 1))) tNil)))) tNil)))))))

theorem alpha_tl : (Str.ofString "abcdefghijklmnopqrstuvwxyz").cps.toList = smalls := by decide +kernel
theorem fold_app : ∀ (l : List (Array Nat)) (acc : Array Nat), (l.foldl (· ++ ·) acc).toList = acc.toList ++ (l.map Array.toList).flatten
  | [], acc => by simp
  | a :: l, acc => by
    rw [List.foldl_cons, fold_app l, List.map_cons, List.flatten_cons]
    simp
theorem tx_mul (w : List Nat) (n : Nat) : Txt.mul (tx w) (n : Int) = tx (List.replicate n w).flatten := by
  unfold Txt.mul
  by_cases h0 : n = 0
  · subst h0
    rw [if_pos (by decide)]
    rfl
  · rw [if_neg (by omega)]
    by_cases h1 : (((n : Int) == 1) || ((tx w).length == 0)) = true
    · rw [if_pos h1]
      rw [Bool.or_eq_true] at h1
      rcases h1 with h | h
      · have : n = 1 := by have := eq_of_beq h; omega
        subst this
        simp
      · have h2 : w.length = 0 := eq_of_beq h
        have : w = [] := List.length_eq_zero_iff.mp h2
        subst this
        congr 1
        simp
    · rw [if_neg h1]
      apply tl_inj
      show ((List.replicate (n : Int).toNat w.toArray).foldl (· ++ ·) #[]).toList = (List.replicate n w).flatten
      rw [fold_app, Int.toNat_natCast, List.map_replicate]
      rfl
theorem mulOk {w : List Nat} {n : Nat} (h : w.length * n ≤ 10000) (hn : n ≤ 1000000) : MulOk (tx w) (n : Int) := by
  rcases Nat.eq_zero_or_pos w.length with h0 | h0
  · refine ⟨?_, fun _ h2 => ?_, fun _ h2 => ?_⟩
    · rw [decide_eq_false (by omega), decide_eq_false (by omega)]
      rfl
    · rw [Bool.or_eq_false_iff] at h2
      exact absurd h0 (ne_of_beq_false h2.2)
    · rw [Bool.or_eq_false_iff] at h2
      exact absurd h0 (ne_of_beq_false h2.2)
  · refine ⟨?_, fun h1 _ => ?_, fun h1 _ => ?_⟩
    · rw [decide_eq_false (by omega), decide_eq_false (by omega)]
      rfl
    · have : ((w.length : Nat) : Int) ≤ (2 ^ 63 - 1) / (n : Int) := Int.le_ediv_of_mul_le (by omega) (by
        have h3 : ((w.length : Nat) : Int) * (n : Int) = ((w.length * n : Nat) : Int) := (Int.natCast_mul _ _).symm
        rw [h3]
        omega)
      show ¬ ((w.length : Nat) : Int) > _
      omega
    · show Builtin.Str.tooLong (w.length * (n : Int).toNat) = false
      rw [Int.toNat_natCast]
      exact decide_eq_false (by have : sizeLine = sizeLine := rfl; have := szOk (w.length * n) (by omega); omega)
section
variable (K : PySem.W.Frag)
theorem dS_dp {H : Hp} : ∀ cs : List Nat, DpAll K H (vS cs) (cs.map fun c => .str (sg c))
  | [] => .nil
  | c :: cs => .cons (.str _) (dS_dp cs)
theorem dS_lay : ∀ cs : List Nat, (∀ c ∈ cs, isSmall c = true) → PyData.canLayAll0 (cs.map fun c => .str (sg c)) = true ∧ PyData.depthAll (cs.map fun c => .str (sg c)) = 0
  | [], _ => ⟨rfl, rfl⟩
  | c :: cs, h => by
    have ih := dS_lay cs fun d hd => h d (List.mem_cons_of_mem _ hd)
    constructor
    · show (PyData.strOk (sg c) && PyData.canLayAll0 (cs.map fun c => .str (sg c))) = true
      rw [ih.1, Bool.and_true]
      have hc := h c List.mem_cons_self
      unfold isSmall at hc
      rw [Bool.and_eq_true, decide_eq_true_eq, decide_eq_true_eq] at hc
      show (#[c] : Array Nat).all (· < 0x110000) = true
      simp
      omega
    · show max 0 (PyData.depthAll (cs.map fun c => .str (sg c))) = 0
      rw [ih.2]
      rfl
theorem shp_S (cs : List Nat) (h : ∀ c ∈ cs, isSmall c = true) : SeqAt.shaped (.list (cs.map fun c => .str (sg c))) = true := by
  show (PyData.canLayAll0 (cs.map fun c => .str (sg c)) && decide (PyData.depthAll (cs.map fun c => .str (sg c)) + 1 ≤ 64)) = true
  rw [(dS_lay cs h).1, (dS_lay cs h).2]
  rfl
theorem ok_nil : Row.Ok [] := ⟨by decide, by decide⟩
theorem flat1 (n c : Nat) : (List.replicate n [c]).flatten = List.replicate n c := by
  induction n with
  | zero => rfl
  | succ n ih => rw [List.replicate_succ, List.flatten_cons, ih]; rfl
theorem w_mulA {n : Nat} {H : Hp} {Q : VK} (hn : n ≤ 10000) (q : Q (.str (tx (List.replicate n 97))) H) : rMulS (.str (Str.ofString "a")) (.int (n : Nat)) H Q := by
  have e : Str.ofString "a" = tx [97] := by decide +kernel
  rw [e]
  refine w_mulS (mulOk (by show 1 * n ≤ 10000; omega) (by omega)) ?_
  rw [tx_mul, flat1]
  exact q
theorem sem_parted : ∀ vs H Q E, sp_parted K vs H Q E → t_parted K { nx := fun _ H' => Q .non H', rt := Q } (start ["row", "other", "many", "one", "two", "unlike", "place", "letter"] vs) H := by
  rintro vs H Q E ⟨x, y, r, o, rfl, hd, hd2, hR, hO, q⟩
  show t_parted K _ [some x, some y, none, none, none, none, none, none] H
  unfold t_parted
  have hro := rok_of hR
  have hoo := rok_of hO
  have hp := lp_spec hro
  have hq := lp_spec hoo
  have hp6 := lp_le hro hR.1
  have hq6 := lp_le hoo hO.1
  have hpv : ∀ v, parted r o = v → (match v with | none => V.non | some w => V.str (tx w)) = partV r o := fun v h => by unfold partV; rw [h]
  unfold parted at hpv
  walk_at "w"
  refine ⟨x, r, rfl, hd, hro, hR.1, fun H1 s1 => ?_⟩
  walk_at "w"
  refine ⟨y, o, rfl, s1.dat hd2, hoo, hO.1, fun H2 s2 => ?_⟩
  have s12 := s1.trans s2
  generalize lp r = p at hp hp6 hpv
  generalize lp o = p' at hq hq6 hpv
  walk_at "w"
  refine ⟨x, r, p + p', rfl, s12.dat hd, hro, by omega, fun H3 a1 s3 n1 h1 => ?_⟩
  walk_at "w"
  have s13 := s12.trans s3
  refine ⟨y, o, p + p', rfl, s13.dat hd2, hoo, by omega, fun H4 a2 s4 n2 h2 => ?_⟩
  have h1' := s4 _ _ h1
  have s14 := s13.trans s4
  have hdx := s14.dat hd
  have hdy := s14.dat hd2
  walk_at "w"
  intro D nD
  refine lc_same (walk_str (z := "abcdefghijklmnopqrstuvwxyz")) nD [some x, some y, some (.int ((p : Int) + (p' : Int))), some (.ref a1), some (.ref a2), none, none, none] rfl (fun i => vS ((smalls.take i).filter fun c => bD (¬ heardAs r c = heardAs o c))) rfl (fun _ _ => trivial) (fun i v H5 H5' hi z yy => ?_) (fun H5 s5 hD => ?_)
  · obtain ⟨rfl, c, hc, rfl⟩ := yy
    have hc' : smalls[i]? = some c := by rw [← alpha_tl, Array.getElem?_toList]; exact hc
    have hsz : (vS ((smalls.take i).filter fun c => bD (¬ heardAs r c = heardAs o c))).length < sizeLine := szLt _ (by
      rw [List.length_map]
      have g1 := List.length_filter_le (fun c => bD (¬ heardAs r c = heardAs o c)) (smalls.take i)
      have g2 : (smalls.take i).length ≤ smalls.length := by rw [List.length_take]; exact Nat.min_le_right _ _
      have g3 : smalls.length = 26 := by decide
      omega)
    walk_at "w"
    refine ⟨rfl, ?_⟩
    walk_at "w"
    refine ⟨x, r, c, rfl, z.1.dat hdx, ?_⟩
    walk_at "w"
    refine ⟨y, o, c, rfl, z.1.dat hdy, ?_⟩
    walk_at "w"
    by_cases he : heardAs r c = heardAs o c
    · refine w_nF (congrArg sg he) ?_
      refine lc_skip z (Same.refl _) ?_
      rw [List.take_add_one, hc', List.filter_append]
      have : ([c].filter fun c => bD (¬ heardAs r c = heardAs o c)) = [] := by
        rw [List.filter_cons, if_neg (by rw [bD_f (fun h => h he)]; decide)]
        rfl
      show vS (_ ++ [c].filter fun c => bD (¬ heardAs r c = heardAs o c)) = _
      rw [this, List.append_nil]
    · refine w_nT (fun h => he (sg_inj h)) ?_
      walk_at "w"
      refine lc_put nD z (Same.refl _) hsz ?_
      rw [List.take_add_one, hc', List.filter_append]
      have : ([c].filter fun c => bD (¬ heardAs r c = heardAs o c)) = [c] := by
        rw [List.filter_cons, if_pos (bD_t he)]
        rfl
      show vS (_ ++ [c].filter fun c => bD (¬ heardAs r c = heardAs o c)) = _
      rw [this]
      unfold vS
      rw [List.map_append]
      rfl
  · have hu : (smalls.take (Str.cps "abcdefghijklmnopqrstuvwxyz").size).filter (fun c => bD (¬ heardAs r c = heardAs o c)) = unl r o := by
      rw [List.take_of_length_le (by decide +kernel)]
      rfl
    rw [hu] at hD
    have h1'' := s5 _ _ h1'
    have h2'' := s5 _ _ h2
    have s15 := s14.trans s5
    walk_at "v"
    refine ⟨(p : Int) + (p' : Int), rfl, by omega, by omega, ?_⟩
    have hn : ((p : Int) + (p' : Int)).toNat = p + p' := by omega
    have hus : ∀ c ∈ unl r o, isSmall c = true := fun c hc => mem_smalls.mp (List.mem_filter.mp hc).1
    generalize hU : unl r o = u at hD hpv hus
    refine for_range (lo := 0) (n := ((p : Int) + (p' : Int)).toNat) (fun i σ H6 => ∃ (y6 : Option V), σ = [some x, some y, some (.int ((p : Int) + (p' : Int))), some (.ref a1), some (.ref a2), some (.ref D), y6, none] ∧ Same H5 H6 ∧ pf r o u (p + p') 0 = pf r o u (p + p' - i) i) ⟨none, rfl, Same.refl _, by rw [Nat.sub_zero]⟩ ?_ ?_
    · rintro i σ H6 hi ⟨y6, rfl, s6, hpf⟩
      rw [hn] at hi
      have g1 := s6 _ _ h1''
      have g2 := s6 _ _ h2''
      have gD := s6 _ _ hD
      obtain ⟨k, hk⟩ : ∃ k, p + p' - i = k + 1 := ⟨p + p' - i - 1, by omega⟩
      rw [hk] at hpf
      have hpf' : pf r o u (k + 1) i = if dl r i = dl o i then (if 0 < dl r i ∧ u ≠ [] then some (List.replicate i 97 ++ [u.headD 0]) else pf r o u k (i + 1)) else some (List.replicate (i + 1) 97) := rfl
      have at1 : ∀ (w : Row), atI (vI (stp' w (p + p'))) (i : Int) = some (.int (dl w i : Nat)) := fun w => at_of rfl (by rw [List.getElem?_map, stp_get w hi]; rfl)
      walk_at "v"
      refine w_ifS ?_
      rw [show (0 : Int) + (i : Nat) = ((i : Nat) : Int) by omega]
      walk_at "v"
      refine w_ixL (sqL_at g1) (at1 r) ?_
      walk_at "v"
      refine w_ixL (sqL_at g2) (at1 o) ?_
      walk_at "v"
      by_cases he : dl r i = dl o i
      · rw [if_pos he] at hpf'
        refine w_nF (by rw [he]) ?_
        walk_at "v"
        refine w_ifS ?_
        walk_at "v"
        refine w_ixL (sqL_at g1) (at1 r) ?_
        walk_at "v"
        have next : ∀ H7, Same H6 H7 → ¬ (0 < dl r i ∧ u ≠ []) → ∃ (y6 : Option V), [some x, some y, some (.int ((p : Int) + (p' : Int))), some (.ref a1), some (.ref a2), some (.ref D), some (.int (i : Nat)), none] = [some x, some y, some (.int ((p : Int) + (p' : Int))), some (.ref a1), some (.ref a2), some (.ref D), y6, none] ∧ Same H5 H7 ∧ pf r o u (p + p') 0 = pf r o u (p + p' - (i + 1)) (i + 1) := fun H7 s7 h => ⟨_, rfl, s6.trans s7, by
          rw [hpf, hpf', if_neg h]
          congr 1
          omega⟩
        by_cases hpos : 0 < dl r i
        · refine w_dT (by omega) ?_
          walk_at "v"
          refine ⟨szOk 0, fun e ne => ?_⟩
          have cmp : ∀ (H7 : Hp) (Q' : VK), H7 D = some (.lst (vS u)) → H7 e = some (.lst []) → Q' (.bl (!bD (u = []))) H7 → rNeD K (.ref D) (.ref e) H7 Q' := fun H7 Q' b1 b2 b3 =>
            ⟨.list (u.map fun c => .str (sg c)), .list [], .lst (sqL_at b1) (dS_dp K u), .lst (sqL_at b2) .nil, shp_S u hus, by decide, by
              rw [show PyData.eqv (.list (u.map fun c => .str (sg c))) (.list []) = bD (u = []) from by
                cases u with
                | nil => exact (bD_t rfl).symm
                | cons a b => exact (bD_f (fun h => by cases h)).symm]
              exact b3⟩
          refine cmp _ _ ((same_new ne) _ _ gD) upd_same ?_
          walk_at "v"
          by_cases hu0 : u = []
          · refine w_nF hu0 ?_
            walk_at "v"
            exact next _ (same_new ne) fun h => h.2 hu0
          · refine w_nT hu0 ?_
            rw [if_pos ⟨hpos, hu0⟩] at hpf'
            obtain ⟨c, u', rfl⟩ : ∃ c u', u = c :: u' := by
              cases u with
              | nil => exact absurd rfl hu0
              | cons c u' => exact ⟨c, u', rfl⟩
            walk_at "v"
            refine w_mulA (by omega) ?_
            walk_at "v"
            refine w_ixL (i := 0) (v := .str (sg c)) (sqL_at ((same_new ne) _ _ gD)) (at_of (j := 0) rfl rfl) ?_
            refine w_addW (w2 := [c]) (by rw [List.length_replicate]; show i + 1 ≤ _; omega) ?_
            have := q _ ((s15.trans s6).trans (same_new (o := .lst []) ne))
            rw [← hpv _ (hpf.trans hpf')] at this
            exact this
        · refine w_dF (by omega) ?_
          walk_at "v"
          exact next _ (Same.refl _) fun h => hpos h.1
      · rw [if_neg he] at hpf'
        refine w_nT (by omega) ?_
        walk_at "v"
        refine w_mulA (n := i + 1) (by omega) ?_
        have := q _ (s15.trans s6)
        rw [← hpv _ (hpf.trans hpf')] at this
        exact this
    · rintro σ H6 ⟨y6, rfl, s6, hpf⟩
      rw [hn, Nat.sub_self] at hpf
      walk_at "v"
      have := q _ (s15.trans s6)
      rw [← hpv _ hpf] at this
      exact this
end
section
variable (K : PySem.W.Frag)
theorem bD_partV {r o : Row} (hR : Row.Ok r) (hO : Row.Ok o) : bD (partV r o = .non) = bD (alike r o) := bD_congr (partV_non.trans (parted_none (rok_of hR) (rok_of hO)))
theorem sem_are_alike : ∀ vs H Q E, sp_are_alike K vs H Q E → t_are_alike K { nx := fun _ H' => Q .non H', rt := Q } (start ["row", "other"] vs) H := by
  rintro vs H Q E ⟨x, y, r, o, rfl, hd, hd2, hR, hO, q⟩
  show t_are_alike K _ [some x, some y] H
  unfold t_are_alike
  walk_at "w"
  refine ⟨x, rowD r, rfl, hd, fit_row r, isRow_of hR, fun H1 s1 => ?_⟩
  walk_at "w"
  refine ⟨y, rowD o, rfl, s1.dat hd2, fit_row o, isRow_of hO, fun H2 s2 => ?_⟩
  walk_at "w"
  refine ⟨x, y, r, o, rfl, s2.dat (s1.dat hd), s2.dat (s1.dat hd2), hR, hO, fun H3 s3 => ?_⟩
  walk_at "w"
  rw [bD_partV hR hO]
  exact q H3 ((s1.trans s2).trans s3)
theorem sem_parting : ∀ vs H Q E, sp_parting K vs H Q E → t_parting K { nx := fun _ H' => Q .non H', rt := Q } (start ["row", "other"] vs) H := by
  rintro vs H Q E ⟨x, y, r, o, rfl, hd, hd2, hR, hO, q⟩
  show t_parting K _ [some x, some y] H
  unfold t_parting
  walk_at "w"
  refine ⟨x, rowD r, rfl, hd, fit_row r, isRow_of hR, fun H1 s1 => ?_⟩
  walk_at "w"
  refine ⟨y, rowD o, rfl, s1.dat hd2, fit_row o, isRow_of hO, fun H2 s2 => ?_⟩
  walk_at "w"
  exact ⟨x, y, r, o, rfl, s2.dat (s1.dat hd), s2.dat (s1.dat hd2), hR, hO, fun H3 s3 => q H3 ((s1.trans s2).trans s3)⟩
theorem sem_does_nothing : ∀ vs H Q E, sp_does_nothing K vs H Q E → t_does_nothing K { nx := fun _ H' => Q .non H', rt := Q } (start ["row"] vs) H := by
  rintro vs H Q E ⟨x, r, rfl, hd, hR, q⟩
  show t_does_nothing K _ [some x] H
  unfold t_does_nothing
  walk_at "w"
  refine ⟨x, rowD r, rfl, hd, fit_row r, isRow_of hR, fun H1 s1 => ?_⟩
  walk_at "w"
  refine ⟨szOk 0, fun p np => ?_⟩
  walk_at "w"
  refine ⟨x, .ref p, r, [], rfl, (same_new np).dat (s1.dat hd), .tup sqT_new .nil, hR, ok_nil, fun H3 s3 => ?_⟩
  walk_at "w"
  rw [bD_partV hR ok_nil]
  exact q H3 ((s1.trans (same_new np)).trans s3)
theorem kind_tw (tw : Bool) : bD (kindOf tw = "twice") = tw := by
  cases tw with
  | true => exact bD_t rfl
  | false => exact bD_f (by decide +kernel)
theorem sem_undone_by : ∀ vs H Q E, sp_undone_by K vs H Q E → t_undone_by K { nx := fun _ H' => Q .non H', rt := Q } (start ["one", "kind", "every", "counted"] vs) H := by
  rintro vs H Q E ⟨x, f, rfl, hd, hf, q⟩
  show t_undone_by K _ [some x, none, none, none] H
  unfold t_undone_by
  walk_at "w"
  refine ⟨x, folkD f, rfl, hd, fit_folk f, fun H1 s1 => ?_⟩
  rw [isOne_of hf]
  walk_at "w"
  refine iteF ?_
  obtain ⟨a, rfl, hs⟩ := folk_inv (s1.dat hd)
  have none' : ∀ H2, Same H H2 → undoneR f = [] → tRet (tTup tNil) { nx := fun _ H' => Q .non H', rt := Q } [some (.ref a), none, none, none] H2 := fun H2 s2 e => by
    walk_at "w"
    refine ⟨szOk 0, fun p np => ?_⟩
    refine q _ _ (s2.trans (same_new np)) ?_
    rw [e]
    exact .tup sqT_new .nil
  cases f with
  | hears u v =>
    have hs' : SqT K H1 a [.str "hears", .str (sg u), .str (sg v)] := hs
    walk_at "w"
    refine w_nT (by decide +kernel) ?_
    walk_at "w"
    refine ⟨szOk 0, fun p np => ?_⟩
    exact q _ _ (s1.trans (same_new np)) (.tup sqT_new .nil)
  | ctr tw e c =>
    have hs' : SqT K H1 a [.str (kindOf tw), .int (e : Nat), .int (c : Nat)] := hs
    walk_at "w"
    have hno : ¬ (tw = true ∧ e ≤ 5) → ∀ y1 y2 y3, tRet (tTup tNil) { nx := fun _ H' => Q .non H', rt := Q } [some (.ref a), y1, y2, y3] H1 := fun h y1 y2 y3 => by
      walk_at "w"
      refine ⟨szOk 0, fun p np => ?_⟩
      refine q _ _ (s1.trans (same_new np)) ?_
      rw [show undoneR (.ctr tw e c) = [] from if_neg h]
      exact .tup sqT_new .nil
    cases tw with
    | false =>
      refine w_nT (by decide +kernel) ?_
      exact hno (fun h => by cases h.1) _ _ _
    | true =>
      refine w_nF rfl ?_
      walk_at "w"
      by_cases h5 : e ≤ 5
      · refine w_dF (by omega) ?_
        walk_at "w"
        refine ⟨szOk 3, fun p1 n1 => ?_⟩
        walk_at "w"
        refine ⟨szOk 3, fun p2 n2 => ?_⟩
        walk_at "w"
        refine ⟨szOk 2, fun p3 n3 => ?_⟩
        refine q _ _ (((s1.trans (same_new n1)).trans (same_new n2)).trans (same_new n3)) ?_
        rw [show undoneR (.ctr true e c) = [.ctr false (e + 1) c, .ctr false (e + 1) (c + 1)] from if_pos ⟨rfl, h5⟩]
        exact .tup sqT_new (.cons (folk_of (f := .ctr false (e + 1) c) (sqT_at ((same_new n3) _ _ ((same_new n2) _ _ upd_same)))) (.cons (folk_of (f := .ctr false (e + 1) (c + 1)) (sqT_at ((same_new n3) _ _ upd_same))) .nil))
      · refine w_dT (by omega) ?_
        exact hno (fun h => h5 h.2) _ _ _
end
end HH

namespace HH
open PySem PySem.Spec L2
local macro_rules | `(tactic| walk_at "cy") => `(tactic| first
  | assumption
  | exact L2.upd_same
  | exact L2.sqL_new
  | exact L2.sqT_new
  | exact L2.sqL_at (by assumption)
  | exact L2.sqT_at (by assumption)
  | (refine' L2.Same.seq (by assumption) ?k0; (case k0 => walk_at "cy"))
  | (refine' L2.Same.sqT (by assumption) ?k0; (case k0 => walk_at "cy"))
  | (refine' L2.Same.dat (by assumption) ?k0; (case k0 => walk_at "cy"))
  | (refine' (by assumption : L2.Same _ _) _ _ ?k0; (case k0 => walk_at "cy"))
  | (refine' L2.Same.seq (L2.same_new (by assumption)) ?k0; (case k0 => walk_at "cy"))
  | (refine' L2.Same.sqT (L2.same_new (by assumption)) ?k0; (case k0 => walk_at "cy"))
  | (refine' L2.Same.dat (L2.same_new (by assumption)) ?k0; (case k0 => walk_at "cy"))
  | (refine' L2.same_new (by assumption) _ _ ?k0; (case k0 => walk_at "cy"))
  | (refine' L2.Mv.sqT (by assumption) ?k0; (case k0 => walk_at "cy")))
local macro_rules | `(tactic| walk_at "w") => `(tactic| repeat (first
  | refine HH.stp ?_
  | with_reducible refine L2.iteT ?_
  | with_reducible refine L2.iteF ?_
  | ((with_reducible refine' HH.w_gtup ?k1 ?k2 ?_); (case k1 => walk_at "cy"); (case k2 => exact rfl))
  | ((with_reducible refine' HH.w_ixT ?k1 ?k2 ?_); (case k1 => walk_at "cy"); (case k2 => exact rfl))
  | ((with_reducible refine' HH.w_ixL ?k1 ?k2 ?_); (case k1 => walk_at "cy"); (case k2 => exact rfl))
  | ((with_reducible refine' HH.w_lenL ?k1 ?_); (case k1 => walk_at "cy"))
  | ((with_reducible refine' HH.w_lenT ?k1 ?_); (case k1 => walk_at "cy"))
  | ((with_reducible refine' HH.w_exT ?k1 ?_); (case k1 => walk_at "cy"))
  | ((with_reducible refine' HH.w_exL ?k1 ?_); (case k1 => walk_at "cy"))
  | ((with_reducible refine' HH.w_tyL ?k1 ?_); (case k1 => walk_at "cy"))
  | ((with_reducible refine' HH.w_setL ?k1 ?k2 ?_); (case k1 => walk_at "cy"); (case k2 => exact rfl))
  | ((with_reducible refine' HH.w_modI ?k1 ?_); (case k1 => first | (with_reducible assumption) | omega))
  | ((with_reducible refine' HH.w_divI ?k1 ?_); (case k1 => (constructor <;> omega)))))
local macro_rules | `(tactic| walk_at "v") => `(tactic| ((repeat ((fail_if_success (with_reducible refine HH.isIf ?_)); first
  | refine HH.stp ?_
  | with_reducible refine L2.iteT ?_
  | with_reducible refine L2.iteF ?_
  | ((with_reducible refine' HH.w_gtup ?k1 ?k2 ?_); (case k1 => walk_at "cy"); (case k2 => exact rfl))
  | ((with_reducible refine' HH.w_ixT ?k1 ?k2 ?_); (case k1 => walk_at "cy"); (case k2 => exact rfl))
  | ((with_reducible refine' HH.w_ixL ?k1 ?k2 ?_); (case k1 => walk_at "cy"); (case k2 => exact rfl))
  | ((with_reducible refine' HH.w_lenL ?k1 ?_); (case k1 => walk_at "cy"))
  | ((with_reducible refine' HH.w_lenT ?k1 ?_); (case k1 => walk_at "cy"))
  | ((with_reducible refine' HH.w_exT ?k1 ?_); (case k1 => walk_at "cy"))
  | ((with_reducible refine' HH.w_exL ?k1 ?_); (case k1 => walk_at "cy"))
  | ((with_reducible refine' HH.w_tyL ?k1 ?_); (case k1 => walk_at "cy"))
  | ((with_reducible refine' HH.w_setL ?k1 ?k2 ?_); (case k1 => walk_at "cy"); (case k2 => exact rfl))
  | ((with_reducible refine' HH.w_modI ?k1 ?_); (case k1 => first | (with_reducible assumption) | omega))
  | ((with_reducible refine' HH.w_divI ?k1 ?_); (case k1 => (constructor <;> omega)))))); (try (with_reducible refine HH.isIf ?_)))
section
variable (K : PySem.W.Frag)
def sp_l_bent : Sp := fun vs H Q _ => ∃ (b : Addr) (x : V) (r : Row), vs = [.ref b, x] ∧ BagOk K H b ∧ Dp K H x (rowD r) ∧ Row.Ok r ∧ ∀ (v : V) (r' : Row) (H' : Hp), Dr K b H H' → Row.Ok r' → Dp K H' v (rowD r') → Q v H'
def sp_l_same_out : Sp := fun vs H Q _ => ∃ (x y : V) (r o : Row), vs = [x, y] ∧ Dp K H x (rowD r) ∧ Dp K H y (rowD o) ∧ Row.Ok r ∧ Row.Ok o ∧ ∀ H', Same H H' → Q (.bl (bD (alike r o))) H'
theorem len_l_bent : ∀ vs H Q E, sp_l_bent K vs H Q E → vs.length = 2 := by rintro _ _ _ _ ⟨_, _, _, rfl, _⟩; rfl
theorem len_l_same_out : ∀ vs H Q E, sp_l_same_out K vs H Q E → vs.length = 2 := by rintro _ _ _ _ ⟨_, _, _, _, rfl, _⟩; rfl
end
def t_l_bent (K : PySem.W.Frag) : TS :=
  (tSeq (tAsg (tCall (sp_l_take K) [] E0 (tCons (tVar 0) (tCons (tC (.int 4)) tNil))) (gName 2))
  (tSeq (tIfS (tAnd (tTest (tOp rEq (tVar 2) (tC (.int 0)))) (tTest (tOp rLtI (tCB (rLenQ K) (tCons (tVar 1) tNil)) (tC (.int 3))))) (tSeq (tAsg (tOp rAddI (tC (.int 2)) (tCall (sp_l_take K) [] E0 (tCons (tVar 0) (tCons (tC (.int 4)) tNil)))) (gName 3))
  (tSeq (tAsg (tCall (sp_l_take K) [] E0 (tCons (tVar 0) (tCons (tVar 3) tNil))) (gName 4))
  (tSeq (tAsg (tCall (sp_l_take K) [] E0 (tCons (tVar 0) (tCons (tOp rAddI (tCB (rLenQ K) (tCons (tVar 1) tNil)) (tC (.int 1))) tNil))) (gName 5))
  (tSeq (tAsg (tTup (tCons (tTup (tCons (tC (.str "twice")) (tCons (tVar 3) (tCons (tVar 4) tNil)))) (tCons (tTup (tCons (tC (.str "drop")) (tCons (tOp rAddI (tVar 3) (tC (.int 1))) (tCons (tOp rAddI (tVar 4) (tCall (sp_l_take K) [] E0 (tCons (tVar 0) (tCons (tC (.int 2)) tNil)))) tNil)))) tNil))) (gName 6))
  (tRet (tOp (rCatA K) (tOp (rCatA K) (tSl (rSlA K) (tVar 1) tNoPart (tPart (tVar 5))) (tVar 6)) (tSl (rSlA K) (tVar 1) (tPart (tVar 5)) tNoPart))))))) tNext)
  (tSeq (tIfS (tTest (tOp rEq (tVar 2) (tC (.int 1)))) (tRet (tRevT K (tVar 1))) tNext)
  (tSeq (tIfS (tOr (tTest (tOp (rEqD K) (tVar 1) (tTup tNil))) (tTest (tOp rEq (tVar 2) (tC (.int 2))))) (tRet (tCall (sp_l_mouths K) [] E0 (tCons (tVar 0) (tCons (tC (.int 4)) (tCons (tC (.int 26)) tNil))))) tNext)
  (tSeq (tAsg (tCall (sp_l_take K) [] E0 (tCons (tVar 0) (tCons (tCB (rLenQ K) (tCons (tVar 1) tNil)) tNil))) (gName 5))
  (tSeq (tAsg (tOp (rIxT K) (tVar 1) (tVar 5)) (gTup K 3 (gCons (gName 7) (gCons (gName 8) (gCons (gName 9) gNil)))))
  (tRet (tIf (tTest (tOp rEq (tVar 7) (tC (.str "hears")))) (tVar 1) (tOp (rCatA K) (tOp (rCatA K) (tSl (rSlA K) (tVar 1) tNoPart (tPart (tVar 5))) (tTup (tCons (tTup (tCons (tVar 7) (tCons (tVar 8) (tCons (tCall (sp_l_take K) [] E0 (tCons (tVar 0) (tCons (tVar 8) tNil))) tNil)))) tNil))) (tSl (rSlA K) (tVar 1) (tPart (tOp rAddI (tVar 5) (tC (.int 1)))) tNoPart))))))))))

def t_l_same_out (K : PySem.W.Frag) : TS :=
  (tSeq (tAsg (tOp rAddI (tOp (rIxT K) (tCall (sp_round_of K) [] E0 (tCons (tVar 0) tNil)) (tC (.int 0))) (tOp (rIxT K) (tCall (sp_round_of K) [] E0 (tCons (tVar 1) tNil)) (tC (.int 0)))) (gName 2))
  (tSeq (tIfS (tTest (tOp (rNeD K) (tLc (iRng1 (tCons (tOp rAddI (tVar 2) (tC (.int 1))) tNil)) (gName 4) (tTest (tOp rNe (tCall (sp_come K) [] E0 (tCons (tVar 0) (tCons (tVar 4) tNil))) (tCall (sp_come K) [] E0 (tCons (tVar 1) (tCons (tVar 4) tNil))))) (tC (.int 1)) [4]) (tLst tNil))) (tRet (tC (.bl false))) tNext)
  (tSeq (tFor (iStr (tC (.str "abcdefghijklmnopqrstuvwxyz"))) (gName 3)
  (tIfS (tTest (tOp rNe (tCall (sp_letter_out K) [] E0 (tCons (tVar 0) (tCons (tVar 3) tNil))) (tCall (sp_letter_out K) [] E0 (tCons (tVar 1) (tCons (tVar 3) tNil))))) (tRet (tC (.bl false))) tNext))
  (tRet (tC (.bl true))))))

section
variable (K : PySem.W.Frag)
theorem eqv_row0 (r : Row) : PyData.eqv (rowD r) (.tuple []) = bD (r = []) := by
  cases r with
  | nil => exact (bD_t rfl).symm
  | cons f r => exact (bD_f (fun h => by cases h)).symm
theorem lay_folk {f : Folk} (h : f.ok = true) : PyData.canLay0 (folkD f) = true ∧ PyData.depth (folkD f) = 1 := by
  cases f with
  | hears a b =>
    have h' : (isSmall a && isSmall b && decide (a ≠ b)) = true := h
    simp only [Bool.and_eq_true] at h'
    have sm : ∀ c, isSmall c = true → PyData.strOk (sg c) = true := fun c hc => by
      unfold isSmall at hc
      rw [Bool.and_eq_true, decide_eq_true_eq, decide_eq_true_eq] at hc
      show (#[c] : Array Nat).all (· < 0x110000) = true
      simp
      omega
    refine ⟨?_, rfl⟩
    show (PyData.strOk "hears" && (PyData.strOk (sg a) && (PyData.strOk (sg b) && true))) = true
    rw [sm a h'.1.1, sm b h'.1.2]
    decide +kernel
  | ctr tw e c =>
    refine ⟨?_, rfl⟩
    show (PyData.strOk (kindOf tw) && (true && (true && true))) = true
    cases tw <;> decide +kernel
theorem lay_row : ∀ {r : Row}, (∀ f ∈ r, f.ok = true) → PyData.canLayAll0 (r.map folkD) = true ∧ PyData.depthAll (r.map folkD) ≤ 1
  | [], _ => ⟨rfl, by decide⟩
  | f :: r, h => by
    have ih := lay_row fun g hg => h g (List.mem_cons_of_mem _ hg)
    have hf := lay_folk (h f List.mem_cons_self)
    constructor
    · show (PyData.canLay0 (folkD f) && PyData.canLayAll0 (r.map folkD)) = true
      rw [hf.1, ih.1]
      rfl
    · show max (PyData.depth (folkD f)) (PyData.depthAll (r.map folkD)) ≤ 1
      rw [hf.2]
      omega
theorem shp_row {r : Row} (h : ∀ f ∈ r, f.ok = true) : SeqAt.shaped (rowD r) = true := by
  have := lay_row h
  show (PyData.canLayAll0 (r.map folkD) && decide (PyData.depthAll (r.map folkD) + 1 ≤ 64)) = true
  rw [this.1, decide_eq_true (by omega)]
  rfl
theorem w_eqR0 {H : Hp} {Q : VK} {x : V} {p : Addr} {r : Row} (hx : Dp K H x (rowD r)) (hr : ∀ f ∈ r, f.ok = true) (hp : H p = some (.tup [])) (q : Q (.bl (bD (r = []))) H) : rEqD K x (.ref p) H Q :=
  ⟨rowD r, .tuple [], hx, .tup (sqT_at hp) .nil, shp_row hr, by decide, by rw [eqv_row0]; exact q⟩
/-- house[:at] + mid + house[at + 1:] -/
theorem splice_ok {r mid : Row} {i : Nat} (h : ∀ f ∈ r, f.ok = true) (hm : ∀ f ∈ mid, f.ok = true) : ∀ f ∈ (r.take i ++ mid) ++ r.drop (i + 1), f.ok = true := fun f hf => by
  rcases List.mem_append.mp hf with hf | hf
  · rcases List.mem_append.mp hf with hf | hf
    · exact h f (List.mem_of_mem_take hf)
    · exact hm f hf
  · exact h f (List.mem_of_mem_drop hf)
theorem splice_ok0 {r mid : Row} {i : Nat} (h : ∀ f ∈ r, f.ok = true) (hm : ∀ f ∈ mid, f.ok = true) : ∀ f ∈ (r.take i ++ mid) ++ r.drop i, f.ok = true := fun f hf => by
  rcases List.mem_append.mp hf with hf | hf
  · rcases List.mem_append.mp hf with hf | hf
    · exact h f (List.mem_of_mem_take hf)
    · exact hm f hf
  · exact h f (List.mem_of_mem_drop hf)
theorem row_at {H : Hp} {xs : List V} {r : Row} {i : Nat} (ha : DpAll K H xs (r.map folkD)) (hi : i < r.length) : ∃ (v : V) (f : Folk), atI xs (i : Int) = some v ∧ r[i]? = some f ∧ Dp K H v (folkD f) := by
  have hl : i < xs.length := by rw [ha.len, List.length_map]; exact hi
  obtain ⟨f, hf, dd⟩ := row_get K ha (List.getElem?_eq_getElem hl)
  exact ⟨_, f, at_of rfl (List.getElem?_eq_getElem hl), hf, dd⟩
theorem w_revD {H : Hp} {a : Addr} {xs : List V} {r : Row} {Q : V → Hp → Prop} (ha : DpAll K H xs (r.map folkD)) (q : ∀ v H', Same H H' → Dp K H' v (rowD r.reverse) → Q v H') : ∀ p, H p = none → Q (.ref p) (upd H p (.tup xs.reverse)) := fun p np => by
  refine q _ _ (same_new np) (.tup sqT_new ?_)
  have := (same_new (o := .tup xs.reverse) np).dpAll _ _ ha.rev
  rw [List.map_reverse]
  exact this
theorem sem_l_bent : ∀ vs H Q E, sp_l_bent K vs H Q E → t_l_bent K { nx := fun _ H' => Q .non H', rt := Q } (start ["bag", "house", "way", "every", "counted", "at", "pair", "kind", "one", "other"] vs) H := by
  rintro vs H Q E ⟨b, x, r, rfl, hb, hd, hR, q⟩
  show t_l_bent K _ [some (.ref b), some x, none, none, none, none, none, none, none, none] H
  unfold t_l_bent
  have hl := hR.1
  walk_at "v"
  refine ⟨b, 4, rfl, hb, by decide, fun w H1 hw d1 => ?_⟩
  have hd1 := d1.row hd
  walk_at "v"
  -- behind the first test
  have rest : ∀ H2, Same H1 H2 → (tSeq (tIfS (tTest (tOp rEq (tVar 2) (tC (.int 1)))) (tRet (tRevT K (tVar 1))) tNext)
  (tSeq (tIfS (tOr (tTest (tOp (rEqD K) (tVar 1) (tTup tNil))) (tTest (tOp rEq (tVar 2) (tC (.int 2))))) (tRet (tCall (sp_l_mouths K) [] E0 (tCons (tVar 0) (tCons (tC (.int 4)) (tCons (tC (.int 26)) tNil))))) tNext)
  (tSeq (tAsg (tCall (sp_l_take K) [] E0 (tCons (tVar 0) (tCons (tCB (rLenQ K) (tCons (tVar 1) tNil)) tNil))) (gName 5))
  (tSeq (tAsg (tOp (rIxT K) (tVar 1) (tVar 5)) (gTup K 3 (gCons (gName 7) (gCons (gName 8) (gCons (gName 9) gNil)))))
  (tRet (tIf (tTest (tOp rEq (tVar 7) (tC (.str "hears")))) (tVar 1) (tOp (rCatA K) (tOp (rCatA K) (tSl (rSlA K) (tVar 1) tNoPart (tPart (tVar 5))) (tTup (tCons (tTup (tCons (tVar 7) (tCons (tVar 8) (tCons (tCall (sp_l_take K) [] E0 (tCons (tVar 0) (tCons (tVar 8) tNil))) tNil)))) tNil))) (tSl (rSlA K) (tVar 1) (tPart (tOp rAddI (tVar 5) (tC (.int 1)))) tNoPart)))))))) { nx := fun _ H' => Q .non H', rt := Q } [some (.ref b), some x, some (.int (w : Nat)), none, none, none, none, none, none, none] H2 := by
    intro H2 s2
    have dr2 := d1.same s2
    have hd2 := s2.dat hd1
    obtain ⟨a, xs, rfl, hs, ha⟩ := dp_tup hd2
    walk_at "v"
    refine w_ifS ?_
    walk_at "v"
    by_cases h1 : w = 1
    · refine w_dT (by omega) ?_
      walk_at "v"
      exact ⟨.ref a, rfl, a, xs, rfl, hs, w_revD K (a := a) ha fun v H' s' hv => q v _ H' (dr2.same s') ⟨by rw [List.length_reverse]; exact hl, fun f hf => hR.2 f (List.mem_reverse.mp hf)⟩ hv⟩
    · refine w_dF (by omega) ?_
      walk_at "v"
      refine w_ifS ?_
      walk_at "v"
      refine ⟨szOk 0, fun p np => ?_⟩
      refine w_eqR0 K ((same_new np).dat hd2) hR.2 upd_same ?_
      walk_at "v"
      have d3 := dr2.new (o := .tup []) np
      have hs3 := (same_new (o := .tup []) np).sqT hs
      have ha3 := (same_new (o := .tup []) np).dpAll _ _ ha
      have hd3 := (same_new (o := .tup []) np).dat hd2
      generalize upd H2 p (.tup []) = H3 at d3 hs3 ha3 hd3
      have mouths : tRet (tCall (sp_l_mouths K) [] E0 (tCons (tVar 0) (tCons (tC (.int 4)) (tCons (tC (.int 26)) tNil)))) { nx := fun _ H' => Q .non H', rt := Q } [some (.ref b), some (.ref a), some (.int (w : Nat)), none, none, none, none, none, none, none] H3 := by
        walk_at "v"
        exact ⟨b, 4, 26, rfl, d3.b1, by decide, by decide, by decide, fun v r' H' d' hl' hok _ hr => q v r' H' (d3.trans d') ⟨hl', hok⟩ hr⟩
      by_cases h0 : r = []
      · refine w_dT h0 ?_
        refine iteT ?_
        exact mouths
      · refine w_dF h0 ?_
        walk_at "v"
        by_cases h2 : w = 2
        · refine w_dT (by omega) ?_
          exact mouths
        · refine w_dF (by omega) ?_
          walk_at "v"
          have hr0 : 0 < r.length := List.length_pos_iff.mpr h0
          have hlx : xs.length = r.length := by rw [ha.len, List.length_map]
          rw [hlx]
          refine ⟨b, _, rfl, d3.b1, by omega, fun at' H4 hat d4 => ?_⟩
          have dd4 := d3.trans d4
          have hd4 := d4.row hd3
          have hs4 := d4.tp _ _ hs3
          have ha4 := d4.tp.dpAll _ _ (noLs_folks r) ha3
          obtain ⟨v, f, hv, hf, dd⟩ := row_at K ha4 (show at' < r.length by omega)
          walk_at "v"
          refine w_ixT hs4 hv ?_
          obtain ⟨fa, rfl, hfa⟩ := folk_inv dd
          have hfo := hR.2 f (List.mem_of_getElem? hf)
          cases f with
          | hears u z =>
            have hb' : SqT K H4 fa [.str "hears", .str (sg u), .str (sg z)] := hfa
            walk_at "v"
            refine w_dT rfl ?_
            walk_at "v"
            exact q _ r H4 dd4 hR hd4
          | ctr tw e c =>
            have hb' : SqT K H4 fa [.str (kindOf tw), .int (e : Nat), .int (c : Nat)] := hfa
            have hfk := fok_of hfo
            have he2 : 2 ≤ e := hfk.1
            have he6 : e ≤ 6 := hfk.2.1
            walk_at "v"
            refine w_dF (kind_nh tw) ?_
            walk_at "v"
            refine w_slR_to hd4 fun v1 H5 s5 hv1 => ?_
            walk_at "v"
            refine ⟨b, _, rfl, (dd4.same s5).b1, by omega, fun c2 H6 hc2 d6 => ?_⟩
            walk_at "v"
            refine ⟨szOk 3, fun p1 n1 => ?_⟩
            walk_at "v"
            refine ⟨szOk 1, fun p2 n2 => ?_⟩
            have hv1' := (same_new (o := .tup [.ref p1]) n2).dat ((same_new (o := .tup [.str (kindOf tw), .int (e : Nat), .int (c2 : Nat)]) n1).dat (d6.row hv1))
            have hd7 := (same_new (o := .tup [.ref p1]) n2).dat ((same_new (o := .tup [.str (kindOf tw), .int (e : Nat), .int (c2 : Nat)]) n1).dat (d6.row (s5.dat hd4)))
            have hnew : Dp K (upd (upd H6 p1 (.tup [.str (kindOf tw), .int (e : Nat), .int (c2 : Nat)])) p2 (.tup [.ref p1])) (.ref p2) (rowD [.ctr tw e c2]) := dp_lit K (q := p1) ((same_new n2) _ _ upd_same) upd_same
            have d7 := (((dd4.same s5).trans d6).new (o := .tup [.str (kindOf tw), .int (e : Nat), .int (c2 : Nat)]) n1).new (o := .tup [.ref p1]) n2
            have hl1 : (r.take at').length = at' := by rw [List.length_take]; omega
            refine w_catR hv1' hnew (by rw [hl1]; show at' + 1 ≤ 10000; omega) fun v2 H8 s8 hv2 => ?_
            walk_at "v"
            refine w_slR_from (k := at' + 1) (s8.dat hd7) fun v3 H9 s9 hv3 => ?_
            refine w_catR (s9.dat hv2) hv3 (by rw [List.length_append, hl1, List.length_drop]; show at' + 1 + _ ≤ 10000; omega) fun v4 H10 s10 hv4 => ?_
            refine q v4 _ H10 (((d7.same s8).same s9).same s10) ⟨?_, splice_ok hR.2 fun g hg => by rw [List.mem_singleton.mp hg]; exact ok_ctr he2 he6 (by omega)⟩ hv4
            rw [List.length_append, List.length_append, hl1, List.length_drop]
            show at' + 1 + _ ≤ 4
            omega
  refine w_ifS ?_
  walk_at "v"
  by_cases h0 : w = 0
  · refine w_dT (by omega) ?_
    walk_at "v"
    refine w_lenR hd1 ?_
    walk_at "v"
    by_cases h3 : r.length < 3
    · refine w_dT (by omega) ?_
      walk_at "v"
      refine ⟨b, 4, rfl, d1.b1, by decide, fun e0 H2 he0 d2 => ?_⟩
      walk_at "v"
      refine ⟨b, _, rfl, d2.b1, by omega, fun c H3 hc d3 => ?_⟩
      have dd3 := (d1.trans d2).trans d3
      have hd3 := dd3.row hd
      walk_at "v"
      refine w_lenR hd3 ?_
      walk_at "v"
      refine ⟨b, _, rfl, d3.b1, by omega, fun at' H4 hat d4 => ?_⟩
      walk_at "v"
      refine ⟨szOk 3, fun p1 n1 => ?_⟩
      walk_at "v"
      refine ⟨b, 2, rfl, (d4.new n1).b1, by decide, fun k H5 hk d5 => ?_⟩
      walk_at "v"
      refine ⟨szOk 3, fun p2 n2 => ?_⟩
      walk_at "v"
      refine ⟨szOk 2, fun p3 n3 => ?_⟩
      have f1 : Dp K (upd H4 p1 (.tup [.str "twice", .int (2 + (e0 : Int)), .int (c : Nat)])) (.ref p1) (folkD (.ctr true (2 + e0) c)) := folk_of (f := .ctr true (2 + e0) c) sqT_new
      have o1 : Folk.ok (.ctr true (2 + e0) c) = true := ok_ctr (by omega) (by omega) (by omega)
      have f1' := (same_new (o := .tup [.ref p1, .ref p2]) n3).dat ((same_new (o := .tup [.str "drop", .int (2 + (e0 : Int) + 1), .int ((c : Int) + (k : Int))]) n2).dat (d5.dat (noL_folk _) f1))
      have f2 : Dp K (upd H5 p2 (.tup [.str "drop", .int (2 + (e0 : Int) + 1), .int ((c : Int) + (k : Int))])) (.ref p2) (folkD (.ctr false (2 + e0 + 1) (c + k))) := folk_of (f := .ctr false (2 + e0 + 1) (c + k)) sqT_new
      have o2 : Folk.ok (.ctr false (2 + e0 + 1) (c + k)) = true := ok_ctr (by omega) (by omega) (by omega)
      have f2' := (same_new (o := .tup [.ref p1, .ref p2]) n3).dat f2
      have hp : Dp K (upd (upd H5 p2 (.tup [.str "drop", .int (2 + (e0 : Int) + 1), .int ((c : Int) + (k : Int))])) p3 (.tup [.ref p1, .ref p2])) (.ref p3) (rowD [.ctr true (2 + e0) c, .ctr false (2 + e0 + 1) (c + k)]) := .tup sqT_new (.cons f1' (.cons f2' .nil))
      have dd := ((((dd3.trans d4).new (o := .tup [.str "twice", .int (2 + (e0 : Int)), .int (c : Nat)]) n1).trans d5).new (o := .tup [.str "drop", .int (2 + (e0 : Int) + 1), .int ((c : Int) + (k : Int))]) n2).new (o := .tup [.ref p1, .ref p2]) n3
      walk_at "v"
      generalize upd (upd H5 p2 (.tup [.str "drop", .int (2 + (e0 : Int) + 1), .int ((c : Int) + (k : Int))])) p3 (.tup [.ref p1, .ref p2]) = H6 at hp dd
      have hd5 := dd.row hd
      refine w_slR_to hd5 fun v1 H6 s6 hv1 => ?_
      walk_at "v"
      refine w_catR hv1 (s6.dat hp) (by rw [List.length_take]; show _ + 2 ≤ 10000; omega) fun v2 H7 s7 hv2 => ?_
      walk_at "v"
      refine w_slR_from (s7.dat (s6.dat hd5)) fun v3 H8 s8 hv3 => ?_
      refine w_catR (s8.dat hv2) hv3 (by rw [List.length_append, List.length_take, List.length_drop]; show _ + 2 + _ ≤ 10000; omega) fun v4 H9 s9 hv4 => ?_
      refine q v4 _ H9 (((dd.same s6).same s7).same s8 |>.same s9) ⟨?_, splice_ok0 hR.2 fun g hg => ?_⟩ hv4
      · rw [List.length_append, List.length_append, List.length_take, List.length_drop]
        show min at' r.length + 2 + _ ≤ 4
        omega
      · rcases List.mem_cons.mp hg with hg | hg
        · rw [hg]; exact o1
        · rw [List.mem_singleton.mp hg]; exact o2
    · refine w_dF (by omega) ?_
      walk_at "v"
      exact rest H1 (Same.refl _)
  · refine w_dF (by omega) ?_
    walk_at "v"
    exact rest H1 (Same.refl _)
theorem sem_l_same_out : ∀ vs H Q E, sp_l_same_out K vs H Q E → t_l_same_out K { nx := fun _ H' => Q .non H', rt := Q } (start ["house", "other", "many", "letter", "signs"] vs) H := by
  rintro vs H Q E ⟨x, y, r, o, rfl, hd, hd2, hR, hO, q⟩
  show t_l_same_out K _ [some x, some y, none, none, none] H
  unfold t_l_same_out
  have hro := rok_of hR
  have hoo := rok_of hO
  have hp := lp_spec hro
  have hq := lp_spec hoo
  have hp6 := lp_le hro hR.1
  have hq6 := lp_le hoo hO.1
  walk_at "v"
  refine ⟨x, r, rfl, hd, hR, fun H1 p1 s1 n1 h1 => ?_⟩
  have h1' : H1 p1 = some (.tup [.int (lp r : Nat), .int (allCome r (lp r) : Nat)]) := h1
  clear h1
  walk_at "v"
  refine ⟨y, o, rfl, s1.dat hd2, hO, fun H2 p2 s2 n2 h2 => ?_⟩
  have h2' : H2 p2 = some (.tup [.int (lp o : Nat), .int (allCome o (lp o) : Nat)]) := h2
  clear h2
  walk_at "v"
  have s12 := s1.trans s2
  have hdx := s12.dat hd
  have hdy := s12.dat hd2
  generalize lp r = p at hp hp6 h1'
  generalize lp o = p' at hq hq6 h2'
  refine w_ifS ?_
  walk_at "v"
  refine ⟨_, rfl, by omega, by omega, fun D nD => ?_⟩
  have hn : ((p : Int) + (p' : Int) + 1).toNat = p + p' + 1 := by omega
  refine lc_same walk_range nD [some x, some y, some (.int ((p : Int) + (p' : Int))), none, none] rfl (fun i => vI (((List.range i).filter fun j => bD (¬ allCome r j = allCome o j)).map fun _ => 1)) rfl (fun _ _ => trivial) (fun i v H3 H3' hi z yy => ?_) (fun H3 s3 hD => ?_)
  · obtain ⟨rfl, rfl⟩ := yy
    rw [hn] at hi
    have hsz : (vI (((List.range i).filter fun j => bD (¬ allCome r j = allCome o j)).map fun _ => 1)).length < sizeLine := szLt _ (by
      rw [List.length_map, List.length_map]
      have g1 := List.length_filter_le (fun j => bD (¬ allCome r j = allCome o j)) (List.range i)
      rw [List.length_range] at g1
      omega)
    walk_at "v"
    refine ⟨rfl, ?_⟩
    walk_at "v"
    refine ⟨x, r, i, by show [x, V.int (0 + (i : Int))] = _; rw [Int.zero_add], z.1.dat hdx, hR, by omega, fun H4 s4 => ?_⟩
    walk_at "v"
    refine ⟨y, o, i, by show [y, V.int (0 + (i : Int))] = _; rw [Int.zero_add], s4.dat (z.1.dat hdy), hO, by omega, fun H5 s5 => ?_⟩
    walk_at "v"
    by_cases he : allCome r i = allCome o i
    · refine w_nF (by rw [he]) ?_
      refine lc_skip z (s4.trans s5) ?_
      rw [List.range_succ, List.filter_append]
      have : ([i].filter fun j => bD (¬ allCome r j = allCome o j)) = [] := by
        rw [List.filter_cons, if_neg (by rw [bD_f (fun h => h he)]; decide)]
        rfl
      rw [this, List.append_nil]
    · refine w_nT (by omega) ?_
      walk_at "v"
      refine lc_put nD z (s4.trans s5) hsz ?_
      rw [List.range_succ, List.filter_append]
      have : ([i].filter fun j => bD (¬ allCome r j = allCome o j)) = [i] := by
        rw [List.filter_cons, if_pos (bD_t he)]
        rfl
      rw [this]
      unfold vI
      rw [List.map_append, List.map_append]
      rfl
  · rw [hn] at hD
    walk_at "v"
    refine ⟨szOk 0, fun e ne => ?_⟩
    refine w_neL (sqL_at ((same_new ne) _ _ hD)) (b := []) sqL_new ?_
    have s4 := (s12.trans s3).trans (same_new (o := .lst []) ne)
    have hdx4 := (same_new (o := .lst []) ne).dat (s3.dat hdx)
    have hdy4 := (same_new (o := .lst []) ne).dat (s3.dat hdy)
    generalize upd H3 e (.lst []) = H4 at s4 hdx4 hdy4
    walk_at "v"
    have hnil : (((List.range (p + p' + 1)).filter fun j => bD (¬ allCome r j = allCome o j)).map fun _ => 1) = ([] : List Nat) ↔ ∀ i, i ≤ p + p' → allCome r i = allCome o i := by
      rw [List.map_eq_nil_iff, List.filter_eq_nil_iff]
      constructor
      · intro h i hi
        apply Classical.byContradiction
        intro h2
        exact h i (List.mem_range.mpr (by omega)) (bD_t h2)
      · intro h i hi h2
        exact bT h2 (h i (by have := List.mem_range.mp hi; omega))
    by_cases hall : ∀ i, i ≤ p + p' → allCome r i = allCome o i
    · refine w_nF (hnil.mpr hall) ?_
      have hdl : ∀ i, dl r i = dl o i := fun i => dl_ever hp.2.1 hq.2.1 hp.1 hq.1 (fun j hj => by unfold dl; rw [hall j (by omega), hall (j + 1) (by omega)]) (i + 1) i (by omega)
      walk_at "v"
      refine for_it (walk_str (z := "abcdefghijklmnopqrstuvwxyz")) (fun i σ H5 => ∃ y3, σ = [some x, some y, some (.int ((p : Int) + (p' : Int))), y3, none] ∧ Same H4 H5 ∧ ∀ c ∈ smalls.take i, heardAs r c = heardAs o c) ⟨none, rfl, Same.refl _, fun c hc => by cases hc⟩ (fun _ _ _ _ _ => trivial) ?_ ?_
      · rintro i v σ H5 H5' hi ⟨y3, rfl, s5, hall2⟩ ⟨rfl, c, hc, rfl⟩
        have hc' : smalls[i]? = some c := by rw [← alpha_tl, Array.getElem?_toList]; exact hc
        have hcs : isSmall c = true := mem_smalls.mp (List.mem_of_getElem? hc')
        walk_at "v"
        refine w_ifS ?_
        walk_at "v"
        refine ⟨x, r, c, rfl, s5.dat hdx4, hR, hcs, fun H6 s6 => ?_⟩
        walk_at "v"
        refine ⟨y, o, c, rfl, s6.dat (s5.dat hdy4), hO, hcs, fun H7 s7 => ?_⟩
        walk_at "v"
        by_cases he : heardAs r c = heardAs o c
        · refine w_nF (congrArg sg he) ?_
          walk_at "v"
          refine ⟨_, rfl, (s5.trans s6).trans s7, fun d hd => ?_⟩
          rw [List.take_add_one, hc'] at hd
          rcases List.mem_append.mp hd with hd | hd
          · exact hall2 d hd
          · rw [List.mem_singleton.mp hd]; exact he
        · refine w_nT (fun h => he (sg_inj h)) ?_
          walk_at "v"
          have := q H7 (((s4.trans s5).trans s6).trans s7)
          rw [bD_f (fun h : alike r o => he (h.2 c hcs))] at this
          exact this
      · rintro σ H5 ⟨y3, rfl, s5, hall2⟩
        walk_at "v"
        have := q H5 (s4.trans s5)
        rw [bD_t ⟨hdl, fun c hc => hall2 c (by rw [List.take_of_length_le (by decide +kernel)]; exact mem_smalls.mpr hc)⟩] at this
        exact this
    · refine w_nT (fun h => hall (hnil.mp h)) ?_
      walk_at "v"
      have := q H4 s4
      rw [bD_f (fun h : alike r o => hall fun i _ => alike_come hro hoo h i)] at this
      exact this
end
end HH

namespace HH
open PySem PySem.Spec L2
local macro_rules | `(tactic| walk_at "cy") => `(tactic| first
  | assumption
  | exact L2.upd_same
  | exact L2.sqL_new
  | exact L2.sqT_new
  | exact L2.sqL_at (by assumption)
  | exact L2.sqT_at (by assumption)
  | (refine' L2.Same.seq (by assumption) ?k0; (case k0 => walk_at "cy"))
  | (refine' L2.Same.sqT (by assumption) ?k0; (case k0 => walk_at "cy"))
  | (refine' L2.Same.dat (by assumption) ?k0; (case k0 => walk_at "cy"))
  | (refine' (by assumption : L2.Same _ _) _ _ ?k0; (case k0 => walk_at "cy"))
  | (refine' L2.Same.seq (L2.same_new (by assumption)) ?k0; (case k0 => walk_at "cy"))
  | (refine' L2.Same.sqT (L2.same_new (by assumption)) ?k0; (case k0 => walk_at "cy"))
  | (refine' L2.Same.dat (L2.same_new (by assumption)) ?k0; (case k0 => walk_at "cy"))
  | (refine' L2.same_new (by assumption) _ _ ?k0; (case k0 => walk_at "cy"))
  | (refine' L2.Mv.sqT (by assumption) ?k0; (case k0 => walk_at "cy")))
local macro_rules | `(tactic| walk_at "w") => `(tactic| repeat (first
  | refine HH.stp ?_
  | with_reducible refine L2.iteT ?_
  | with_reducible refine L2.iteF ?_
  | ((with_reducible refine' HH.w_gtup ?k1 ?k2 ?_); (case k1 => walk_at "cy"); (case k2 => exact rfl))
  | ((with_reducible refine' HH.w_ixT ?k1 ?k2 ?_); (case k1 => walk_at "cy"); (case k2 => exact rfl))
  | ((with_reducible refine' HH.w_ixL ?k1 ?k2 ?_); (case k1 => walk_at "cy"); (case k2 => exact rfl))
  | ((with_reducible refine' HH.w_lenL ?k1 ?_); (case k1 => walk_at "cy"))
  | ((with_reducible refine' HH.w_lenT ?k1 ?_); (case k1 => walk_at "cy"))
  | ((with_reducible refine' HH.w_exT ?k1 ?_); (case k1 => walk_at "cy"))
  | ((with_reducible refine' HH.w_exL ?k1 ?_); (case k1 => walk_at "cy"))
  | ((with_reducible refine' HH.w_tyL ?k1 ?_); (case k1 => walk_at "cy"))
  | ((with_reducible refine' HH.w_setL ?k1 ?k2 ?_); (case k1 => walk_at "cy"); (case k2 => exact rfl))
  | ((with_reducible refine' HH.w_modI ?k1 ?_); (case k1 => first | (with_reducible assumption) | omega))
  | ((with_reducible refine' HH.w_divI ?k1 ?_); (case k1 => (constructor <;> omega)))))
local macro_rules | `(tactic| walk_at "v") => `(tactic| ((repeat ((fail_if_success (with_reducible refine HH.isIf ?_)); first
  | refine HH.stp ?_
  | with_reducible refine L2.iteT ?_
  | with_reducible refine L2.iteF ?_
  | ((with_reducible refine' HH.w_gtup ?k1 ?k2 ?_); (case k1 => walk_at "cy"); (case k2 => exact rfl))
  | ((with_reducible refine' HH.w_ixT ?k1 ?k2 ?_); (case k1 => walk_at "cy"); (case k2 => exact rfl))
  | ((with_reducible refine' HH.w_ixL ?k1 ?k2 ?_); (case k1 => walk_at "cy"); (case k2 => exact rfl))
  | ((with_reducible refine' HH.w_lenL ?k1 ?_); (case k1 => walk_at "cy"))
  | ((with_reducible refine' HH.w_lenT ?k1 ?_); (case k1 => walk_at "cy"))
  | ((with_reducible refine' HH.w_exT ?k1 ?_); (case k1 => walk_at "cy"))
  | ((with_reducible refine' HH.w_exL ?k1 ?_); (case k1 => walk_at "cy"))
  | ((with_reducible refine' HH.w_tyL ?k1 ?_); (case k1 => walk_at "cy"))
  | ((with_reducible refine' HH.w_setL ?k1 ?k2 ?_); (case k1 => walk_at "cy"); (case k2 => exact rfl))
  | ((with_reducible refine' HH.w_modI ?k1 ?_); (case k1 => first | (with_reducible assumption) | omega))
  | ((with_reducible refine' HH.w_divI ?k1 ?_); (case k1 => (constructor <;> omega)))))); (try (with_reducible refine HH.isIf ?_)))
section
variable (K : PySem.W.Frag)
/-- all counters, in the order in which they are tried -/
def ctrsOf (tw : Bool) (e n : Nat) : Row := (List.range n).map fun c => .ctr tw e c
def ctrsTo (tw : Bool) (n : Nat) : Row := ((List.range n).map fun j => ctrsOf tw (2 + j) (2 + j)).flatten
def allC : Row := ctrsTo false 5 ++ ctrsTo true 5
theorem ctrsOf_succ (tw : Bool) (e n : Nat) : ctrsOf tw e (n + 1) = ctrsOf tw e n ++ [.ctr tw e n] := by
  unfold ctrsOf
  rw [List.range_succ, List.map_append]
  rfl
theorem ctrsTo_succ (tw : Bool) (n : Nat) : ctrsTo tw (n + 1) = ctrsTo tw n ++ ctrsOf tw (2 + n) (2 + n) := by
  unfold ctrsTo
  rw [List.range_succ, List.map_append, List.flatten_append]
  simp
def isPairD : PyData → Bool
  | .tuple [d, e] => isWordD d && isWordD e
  | _ => false
def pairD (p : List Nat × List Nat) : PyData := .tuple [.str (tx p.1), .str (tx p.2)]
def pairsD (ps : List (List Nat × List Nat)) : PyData := .tuple (ps.map pairD)
noncomputable def canBe (r : Row) (i : Nat) (ps : List (List Nat × List Nat)) (f : Folk) : Bool := ps.all fun p => bD (comes ((r.take i ++ [f]) ++ r.drop (i + 1)) p.1 = p.2)
noncomputable def whoCan (r : Row) (i : Nat) (ps : List (List Nat × List Nat)) : Row := allC.filter (canBe r i ps)
def sp_all_counters : Sp := fun vs H Q _ => vs = [] ∧ ∀ (p : Addr) (xs : List V) H', Same H H' → H p = none → H' p = some (.lst xs) → DpAll K H' xs (allC.map folkD) → Q (.ref p) H'
def sp_is_pair : Sp := fun vs H Q _ => ∃ (x : V) (d : PyData), vs = [x] ∧ Dp K H x d ∧ fitD d = true ∧ ∀ H', Same H H' → Q (.bl (isPairD d)) H'
def sp_who_can : Sp := fun vs H Q _ => ∃ (x pv : V) (r : Row) (i : Nat) (ps : List (List Nat × List Nat)), vs = [x, .int (i : Nat), pv] ∧ Dp K H x (rowD r) ∧ Row.Ok r ∧ i < r.length ∧ Dp K H pv (pairsD ps) ∧ 1 ≤ ps.length ∧ ps.length ≤ 10 ∧ (∀ p ∈ ps, WordOk p.1 ∧ WordOk p.2) ∧
  ∀ (p : Addr) (xs : List V) H', Same H H' → H p = none → H' p = some (.lst xs) → DpAll K H' xs ((whoCan r i ps).map folkD) → Q (.ref p) H'
theorem len_all_counters : ∀ vs H Q E, sp_all_counters K vs H Q E → vs.length = 0 := by rintro _ _ _ _ ⟨rfl, _⟩; rfl
theorem len_is_pair : ∀ vs H Q E, sp_is_pair K vs H Q E → vs.length = 1 := by rintro _ _ _ _ ⟨_, _, rfl, _⟩; rfl
theorem len_who_can : ∀ vs H Q E, sp_who_can K vs H Q E → vs.length = 3 := by rintro _ _ _ _ ⟨_, _, _, _, _, rfl, _⟩; rfl
end
def t_all_counters (K : PySem.W.Frag) : TS :=
  (tSeq (tAsg (tLst tNil) (gName 0))
  (tSeq (tFor (iTup K (tTup (tCons (tC (.str "drop")) (tCons (tC (.str "twice")) tNil)))) (gName 1)
  (tFor (iRng2 (tCons (tC (.int 2)) (tCons (tC (.int 7)) tNil))) (gName 2)
  (tAsg (tOp rCat (tVar 0) (tLc (iRng1 (tCons (tVar 2) tNil)) (gName 3) tYes (tTup (tCons (tVar 1) (tCons (tVar 2) (tCons (tVar 3) tNil)))) [3])) (gName 0))))
  (tRet (tVar 0))))

def t_is_pair (K : PySem.W.Frag) : TS :=
  (tRet (tAndV (tCB (rIsi K) (tCons (tVar 0) (tCons (tC (.ty "tuple")) tNil))) (tAndV (tOp rEq (tCB (rLenQ K) (tCons (tVar 0) tNil)) (tC (.int 2))) (tAndV (tCall (sp_is_word K) [] E0 (tCons (tOp (rIxT K) (tVar 0) (tC (.int 0))) tNil)) (tCall (sp_is_word K) [] E0 (tCons (tOp (rIxT K) (tVar 0) (tC (.int 1))) tNil))))))

def t_who_can (K : PySem.W.Frag) : TS :=
  (tSeq (tDrop (tCall (sp_need_row K) [] E0 (tCons (tVar 0) tNil)))
  (tSeq (tIfS (tNot (tB (tCall (sp_is_within K) [] E0 (tCons (tVar 1) (tCons (tC (.int 0)) (tCons (tOp rSubI (tCB (rLenQ K) (tCons (tVar 0) tNil)) (tC (.int 1))) tNil)))))) tNever tNext)
  (tSeq (tIfS (tOr (tNot (tB (tCB (rIsi K) (tCons (tVar 2) (tCons (tC (.ty "tuple")) tNil))))) (tOr (tNot (tTest (tChain rLeI rLeI (tC (.int 1)) (tCB (rLenQ K) (tCons (tVar 2) tNil)) (tC (.int 10))))) (tNot (tB (tCB (rAll K) (tCons (tLc (iTup K (tVar 2)) (gName 6) tYes (tCall (sp_is_pair K) [] E0 (tCons (tVar 6) tNil)) [6]) tNil)))))) tNever tNext)
  (tSeq (tAsg (tLst tNil) (gName 3))
  (tSeq (tFor (iList K (tCall (sp_all_counters K) [] E0 tNil)) (gName 4)
  (tSeq (tAsg (tOp (rCatA K) (tOp (rCatA K) (tSl (rSlA K) (tVar 0) tNoPart (tPart (tVar 1))) (tTup (tCons (tVar 4) tNil))) (tSl (rSlA K) (tVar 0) (tPart (tOp rAddI (tVar 1) (tC (.int 1)))) tNoPart)) (gName 5))
  (tIfS (tB (tCB (rAll K) (tCons (tLc (iTup K (tVar 2)) (gTup K 2 (gCons (gName 7) (gCons (gName 8) gNil))) tYes (tOp rEq (tCall (sp_comes_out K) [] E0 (tCons (tVar 5) (tCons (tVar 7) tNil))) (tVar 8)) [7, 8]) tNil))) (tDrop (tBM K "list" rAppend (tVar 3) (tCons (tVar 4) tNil))) tNext)))
  (tRet (tVar 3)))))))

local macro_rules | `(tactic| walk_at "is") => `(tactic| first
  | ((with_reducible refine' HH.w_is_int ?k1 ?_); (case k1 => walk_at "cy"))
  | ((with_reducible refine' HH.w_is_bool ?k1 ?_); (case k1 => walk_at "cy"))
  | ((with_reducible refine' HH.w_is_str ?k1 ?_); (case k1 => walk_at "cy"))
  | ((with_reducible refine' HH.w_is_tuple ?k1 ?_); (case k1 => walk_at "cy"))
  | ((with_reducible refine' HH.w_is_list ?k1 ?_); (case k1 => walk_at "cy")))
section
variable (K : PySem.W.Frag)
theorem ctrs_len : ∀ tw : Bool, ∀ j, j < 6 → (ctrsTo tw j).length ≤ 20 := by decide
theorem sem_all_counters : ∀ vs H Q E, sp_all_counters K vs H Q E → t_all_counters K { nx := fun _ H' => Q .non H', rt := Q } (start ["found", "kind", "every", "counted"] vs) H := by
  rintro vs H Q E ⟨rfl, q⟩
  show t_all_counters K _ [none, none, none, none] H
  unfold t_all_counters
  walk_at "v"
  refine ⟨szOk 0, fun f0 n0 => ?_⟩
  walk_at "v"
  refine ⟨szOk 2, fun t nt => ?_⟩
  walk_at "v"
  have s0 := (same_new (o := .lst []) n0).trans (same_new (o := .tup [.str "drop", .str "twice"]) nt)
  have hf0 := (same_new (o := .tup [.str "drop", .str "twice"]) nt) _ _ (upd_same (H := H) (a := f0) (o := .lst []))
  have ht0 : (upd (upd H f0 (.lst [])) t (.tup [.str "drop", .str "twice"])) t = some (.tup [.str "drop", .str "twice"]) := upd_same
  generalize upd (upd H f0 (.lst [])) t (.tup [.str "drop", .str "twice"]) = H0 at s0 hf0 ht0
  refine for_tup (xs := [.str "drop", .str "twice"]) (fun i σ H1 => ∃ (f : Addr) (xs : List V) (y1 y2 : Option V), σ = [some (.ref f), y1, y2, none] ∧ Same H0 H1 ∧ H f = none ∧ H1 f = some (.lst xs) ∧ DpAll K H1 xs (((if i = 0 then [] else if i = 1 then ctrsTo false 5 else allC) : Row).map folkD)) ⟨f0, [], none, none, rfl, Same.refl _, n0, hf0, .nil⟩ (fun i σ H1 _ z => by obtain ⟨_, _, _, _, _, s, _⟩ := z; exact s.sqT (sqT_at ht0)) ?_ ?_
  · rintro i v σ H1 hv ⟨f, xs, y1, y2, rfl, s1, nf, hf, hx⟩
    obtain ⟨tw, rfl, hi2, hacc, hnext⟩ : ∃ tw, v = .str (kindOf tw) ∧ i < 2 ∧ ((if i = 0 then [] else if i = 1 then ctrsTo false 5 else allC) : Row).length ≤ 20 ∧ ((if i + 1 = 0 then [] else if i + 1 = 1 then ctrsTo false 5 else allC) : Row) = ((if i = 0 then [] else if i = 1 then ctrsTo false 5 else allC) : Row) ++ ctrsTo tw 5 := by
      match i, hv with
      | 0, h => cases h; exact ⟨false, rfl, by decide, by decide, rfl⟩
      | 1, h => cases h; exact ⟨true, rfl, by decide, by decide, rfl⟩
      | i + 2, h => cases h
    generalize ((if i = 0 then [] else if i = 1 then ctrsTo false 5 else allC) : Row) = acc at hx hacc hnext
    rw [hnext]
    walk_at "v"
    refine ⟨2, 7, rfl, ⟨by decide, by decide, by decide, by decide⟩, ?_⟩
    refine for_range (lo := 2) (n := ((7 : Int) - 2).toNat) (fun j σ H2 => ∃ (f : Addr) (xs : List V) (y2 : Option V), σ = [some (.ref f), some (.str (kindOf tw)), y2, none] ∧ Same H0 H2 ∧ H f = none ∧ H2 f = some (.lst xs) ∧ DpAll K H2 xs ((acc ++ ctrsTo tw j).map folkD)) ?_ ?_ ?_
    · exact ⟨f, xs, y2, rfl, s1, nf, hf, by rw [show ctrsTo tw 0 = [] from rfl, List.append_nil]; exact hx⟩
    · rintro j σ H2 hj ⟨f, xs, y2, rfl, s2, nf, hf, hx⟩
      have hj5 : j < 5 := hj
      have hxl : xs.length ≤ 40 := by
        have h1 := hx.len
        rw [List.length_map, List.length_append] at h1
        have := ctrs_len tw j (by omega)
        omega
      walk_at "v"
      refine ⟨_, rfl, by omega, by omega, fun D nD => ?_⟩
      have neD : f ≠ D := ne_of_none hf nD
      refine lc_it walk_range (fun k H3 => ∃ ys : List V, Same H2 H3 ∧ H3 D = some (.lst ys) ∧ DpAll K H3 ys ((ctrsOf tw (2 + j) k).map folkD)) ⟨[], same_new nD, upd_same, .nil⟩ (fun _ _ _ _ => trivial) ?_ ?_
      · rintro k x H3 H3' hk ⟨ys, s3, hD, hys⟩ ⟨rfl, rfl⟩
        show gName 3 (.int (0 + (k : Nat))) [some (.ref f), some (.str (kindOf tw)), some (.int (2 + (j : Int))), none] _ _
        rw [show (0 : Int) + (k : Nat) = (k : Nat) by omega]
        walk_at "v"
        refine ⟨rfl, ?_⟩
        walk_at "v"
        refine ⟨szOk 3, fun p np => ?_⟩
        have hk6 : k < 2 + j := by omega
        have hyl : ys.length ≤ 10 := by
          have h1 := hys.len
          unfold ctrsOf at h1
          rw [List.length_map, List.length_map, List.length_range] at h1
          omega
        have hD4 := (same_new (o := .tup [.str (kindOf tw), .int (2 + (j : Int)), .int (k : Nat)]) np) _ _ hD
        have hys4 := (same_new (o := .tup [.str (kindOf tw), .int (2 + (j : Int)), .int (k : Nat)]) np).dpAll _ _ hys
        have hnew : Dp K (upd H3' p (.tup [.str (kindOf tw), .int (2 + (j : Int)), .int (k : Nat)])) (.ref p) (folkD (.ctr tw (2 + j) k)) := folk_of (f := .ctr tw (2 + j) k) sqT_new
        have s4 := s3.trans (same_new (o := .tup [.str (kindOf tw), .int (2 + (j : Int)), .int (k : Nat)]) np)
        generalize upd H3' p (.tup [.str (kindOf tw), .int (2 + (j : Int)), .int (k : Nat)]) = H4 at hD4 hys4 hnew s4
        have mvo : Mv D H4 (upd H4 D (.lst (ys ++ [.ref p]))) := mv_set hD4
        refine ⟨ys, hD4, szLt _ (by omega), ys ++ [.ref p], same_mut s4 nD, upd_same, ?_⟩
        rw [ctrsOf_succ, List.map_append]
        exact (mvo.tp.dpAll _ _ (noLs_folks _) hys4).app (.cons (mvo.tp.dp _ _ (noL_folk _) hnew) .nil)
      · rintro H3 ⟨ys, s3, hD, hys⟩
        rw [show (2 + (j : Int)).toNat = 2 + j by omega] at hys
        have hyl : ys.length ≤ 10 := by
          have h1 := hys.len
          unfold ctrsOf at h1
          rw [List.length_map, List.length_map, List.length_range] at h1
          omega
        have hf3 := s3 _ _ hf
        have hx3 := s3.dpAll _ _ hx
        walk_at "v"
        refine w_cat hf3 hD (szOk _ (by omega)) fun p np => ?_
        walk_at "v"
        refine ⟨p, xs ++ ys, _, rfl, (s2.trans s3).trans (same_new np), (s0.trans (s2.trans s3)).free np, upd_same, ?_⟩
        rw [ctrsTo_succ, ← List.append_assoc, List.map_append]
        exact ((same_new np).dpAll _ _ hx3).app ((same_new np).dpAll _ _ hys)
    · rintro σ H2 ⟨f, xs, y2, rfl, s2, nf, hf, hx⟩
      exact ⟨f, xs, _, _, rfl, s2, nf, hf, hx⟩
  · rintro σ H1 ⟨f, xs, y1, y2, rfl, s1, nf, hf, hx⟩
    walk_at "v"
    exact q f xs H1 (s0.trans s1) nf hf hx
theorem dAll_2 {H : Hp} {vs : List V} {d1 d2 : PyData} (h : DpAll K H vs [d1, d2]) : ∃ x y, vs = [x, y] ∧ Dp K H x d1 ∧ Dp K H y d2 := by
  cases h with
  | cons h1 t => cases t with
    | cons h2 t => cases t; exact ⟨_, _, rfl, h1, h2⟩
theorem sem_is_pair : ∀ vs H Q E, sp_is_pair K vs H Q E → t_is_pair K { nx := fun _ H' => Q .non H', rt := Q } (start ["thing"] vs) H := by
  rintro vs H Q E ⟨x, d, rfl, hd, hf, q⟩
  show t_is_pair K _ [some x] H
  unfold t_is_pair
  walk_at "w"; walk_at "is"; walk_at "w"
  cases d with
  | tuple ds =>
    refine iteT ?_
    obtain ⟨a, xs, rfl, hs, ha⟩ := dp_tup hd
    walk_at "w"
    refine w_ifB (fun e => ?_) (fun e => ?_)
    · have e' : ds.length = 2 := by
        rw [ha.len] at e
        have := bT e
        omega
      match ds, e' with
      | [d1, d2], _ =>
        obtain ⟨x1, x2, rfl, h1, h2⟩ := dAll_2 K ha
        have hf' : (fitD d1 && (fitD d2 && true)) = true := hf
        simp only [Bool.and_eq_true] at hf'
        obtain ⟨f1, f2, _⟩ := hf'
        rw [show isPairD (.tuple [d1, d2]) = (isWordD d1 && isWordD d2) from rfl] at q
        walk_at "w"
        refine ⟨x1, d1, rfl, h1, f1, fun H1 s1 => ?_⟩
        walk_at "w"
        refine w_ifB (fun e => ?_) (fun e => ?_)
        · rw [e] at q
          walk_at "w"
          exact ⟨x2, d2, rfl, s1.dat h2, f2, fun H2 s2 => q H2 (s1.trans s2)⟩
        · rw [e] at q
          exact q H1 s1
    · have e' : ¬ ds.length = 2 := fun h => (bF e) (by rw [ha.len, h]; rfl)
      have : isPairD (.tuple ds) = false := by
        unfold isPairD
        split
        · rename_i h; cases h; exact absurd rfl e'
        · rfl
      rw [this] at q
      exact q H (Same.refl H)
  | _ => exact iteF (q H (Same.refl H))
end
section
variable (K : PySem.W.Frag)
theorem allC_ok : ∀ f ∈ allC, f.ok = true := by decide +kernel
theorem noLs_pairs : ∀ ps : List (List Nat × List Nat), noLs (ps.map pairD) = true
  | [] => rfl
  | p :: ps => by
    show (noL (pairD p) && noLs (ps.map pairD)) = true
    rw [noLs_pairs ps]
    rfl
theorem splice_row {r mid : Row} {i : Nat} (h : ∀ f ∈ r, f.ok = true) (hm : ∀ f ∈ mid, f.ok = true) : ∀ f ∈ (r.take i ++ mid) ++ r.drop (i + 1), f.ok = true := fun f hf => by
  rcases List.mem_append.mp hf with hf | hf
  · rcases List.mem_append.mp hf with hf | hf
    · exact h f (List.mem_of_mem_take hf)
    · exact hm f hf
  · exact h f (List.mem_of_mem_drop hf)
theorem pair_get {H : Hp} {xs : List V} {ps : List (List Nat × List Nat)} {i : Nat} {x : V} (ha : DpAll K H xs (ps.map pairD)) (hx : xs[i]? = some x) : ∃ p, ps[i]? = some p ∧ Dp K H x (pairD p) := by
  obtain ⟨d, hd', dd⟩ := ha.get hx
  rw [List.getElem?_map] at hd'
  cases e : ps[i]? with
  | none => rw [e] at hd'; cases hd'
  | some p => rw [e] at hd'; cases hd'; exact ⟨p, rfl, dd⟩
theorem pair_inv {H : Hp} {x : V} {p : List Nat × List Nat} (h : Dp K H x (pairD p)) : ∃ a, x = .ref a ∧ SqT K H a [.str (tx p.1), .str (tx p.2)] := by
  obtain ⟨a, xs, rfl, hs, ha⟩ := dp_tup h
  obtain ⟨x1, x2, rfl, h1, h2⟩ := dAll_2 K ha
  cases h1
  cases h2
  exact ⟨a, rfl, hs⟩
theorem fit_pair {p : List Nat × List Nat} (h : WordOk p.1 ∧ WordOk p.2) : fitD (pairD p) = true := by
  have h1 := h.1.1
  have h2 := h.2.1
  show (decide ((tx p.1).length ≤ 10000) && (decide ((tx p.2).length ≤ 10000) && true)) = true
  rw [decide_eq_true (show (tx p.1).length ≤ 10000 by rw [tx_len]; omega), decide_eq_true (show (tx p.2).length ≤ 10000 by rw [tx_len]; omega)]
  rfl
theorem isPair_of {p : List Nat × List Nat} (h : WordOk p.1 ∧ WordOk p.2) : isPairD (pairD p) = true := by
  show (isWordD (.str (tx p.1)) && isWordD (.str (tx p.2))) = true
  rw [isWord_of h.1, isWord_of h.2]
  rfl
theorem sem_who_can : ∀ vs H Q E, sp_who_can K vs H Q E → t_who_can K { nx := fun _ H' => Q .non H', rt := Q } (start ["row", "place", "pairs", "found", "one", "other", "pair", "said", "heard"] vs) H := by
  rintro vs H Q E ⟨x, pv, r, i, ps, rfl, hd, hR, hi, hpv, hp1, hp10, hps, q⟩
  show t_who_can K _ [some x, some (.int (i : Nat)), some pv, none, none, none, none, none, none] H
  unfold t_who_can
  have hro := rok_of hR
  have hl := hR.1
  walk_at "v"
  refine ⟨x, rowD r, rfl, hd, fit_row r, isRow_of hR, fun H1 s1 => ?_⟩
  have hd1 := s1.dat hd
  have hpv1 := s1.dat hpv
  walk_at "v"
  refine w_ifS ?_
  walk_at "v"
  refine w_lenR hd1 ?_
  walk_at "v"
  refine ⟨_, 0, (r.length : Int) - 1, .int (i : Nat), rfl, .int _, ?_⟩
  rw [show isWithinD (PyData.int (i : Nat)) 0 ((r.length : Int) - 1) = true from by
    show (decide ((0 : Int) ≤ (i : Nat)) && decide (((i : Nat) : Int) ≤ (r.length : Int) - 1)) = true
    rw [decide_eq_true (by omega), decide_eq_true (by omega)]
    rfl]
  walk_at "v"
  refine iteF ?_
  obtain ⟨pa, xs, rfl, hpx, hpa⟩ := dp_tup hpv1
  have hxl : xs.length = ps.length := by rw [hpa.len, List.length_map]
  walk_at "v"
  refine w_ifNo (Same H1) (fun QT k => ?_) (fun H2 s2 => ?_)
  · walk_at "w"; walk_at "is"; walk_at "w"
    refine iteF ?_
    walk_at "w"
    refine w_dT (by omega) ?_
    walk_at "w"
    rw [bD_t (by omega : ((xs.length : Nat) : Int) ≤ 10)]
    walk_at "w"
    refine iteF ?_
    walk_at "w"
    intro D nD
    refine lc_same (walk_tup (K := K) (a := pa) (xs := xs)) nD [some x, some (.int (i : Nat)), some (.ref pa), none, none, none, none, none, none] rfl (fun k => (List.replicate k true).map V.bl) rfl (fun H3 s => s.sqT hpx) (fun k v H3 H3' hk z yy => ?_) (fun H3 s3 hD => ?_)
    · obtain ⟨rfl, hv⟩ := yy
      obtain ⟨p, hp, dd⟩ := pair_get K hpa hv
      have hpo := hps p (List.mem_of_getElem? hp)
      walk_at "w"
      refine ⟨rfl, ?_⟩
      walk_at "w"
      refine ⟨v, pairD p, rfl, z.1.dat dd, fit_pair hpo, fun H4 s4 => ?_⟩
      rw [isPair_of hpo]
      refine lc_put nD z s4 (szLt _ (by rw [List.length_map, List.length_replicate]; omega)) ?_
      rw [List.replicate_succ', List.map_append]
      rfl
    · walk_at "w"
      refine w_all (List.replicate xs.length true) (sqL_at hD) ?_
      walk_at "w"
      rw [show (List.replicate xs.length true).all id = true from by rw [List.all_eq_true]; intro b hb; exact (List.mem_replicate.mp hb).2]
      exact k _ s3
  have s12 := s1.trans s2
  have hd2 := s2.dat hd1
  have hpx2 := s2.sqT hpx
  have hpa2 := s2.dpAll _ _ hpa
  walk_at "v"
  refine ⟨szOk 0, fun fo nfo => ?_⟩
  walk_at "v"
  have s3 := s12.trans (same_new (o := .lst []) nfo)
  have nfoH := s12.free nfo
  refine ⟨rfl, fun cl cs H4 s4 ncl hcl hcs => ?_⟩
  have s04 := s3.trans s4
  have hfo4 : H4 fo = some (.lst []) := s4 _ _ upd_same
  have necf : cl ≠ fo := fun e => by rw [e, upd_same] at ncl; cases ncl
  have hd4 := s4.dat ((same_new (o := .lst []) nfo).dat hd2)
  have hpx4 := s4.sqT ((same_new (o := .lst []) nfo).sqT hpx2)
  have hpa4 := s4.dpAll _ _ ((same_new (o := .lst []) nfo).dpAll _ _ hpa2)
  have hcsl : cs.length = 40 := by rw [hcs.len, List.length_map]; decide
  walk_at "v"
  refine for_list (xs := cs) (fun j σ H5 => ∃ (y4 y5 : Option V) (fs : List V), σ = [some x, some (.int (i : Nat)), some (.ref pa), some (.ref fo), y4, y5, none, none, none] ∧ Same H H5 ∧ Tp K H4 H5 ∧ H5 cl = some (.lst cs) ∧ H5 fo = some (.lst fs) ∧ DpAll K H5 fs (((allC.take j).filter (canBe r i ps)).map folkD)) ?_ ?_ ?_ ?_
  · exact ⟨none, none, [], rfl, s04, Tp.refl, hcl, hfo4, .nil⟩
  · rintro j σ H5 hj ⟨y4, y5, fs, rfl, s5, t5, h5, _⟩
    exact sqL_at h5
  · rintro j v σ H5 hv ⟨y4, y5, fs, rfl, s5, t5, hcl5, hfo5, hfs5⟩
    obtain ⟨f, hf, dd⟩ := row_get K hcs hv
    have hfok := allC_ok f (List.mem_of_getElem? hf)
    have dd5 := t5.dp _ _ (noL_folk f) dd
    have hd5 := t5.dp _ _ (noL_row r) hd4
    walk_at "v"
    refine w_slR_to hd5 fun v1 H6 s6 hv1 => ?_
    walk_at "v"
    refine ⟨szOk 1, fun p1 n1 => ?_⟩
    have hlt : (r.take i).length = i := by rw [List.length_take]; omega
    refine w_catR (r2 := [f]) ((same_new n1).dat hv1) (.tup sqT_new (.cons ((same_new n1).dat (s6.dat dd5)) .nil)) (by rw [hlt]; show i + 1 ≤ 10000; omega) fun v2 H7 s7 hv2 => ?_
    walk_at "v"
    have s67 := (s6.trans (same_new (o := .tup [v]) n1)).trans s7
    refine w_slR_from (k := i + 1) (s67.dat hd5) fun v3 H8 s8 hv3 => ?_
    refine w_catR (s8.dat hv2) hv3 (by rw [List.length_append, hlt, List.length_drop]; show i + 1 + _ ≤ 10000; omega) fun v4 H9 s9 hv4 => ?_
    have s59 := (s67.trans s8).trans s9
    have hlen : ((r.take i ++ [f]) ++ r.drop (i + 1)).length ≤ 4 := by
      rw [List.length_append, List.length_append, hlt, List.length_drop]
      show i + 1 + _ ≤ 4
      omega
    have hok9 := splice_row (r := r) (mid := [f]) (i := i) hR.2 fun g hg => by rw [List.mem_singleton.mp hg]; exact hfok
    have hcan : canBe r i ps f = ps.all fun p => bD (comes ((r.take i ++ [f]) ++ r.drop (i + 1)) p.1 = p.2) := rfl
    generalize (r.take i ++ [f]) ++ r.drop (i + 1) = o at hv4 hlen hok9 hcan
    have hoo : rok o := fun g hg => fok_of (hok9 g hg)
    have hpx9 := s59.sqT (t5 _ _ hpx4)
    have hpa9 := s59.dpAll _ _ (t5.dpAll _ _ (noLs_pairs ps) hpa4)
    walk_at "v"
    refine w_ifS ?_
    walk_at "v"
    intro D nD
    refine lc_same (walk_tup (K := K) (a := pa) (xs := xs)) nD [some x, some (.int (i : Nat)), some (.ref pa), some (.ref fo), some v, some v4, none, none, none] rfl (fun k => ((ps.take k).map fun p => bD (comes o p.1 = p.2)).map V.bl) rfl (fun H3 s => s.sqT hpx9) (fun k v H3 H3' hk z yy => ?_) (fun H3 s3 hD => ?_)
    · obtain ⟨rfl, hv'⟩ := yy
      obtain ⟨p, hp, dp⟩ := pair_get K hpa9 hv'
      have hpo := hps p (List.mem_of_getElem? hp)
      have hpl := hpo.1.1
      obtain ⟨pt, rfl, hpt⟩ := pair_inv K (z.1.dat dp)
      walk_at "v"
      refine ⟨rfl, ?_⟩
      walk_at "v"
      refine ⟨v4, o, p.1, rfl, z.1.dat hv4, hoo, by omega, by omega, fun H4' s4' => ?_⟩
      walk_at "v"
      rw [bD_congr (⟨tx_inj, congrArg tx⟩ : tx (comes o p.1) = tx p.2 ↔ comes o p.1 = p.2)]
      refine lc_put nD z s4' (szLt _ (by rw [List.length_map, List.length_map, List.length_take]; omega)) ?_
      rw [List.take_add_one, hp, List.map_append, List.map_append]
      rfl
    · rw [hxl, List.take_length] at hD
      walk_at "v"
      refine w_all (ps.map fun p => bD (comes o p.1 = p.2)) (sqL_at hD) ?_
      rw [show (ps.map fun p => bD (comes o p.1 = p.2)).all id = canBe r i ps f from by rw [List.all_map, hcan]; rfl]
      have sx := s5.trans (s59.trans s3)
      have tx' := t5.trans (s59.trans s3).tp
      have hcl3 := (s59.trans s3) _ _ hcl5
      have hfo3 := (s59.trans s3) _ _ hfo5
      have hfs3 := (s59.trans s3).dpAll _ _ hfs5
      have dd3 := (s59.trans s3).dat dd5
      walk_at "v"
      cases hc : canBe r i ps f with
      | true =>
        refine iteT ?_
        walk_at "v"
        have hfl : fs.length ≤ 40 := by
          have h1 := hfs3.len
          rw [List.length_map] at h1
          have h2 := List.length_filter_le (canBe r i ps) (allC.take j)
          have h3 : (allC.take j).length ≤ allC.length := by rw [List.length_take]; exact Nat.min_le_right _ _
          have h4 : allC.length = 40 := by decide
          omega
        refine w_append hfo3 (szLt _ (by omega)) ?_
        walk_at "v"
        have mvo : Mv fo H3 (upd H3 fo (.lst (fs ++ [v]))) := mv_set hfo3
        refine ⟨_, _, fs ++ [v], rfl, same_mut sx nfoH, tx'.trans mvo.tp, by rw [upd_ne necf]; exact hcl3, upd_same, ?_⟩
        rw [List.take_add_one, hf, List.filter_append, show (some f).toList.filter (canBe r i ps) = [f] from by show [f].filter _ = _; rw [List.filter_cons, if_pos hc]; rfl, List.map_append]
        exact (mvo.tp.dpAll _ _ (noLs_folks _) hfs3).app (.cons (mvo.tp.dp _ _ (noL_folk f) dd3) .nil)
      | false =>
        refine iteF ?_
        walk_at "v"
        refine ⟨_, _, fs, rfl, sx, tx', hcl3, hfo3, ?_⟩
        rw [List.take_add_one, hf, List.filter_append, show (some f).toList.filter (canBe r i ps) = [] from by show [f].filter _ = _; rw [List.filter_cons, if_neg (by rw [hc]; decide)]; rfl, List.append_nil]
        exact hfs3
  · rintro σ H5 ⟨y4, y5, fs, rfl, s5, t5, hcl5, hfo5, hfs5⟩
    rw [List.take_of_length_le (show allC.length ≤ cs.length by rw [hcsl]; decide)] at hfs5
    walk_at "v"
    exact q fo fs H5 s5 nfoH hfo5 hfs5
end
end HH

/- sets of tuples of numbers and texts, built from a list of different ones -/
namespace MS
open PySem PySem.Spec PyProof.Rows L2

abbrev hsh (P : Program) (w : World) (kf : Addr → List L2.Key) (b : Addr) : Int := tupleKeyHash (mixKind P w) (kf b)
abbrev ent (P : Program) (w : World) (kf : Addr → List L2.Key) (b : Addr) : Int × Value := (hsh P w kf b, .ref b)
abbrev Mk (P : Program) (w : World) (h : Heap) (k : List L2.Key) (b : Addr) : Prop := IsTupleKey (mixKind P w) h k b

/-- the tuples of U stand in the heap, no two alike -/
structure Kn (P : Program) (w : World) (kf : Addr → List L2.Key) (U : List Addr) (h : Heap) : Prop where
  at_ : ∀ b ∈ U, Mk P w h (kf b) b
  one : ∀ b ∈ U, ∀ c ∈ U, kf b = kf c → b = c

theorem Kn.on {P : Program} {w : World} {kf : Addr → List L2.Key} {U : List Addr} {h h' : Heap} (n : Kn P w kf U h)
    (k : ∀ b o, h.get? b = some o → o.cls = .type "tuple" → h'.get? b = some o) : Kn P w kf U h' :=
  ⟨fun b hb => (by obtain ⟨o, its, q, e, c, r⟩ := n.at_ b hb; exact ⟨o, its, q, k b o e c, c, r⟩), n.one⟩

theorem not_tup {o : Obj} (hx : o.ExactSet) : o.cls ≠ .type "tuple" := by
  rw [hx.1]
  intro e
  injection e with e
  revert e
  decide
theorem Kn.but {P : Program} {w : World} {kf : Addr → List L2.Key} {U : List Addr} {h h' : Heap} {a : Addr} {o : Obj} (n : Kn P w kf U h)
    (ho : h.get? a = some o) (hx : o.ExactSet) (sb : Heap.SameBut a h h') : Kn P w kf U h' := by
  refine n.on fun b u e c => ?_
  by_cases z : b = a
  · subst z
    rw [ho] at e
    cases e
    exact absurd c (not_tup hx)
  · exact (sb.2 b z).trans e

section
variable {P : Program} {w : World} {A : Around} {E : Value → Shared → Prop} {s : Shared}

theorem simple_items {k : List L2.Key} {vs : List Value} (h : ItemsAre (mixKind P w) k vs) : ∀ v ∈ vs, (∃ i t, v = Value.int i t) ∨ (∃ x t, v = Value.str x t) := by
  induction h with
  | nil => exact fun v hv => absurd hv (by simp)
  | cons h1 _ ih =>
    intro u hu
    cases hu with
    | head =>
      rcases keyIs_shape h1 with ⟨i, t, _, e⟩ | ⟨x, t, _, e⟩
      · exact Or.inl ⟨i, t, e⟩
      · exact Or.inr ⟨x, t, e⟩
    | tail _ h2 => exact ih u h2

/-- no item of such a tuple is of a class statement -/
theorem no_class {k : List L2.Key} {b : Addr} {Q : Bool → Shared → Prop} (hk : Mk P w s.heap k b) (h : Q false s) : wpAny (model P w) A (ofAClassStatement 8 (.ref b)) Q E s := by
  have ty := hk.typeIs
  obtain ⟨o, its, n, ho, _, hd, hi⟩ := hk
  have sm := simple_items hi
  unfold ofAClassStatement
  refine wpAny_bind (wpAny_typeOf ty ?_)
  dsimp only
  simp only [show (("tuple" : String) == "tuple") = true from by decide, if_true, Bool.not_true, Bool.false_eq_true, if_false]
  try refine wpAny_bind (wpAny_pure ?_)
  try simp only [Bool.not_true, Bool.false_eq_true, if_false]
  show wpAny _ _ (seqItems? (.ref b) >>= _) _ _ s
  refine wpAny_bind (wpAny_seqItems ho hd ?_)
  dsimp only
  refine wpAny_bind ?_
  show wpAny _ _ (forIn its _ _) _ _ s
  rw [← Array.forIn_toList]
  refine wpAny_forIn_list _ (fun l (r : Option Bool × Unit) z => (r.1 = none ∧ z = s) ∧ ∀ v ∈ l, (∃ i t, v = Value.int i t) ∨ (∃ x t, v = Value.str x t)) _ ?_ ?_ _ _ ⟨⟨rfl, rfl⟩, sm⟩
  · intro v l r z hz
    obtain ⟨⟨hr, rfl⟩, all⟩ := hz
    have e0 : ofAClassStatement 7 v = pure false := by
      rcases all v (List.mem_cons_self ..) with ⟨i, t, rfl⟩ | ⟨x, t, rfl⟩ <;> rfl
    rw [e0]
    refine wpAny_bind (wpAny_pure ?_)
    simp only [Bool.false_eq_true, if_false]
    exact wpAny_pure ⟨⟨rfl, rfl⟩, fun u hu => all u (List.mem_cons_of_mem _ hu)⟩
  · intro r z hz
    obtain ⟨⟨hr, rfl⟩, _⟩ := hz
    obtain ⟨r1, r2⟩ := r
    cases hr
    exact wpAny_pure h

/-- whether such a tuple is hashed by value is told, one way or the other -/
theorem some_hash {k : List L2.Key} {b : Addr} {Q : Bool → Shared → Prop} (hk : Mk P w s.heap k b) (h : ∀ r, Q r s) : wpAny (model P w) A (hashByValue 8 (.ref b)) Q E s := by
  have ty := hk.typeIs
  obtain ⟨o, its, n, ho, _, hd, hi⟩ := hk
  have sm := simple_items hi
  unfold hashByValue
  refine wpAny_bind (wpAny_specialOf ty PySem.F.slot_tuple_hash.lookup ?_)
  show wpAny _ _ (seqItems? (.ref b) >>= _) _ _ s
  refine wpAny_bind (wpAny_seqItems ho hd ?_)
  refine wpAny_bind ?_
  show wpAny _ _ (forIn its _ _) _ _ s
  rw [← Array.forIn_toList]
  refine wpAny_forIn_list _ (fun l (r : Option Bool × Unit) z => (r.1 = none ∧ z = s) ∧ ∀ v ∈ l, (∃ i t, v = Value.int i t) ∨ (∃ x t, v = Value.str x t)) _ ?_ ?_ _ _ ⟨⟨rfl, rfl⟩, sm⟩
  · intro v l r z hz
    obtain ⟨⟨hr, rfl⟩, all⟩ := hz
    have go : ∀ u ∈ l, (∃ i t, u = Value.int i t) ∨ (∃ x t, u = Value.str x t) := fun u hu => all u (List.mem_cons_of_mem _ hu)
    rcases all v (List.mem_cons_self ..) with ⟨i, t, rfl⟩ | ⟨x, t, rfl⟩
    · rw [show hashByValue 7 (Value.int i t) = pure true from rfl]
      refine wpAny_bind (wpAny_pure ?_)
      simp only [Bool.not_true, Bool.false_eq_true, if_false]
      exact wpAny_pure ⟨⟨rfl, rfl⟩, go⟩
    · rw [show hashByValue 7 (Value.str x t) = pure false from rfl]
      refine wpAny_bind (wpAny_pure ?_)
      simp only [Bool.not_false, if_true]
      exact wpAny_pure (wpAny_pure (h _))
  · intro r z hz
    obtain ⟨⟨hr, rfl⟩, _⟩ := hz
    obtain ⟨r1, r2⟩ := r
    cases hr
    exact wpAny_pure (h _)

/-- a search among such tuples shows nothing -/
theorem quiet_search {k : List L2.Key} {b : Addr} {Q : Bool → Shared → Prop} (hk : Mk P w s.heap k b) {ys : List Value} (hy : ∀ y ∈ ys, ∃ c kc, y = Value.ref c ∧ Mk P w s.heap kc c) (h : Q false s) :
    wpAny (model P w) A (searchCouldBeSeen (.ref b) ys) Q E s := by
  unfold searchCouldBeSeen
  refine wpAny_bind ?_
  refine wpAny_forIn_list _ (fun l (r : Option Bool × Unit) z => (r.1 = none ∧ z = s) ∧ ∀ y ∈ l, ∃ c kc, y = Value.ref c ∧ Mk P w s.heap kc c) _ ?_ ?_ _ _ ⟨⟨rfl, rfl⟩, hy⟩
  · intro v l r z hz
    obtain ⟨⟨hr, rfl⟩, all⟩ := hz
    obtain ⟨c, kc, rfl, hc⟩ := all v (List.mem_cons_self ..)
    have nx : ∀ y ∈ l, ∃ c kc, y = Value.ref c ∧ Mk P w z.heap kc c := fun u hu => all u (List.mem_cons_of_mem _ hu)
    dsimp only
    by_cases very : (b == c || (carriedByValue (.ref b) && carriedByValue (.ref c))) = true
    · exact wp_if_pos very (wpAny_pure ⟨⟨rfl, rfl⟩, nx⟩)
    · refine wp_if_neg very (wpAny_bind (wpAny_eqIsQuiet_tuple hk ?_))
      simp only [Bool.not_true, Bool.false_eq_true, if_false]
      refine wpAny_bind (wpAny_eqIsQuiet_tuple hc ?_)
      simp only [Bool.not_true, Bool.false_eq_true, if_false]
      refine wpAny_bind (no_class hk ?_)
      simp only [Bool.false_eq_true, if_false]
      refine wpAny_bind (no_class hc ?_)
      simp only [Bool.false_eq_true, if_false]
      exact wpAny_pure ⟨⟨rfl, rfl⟩, nx⟩
  · intro r z hz
    obtain ⟨⟨hr, rfl⟩, _⟩ := hz
    obtain ⟨r1, r2⟩ := r
    cases hr
    exact wpAny_pure h
end

/-- the set at a holds the tuples vs, in the order of its slots -/
structure Tb (P : Program) (w : World) (kf : Addr → List L2.Key) (h : Heap) (a : Addr) (vs : List Addr) (es : Array (Int × Value)) (ep : Nat) (t : SetTable) : Prop where
  ob : ∃ o, h.get? a = some o ∧ o.ExactSet ∧ o.data = .set es ep t
  rows : es.toList = vs.map (ent P w kf)
  tab : TabOk t (vs.map (hsh P w kf))
  nd : vs.Nodup
  led : w.params.followText "set-order" = true ∨ t.led = true
  room : vs.length * 5 < t.mask * 3
  few : vs.length < 64

section
variable {P : Program} {w : World} {A : Around} {E : Value → Shared → Prop} {s : Shared} {kf : Addr → List L2.Key} {U vs : List Addr} {a : Addr} {es : Array (Int × Value)} {ep : Nat} {t : SetTable}

theorem len_of {l : List Addr} (h : es.toList = l.map (ent P w kf)) : es.size = l.length := by
  rw [← Array.length_toList, h, List.length_map]
theorem Tb.fit (T : Tb P w kf s.heap a vs es ep t) : t.fits es.size = true := by
  have z1 := T.tab.sz
  have z2 := T.room
  rw [List.length_map, ← len_of T.rows] at z1
  rw [← len_of T.rows] at z2
  have d : t.dummies.size = 0 := by rw [T.tab.dm] <;> rfl
  unfold SetTable.fits SetTable.fill
  rw [Bool.and_eq_true, beq_iff_eq, decide_eq_true_eq]
  constructor <;> omega
theorem Tb.get (T : Tb P w kf s.heap a vs es ep t) {i : Nat} {y : Addr} (h : vs[i]? = some y) : es[i]? = some (ent P w kf y) := by
  rw [← Array.getElem?_toList, T.rows, List.getElem?_map, h]
  rfl

/-- the search for a tuple that is not there ends at the first empty slot of its way -/
theorem srch (T : Tb P w kf s.heap a vs es ep t) (n : Kn P w kf U s.heap) (sub : ∀ b ∈ vs, b ∈ U) {x : Addr} (hx : x ∈ U) (new : x ∉ vs) (hu : A.units < cLine) {K : Nat} (kb : K < 10 * SetTable.turns t.mask)
    (free : way t.mask (hsh P w kf x) K ∉ t.place.toList) (full : ∀ c, c < K → way t.mask (hsh P w kf x) c ∈ t.place.toList) {Q : SetFound → Shared → Prop} (hQ : Q (.free (way t.mask (hsh P w kf x) K) false) s) :
    ∀ (f c : Nat) (st : Option SetTable.Probe), st.getD (t.probeStart (hsh P w kf x)) = nth t.mask (runAt t.mask (SetTable.bits (hsh P w kf x) % (t.mask + 1)) (SetTable.bits (hsh P w kf x))) c → c ≤ K → K < f + c →
      wpAny (model P w) A (setSearchFrom a (.ref x) (hsh P w kf x) true f st) Q E s := by
  intro f
  induction f with
  | zero =>
    intro c st _ h1 h2
    omega
  | succ f ih =>
    intro c st hst hc hf
    obtain ⟨o, ho, hex, hd⟩ := T.ob
    generalize hH : hsh P w kf x = H at *
    have odd : ¬ t.gaveWay = true := by
      unfold SetTable.gaveWay
      rw [mask_odd T.tab.mok]
      decide
    rw [setSearchFrom_succ]
    refine wpAny_bind (wpAny_setState_of ho hd T.fit ?_)
    dsimp only
    refine wp_if_neg odd ?_
    try refine wpAny_bind (wpAny_pure ?_)
    obtain ⟨p, hp⟩ : ∃ p, nth t.mask (runAt t.mask (SetTable.bits H % (t.mask + 1)) (SetTable.bits H)) c = p := ⟨_, rfl⟩
    rw [hp] at hst
    have far : ∀ q, nth t.mask p q = nth t.mask (runAt t.mask (SetTable.bits H % (t.mask + 1)) (SetTable.bits H)) (c + q) := fun q => by rw [nth_add, hp]
    have farJ : ∀ q, (nth t.mask p q).j = way t.mask H (c + q) := fun q => by rw [far q]
    have pd : p.dummy = none := by
      rw [← hp]
      have all : ∀ (k : Nat) (q : SetTable.Probe), q.dummy = none → (nth t.mask q k).dummy = none := fun k => by
        induction k with
        | zero => exact fun q z => z
        | succ k ihk =>
          intro q z
          refine ihk (adv t.mask q) ?_
          unfold adv
          split
          · exact z
          · exact z
      exact all c _ rfl
    obtain ⟨d, hKd⟩ : ∃ d, K = c + d := ⟨K - c, by omega⟩
    subst hKd
    have spec := go_spec t T.tab.ris T.tab.dm (fun i => (es[i]?.map (·.1)).getD 0) H (10 * SetTable.turns t.mask) d p pd (by omega) (fun k hk => (farJ k).symm ▸ full (c + k) (by omega)) ((farJ d).symm ▸ free)
    rcases spec with ⟨q, i, hq, hi, hh, _, hpr⟩ | ⟨_, hpr⟩
    · have hpr2 : t.probe (fun i => (es[i]?.map (·.1)).getD 0) H (st.getD (t.probeStart H)) = some (.candidate (way t.mask H (c + q)) i (nth t.mask (runAt t.mask (SetTable.bits H % (t.mask + 1)) (SetTable.bits H)) (c + (q + 1)))) := by
        rw [hst, ← farJ, ← far]
        exact hpr
      rw [hpr2]
      dsimp only
      rw [farJ] at hi
      obtain ⟨y, hy⟩ : ∃ y, vs[i]? = some y := by
        have l1 := (List.getElem?_eq_some_iff.mp hi).1
        have l2 := T.tab.sz
        rw [List.length_map] at l2
        rw [Array.length_toList, l2] at l1
        exact ⟨_, List.getElem?_eq_getElem l1⟩
      have my : y ∈ vs := List.mem_of_getElem? hy
      have ne : decide (kf y = kf x) = false := decide_eq_false fun e => new (n.one y (sub y my) x hx e ▸ my)
      have next : wpAny (model P w) A (searchRest a (.ref x) H true f es t (way t.mask H (c + q)) i (nth t.mask (runAt t.mask (SetTable.bits H % (t.mask + 1)) (SetTable.bits H)) (c + (q + 1)))) Q E s := by
        unfold searchRest
        rw [T.get hy]
        dsimp only
        refine wpAny_bind (wpAny_holding (wpAny_eqBool_tuple hu (n.at_ y (sub y my)) (n.at_ x hx) ?_))
        rw [ne]
        refine wpAny_bind (wpAny_setState_of ho hd T.fit ?_)
        dsimp only
        refine wp_if_neg (by simp) ?_
        try refine wpAny_bind (wpAny_pure ?_)
        rw [sameMem]
        dsimp only
        simp only [if_true, slot_live T.tab.ris hi, T.get hy]
        refine wpAny_bind (wpAny_isSame_ref_self (wpAny_bind (wpAny_pure ?_)))
        simp only [if_true]
        refine wp_if_neg (by simp) ?_
        exact ih (c + (q + 1)) _ rfl (by omega) (by omega)
      by_cases led : t.led = true
      · refine wp_if_neg (by rw [led]; decide) ?_
        try refine wpAny_bind (wpAny_pure ?_)
        exact next
      · refine wp_if_pos (by simpa using led) ?_
        refine wpAny_bind (quiet_search (n.at_ x hx) (fun v hv => ?_) ?_)
        · obtain ⟨e, he, rfl⟩ := List.mem_map.mp hv
          have he2 : e ∈ es.toList := by
            have := (show e ∈ es ∧ e.1 = H by simpa using he).1
            simpa using this
          rw [T.rows] at he2
          obtain ⟨c2, hc2, rfl⟩ := List.mem_map.mp he2
          exact ⟨c2, kf c2, rfl, n.at_ c2 (sub c2 hc2)⟩
        · refine wp_if_neg (by decide) ?_
          try refine wpAny_bind (wpAny_pure ?_)
          exact next
    · have hpr2 : t.probe (fun i => (es[i]?.map (·.1)).getD 0) H (st.getD (t.probeStart H)) = some (.empty (way t.mask H (c + d)) none) := by
        rw [hst, ← farJ]
        exact hpr
      rw [hpr2]
      dsimp only
      exact wpAny_pure hQ

theorem range_get {α : Type} : ∀ l : List α, (List.range l.length).filterMap (fun i => l[i]?) = l
  | [] => rfl
  | x :: l => by
    have z : (x :: l)[0]? = some x := rfl
    rw [List.length_cons, List.range_succ_eq_map, List.filterMap_cons, z, List.filterMap_map]
    exact congrArg (x :: ·) (range_get l)
theorem pick_all {α β γ : Type} (f : α → β) (g : α → γ) (d : γ) (vs : List α) (es : Array β) (hs : Array γ) (h1 : es.toList = vs.map f) (h2 : hs.toList = vs.map g) : ∀ o : List Nat, (∀ i ∈ o, i < vs.length) →
    o.filterMap (fun i => es[i]?) = (o.filterMap fun i => vs[i]?).map f ∧ o.map (fun i => hs.getD i d) = (o.filterMap fun i => vs[i]?).map g
  | [], _ => ⟨rfl, rfl⟩
  | i :: o, h => by
    obtain ⟨e1, e2⟩ := pick_all f g d vs es hs h1 h2 o fun j hj => h j (List.mem_cons_of_mem _ hj)
    have hv : vs[i]? = some (vs[i]'(h i (List.mem_cons_self ..))) := List.getElem?_eq_getElem _
    have he : es[i]? = some (f (vs[i]'(h i (List.mem_cons_self ..)))) := by rw [← Array.getElem?_toList, h1, List.getElem?_map, hv]; rfl
    have hg : hs[i]? = some (g (vs[i]'(h i (List.mem_cons_self ..)))) := by rw [← Array.getElem?_toList, h2, List.getElem?_map, hv]; rfl
    rw [List.filterMap_cons_some he, List.filterMap_cons_some hv, List.map_cons, List.map_cons, List.map_cons, e1, e2, Array.getD_eq_getD_getElem?, hg]
    exact ⟨rfl, rfl⟩

/-- the table laid anew -/
theorem relay1 {o : Obj} (ho : s.heap.get? a = some o) (hex : o.ExactSet) (hd : o.data = .set es ep t) (rows : es.toList = vs.map (ent P w kf)) (hsz : t.place.size = es.size) (hdm : t.dummies = #[]) (hfl : es.size ≤ t.mask)
    (nd : vs.Nodup) (led : w.params.followText "set-order" = true ∨ t.led = true) (few : vs.length < 64) {wanted M : Nat} (hw : SetTable.sizeAbove wanted - 1 = M) (hM : MaskOk M) (h128 : SetTable.sizeAbove wanted ≤ 128)
    (hn : vs.length * 5 < M * 3) {Q : Unit → Shared → Prop}
    (hQ : ∀ h' vs' es' ep' t', Heap.SameBut a s.heap h' → Tb P w kf h' a vs' es' ep' t' → vs'.Perm vs → Q () { s with heap := h' }) : wpAny (model P w) A (setRelay a wanted) Q E s := by
  have el := len_of rows
  have fit : t.fits es.size = true := by
    have d : t.dummies.size = 0 := by rw [hdm] <;> rfl
    unfold SetTable.fits SetTable.fill
    rw [Bool.and_eq_true, beq_iff_eq, decide_eq_true_eq]
    constructor <;> omega
  obtain ⟨t', order, e, op, TT, em, eled, _, _⟩ := relaid_ok t (hs := es.map (·.1)) (wanted := wanted) hw hM (by rw [Array.size_map, el]; omega)
  rw [Array.size_map, el] at op
  have hh : (es.map (·.1)).toList = vs.map (hsh P w kf) := by rw [Array.toList_map, rows, List.map_map]; rfl
  obtain ⟨p1, p2⟩ := pick_all (ent P w kf) (hsh P w kf) 0 vs es (es.map (·.1)) rows hh order.toList fun i hi => List.mem_range.mp (op.mem_iff.mp hi)
  have pv : (order.toList.filterMap fun i => vs[i]?).Perm vs := by
    have z := op.filterMap fun i => vs[i]?
    rw [range_get] at z
    exact z
  rw [p2] at TT
  have rows' : (order.filterMap (es[·]?)).toList = (order.toList.filterMap fun i => vs[i]?).map (ent P w kf) := by
    rw [← p1]
    simp
  generalize (order.toList.filterMap fun i => vs[i]?) = vs2 at pv TT rows'
  have sz2 : (order.filterMap (es[·]?)).size = es.size := by rw [len_of rows', el, pv.length_eq]
  rw [setRelay_eq]
  refine wpAny_bind (wpAny_setState_of ho hd fit ?_)
  dsimp only
  refine wp_if_neg (by rw [sizeLine_eq]; omega) ?_
  try refine wpAny_bind (wpAny_pure ?_)
  rw [e]
  dsimp only
  refine wpAny_bind ?_
  refine wp_if_neg (by rw [sz2]; simp) ?_
  try refine wpAny_bind (wpAny_pure ?_)
  refine wpAny_pure ?_
  dsimp only
  refine wpAny_storeSet_of ho hd ?_ (by rw [sz2, el, sizeLine_eq]; omega)
  refine hQ _ vs2 (order.filterMap (es[·]?)) (ep + 1) t' (Heap.SameBut.update ..) ⟨⟨_, store_at ho hd, ⟨hex.1, hex.2.1, hex.2.2⟩, rfl⟩, rows', TT, pv.nodup_iff.mpr nd, ?_, ?_, ?_⟩ pv
  · rw [eled]
    exact led
  · rw [pv.length_eq, em]
    exact hn
  · rw [pv.length_eq]
    exact few

/-- one more tuple put in -/
theorem put1 (T : Tb P w kf s.heap a vs es ep t) (n : Kn P w kf U s.heap) (sub : ∀ b ∈ vs, b ∈ U) {x : Addr} (hx : x ∈ U) (new : x ∉ vs) (hu : A.units < cLine) (few : vs.length + 1 < 64) {Q : Bool → Shared → Prop}
    (hQ : ∀ b h' vs' es' ep' t', Heap.SameBut a s.heap h' → Tb P w kf h' a vs' es' ep' t' → vs'.Perm (x :: vs) → Q b { s with heap := h' }) :
    wpAny (model P w) A (setAddHashed a (.ref x) (hsh P w kf x)) Q E s := by
  obtain ⟨o, ho, hex, hd⟩ := T.ob
  have el := len_of T.rows
  have room := T.room
  obtain ⟨K, kb, free, full⟩ := T.tab.first (by rw [List.length_map]; omega) (hsh P w kf x)
  have small : K < 100000 := by
    have z : 10 * SetTable.turns t.mask ≤ 1420 := by
      unfold SetTable.turns
      rcases T.tab.mok with e | e | e <;> omega
    omega
  unfold setAddHashed
  refine wpAny_holding ?_
  rw [show (100000 : Nat) = 99999 + 1 from rfl, setAddHashedIn_succ]
  refine wpAny_bind (wpAny_setState_of ho hd T.fit ?_)
  dsimp only
  refine wp_if_neg (by simp [byScan, Value.scannable]) ?_
  try refine wpAny_bind (wpAny_pure ?_)
  refine wpAny_bind (srch T n sub hx new hu kb free full ?_ 100000 0 none rfl (Nat.zero_le _) (by omega))
  dsimp only
  refine wpAny_bind (wpAny_setState_of ho hd T.fit ?_)
  dsimp only
  obtain ⟨q1, q2, q3, q4, q5, _, _, _, q9⟩ := T.tab.put free full
  generalize hpt : t.put (way t.mask (hsh P w kf x) K) = pt at q1 q3 q4 q5 q9 ⊢
  obtain ⟨t1, p⟩ := pt
  dsimp only at q1 q3 q4 q5 q9 ⊢
  subst q1
  have ins : (SetTable.insertAt es (SetTable.below t.place (way t.mask (hsh P w kf x) K)) (hsh P w kf x, Value.ref x)).toList =
      (vs.take (SetTable.below t.place (way t.mask (hsh P w kf x) K)) ++ x :: vs.drop (SetTable.below t.place (way t.mask (hsh P w kf x) K))).map (ent P w kf) := by
    rw [SetTable.toList_insertAt, T.rows, List.map_append, List.map_cons, List.map_take, List.map_drop]
  generalize SetTable.below t.place (way t.mask (hsh P w kf x) K) = p at q2 q3 ins ⊢
  rw [← List.map_take, ← List.map_drop, ← List.map_cons, ← List.map_append] at q3
  have pm := put_perm vs p x
  generalize vs.take p ++ x :: vs.drop p = vs1 at pm q3 ins
  generalize SetTable.insertAt es p (hsh P w kf x, Value.ref x) = es1 at ins ⊢
  have l1 : vs1.length = vs.length + 1 := by rw [pm.length_eq, List.length_cons]
  have el1 : es1.size = vs.length + 1 := by rw [len_of ins, l1]
  have nd1 : vs1.Nodup := pm.nodup_iff.mpr (List.nodup_cons.mpr ⟨new, T.nd⟩)
  rw [List.length_map] at q9
  -- behind the question whether it is hashed by value
  have go : ∀ pl : Bool, wpAny (model P w) A (do
      storeSet a es1 { t1 with plain := pl }
      if !false && ({ t1 with plain := pl } : SetTable).tooFull then setRelay a (SetTable.grown (es.size + 1))
      return true) Q E s := fun pl => by
    have T2 : TabOk { t1 with plain := pl } (vs1.map (hsh P w kf)) := ⟨q3.ris, q3.dm, q3.sz, q3.mok, q3.bd, q3.reach⟩
    have em : ({ t1 with plain := pl } : SetTable).mask = t.mask := q4
    have eled : ({ t1 with plain := pl } : SetTable).led = t.led := q5
    have efill : ({ t1 with plain := pl } : SetTable).fill = vs.length + 1 := q9
    generalize ({ t1 with plain := pl } : SetTable) = t2 at T2 em eled efill ⊢
    refine wpAny_bind (wpAny_storeSet_of ho hd ?_ (by rw [el1, sizeLine_eq]; omega))
    have sb : Heap.SameBut a s.heap (s.heap.update a (Obj.putSet es1 t2)) := Heap.SameBut.update ..
    have ho1 := store_at (es' := es1) (t' := t2) ho hd
    generalize s.heap.update a (Obj.putSet es1 t2) = h1 at sb ho1 ⊢
    have led2 : w.params.followText "set-order" = true ∨ t2.led = true := by rw [eled]; exact T.led
    have s2 : t2.place.size = es1.size := by
      rw [T2.sz, List.length_map, l1, el1]
    by_cases c : t2.tooFull = true
    · have much : (vs.length + 1) * 5 ≥ t.mask * 3 := by
        have z := c
        unfold SetTable.tooFull at z
        rw [decide_eq_true_eq, efill, em] at z
        exact z
      have two : (t.mask = 7 ∧ vs.length = 4) ∨ (t.mask = 31 ∧ vs.length = 18) := by
        rcases T.tab.mok with e | e | e <;> rw [e] at much room
        · exact Or.inl ⟨e, by omega⟩
        · exact Or.inr ⟨e, by omega⟩
        · omega
      have lay : ∀ M, SetTable.sizeAbove (SetTable.grown (vs.length + 1)) - 1 = M → MaskOk M → SetTable.sizeAbove (SetTable.grown (vs.length + 1)) ≤ 128 → (vs.length + 1) * 5 < M * 3 →
          wpAny (model P w) A (setRelay a (SetTable.grown (vs.length + 1))) (fun _ z => wpAny (model P w) A (pure true) Q E z) E { s with heap := h1 } := fun M m1 m2 m3 m4 => by
        refine relay1 (s := { s with heap := h1 }) (kf := kf) (vs := vs1) ho1 ⟨hex.1, hex.2.1, hex.2.2⟩ rfl ins s2 T2.dm (by rw [el1, em]; rcases two with ⟨e, e2⟩ | ⟨e, e2⟩ <;> omega) nd1 led2 (by rw [l1]; exact few) m1 m2 m3 (by rw [l1]; exact m4) ?_
        intro h2 vs3 es3 ep3 t3 sb3 T3 pm3
        exact wpAny_pure (hQ true h2 vs3 es3 ep3 t3 (sb.trans sb3) T3 (pm3.trans pm))
      rw [el]
      first
        | (refine wp_if_pos (by rw [c]; rfl) ?_; refine wpAny_bind ?_)
        | (refine wpAny_bind ?_; refine wp_if_pos (by rw [c]; rfl) ?_)
      rcases two with ⟨_, e2⟩ | ⟨_, e2⟩
      · exact lay 31 (by rw [e2, size_20]) (.inr (.inl rfl)) (by rw [e2, size_20]; decide) (by omega)
      · exact lay 127 (by rw [e2, size_76]) (.inr (.inr rfl)) (by rw [e2, size_76]; decide) (by omega)
    · first
        | refine wp_if_neg (by simpa using c) ?_
        | (refine wpAny_bind ?_; refine wp_if_neg (by simpa using c) ?_; refine wpAny_pure ?_)
      refine wpAny_pure (hQ true h1 vs1 es1 (ep + 1) t2 sb ⟨⟨_, ho1, ⟨hex.1, hex.2.1, hex.2.2⟩, rfl⟩, ins, T2, nd1, led2, ?_, by rw [l1]; exact few⟩ pm)
      have z := c
      unfold SetTable.tooFull at z
      rw [decide_eq_true_eq, efill] at z
      rw [l1]
      omega
  by_cases c : t1.plain = true
  · have fin : ∀ r, wpAny (model P w) A (do
        storeSet a es1 (if r = true then t1 else { t1 with plain := false })
        if !false && (if r = true then t1 else { t1 with plain := false } : SetTable).tooFull then setRelay a (SetTable.grown (es.size + 1))
        return true) Q E s := fun r => by
      cases r with
      | true => exact go t1.plain
      | false => exact go false
    first
      | (refine wpAny_bind ?_; refine wp_if_pos c ?_; exact some_hash (n.at_ x hx) fin)
      | exact wp_if_pos c (wpAny_bind (some_hash (n.at_ x hx) fin))
  · first
      | (refine wpAny_bind ?_; refine wp_if_neg c ?_; exact wpAny_pure (go t1.plain))
      | exact wp_if_neg c (wpAny_bind (wpAny_pure (go t1.plain)))
end
end MS

namespace MS
open PySem PySem.Spec PyProof.Rows L2

section
variable {P : Program} {w : World} {A : Around} {E : Value → Shared → Prop} {s : Shared} {kf : Addr → List L2.Key} {U vs ks : List Addr} {a : Addr} {es : Array (Int × Value)} {ep : Nat} {t : SetTable}

theorem Tb.on {h h' : Heap} (T : Tb P w kf h a vs es ep t) (k : ∀ o, h.get? a = some o → h'.get? a = some o) : Tb P w kf h' a vs es ep t := by
  obtain ⟨o, ho, r⟩ := T.ob
  exact ⟨⟨o, k o ho, r⟩, T.rows, T.tab, T.nd, T.led, T.room, T.few⟩

/-- an empty set -/
abbrev blank (w : World) : Obj := { cls := .type "set", dict := none, data := .set #[] 0 (.fresh 0 0 (!w.params.followText "set-order")) }
theorem Tb.blank {h : Heap} (ho : h.get? a = some (blank w)) : Tb P w kf h a [] #[] 0 (.fresh 0 0 (!w.params.followText "set-order")) := by
  refine ⟨⟨_, ho, ⟨rfl, rfl, rfl⟩, rfl⟩, rfl, ⟨List.Pairwise.nil, rfl, rfl, Or.inl rfl, fun x hx => absurd hx (by simp [SetTable.fresh]), fun i h j hi => absurd hi (by simp)⟩, List.nodup_nil, ?_, ?_, ?_⟩
  · cases c : w.params.followText "set-order" with
    | true => exact Or.inl rfl
    | false => exact Or.inr rfl
  · show 0 * 5 < 7 * 3
    decide
  · show 0 < 64
    decide

/-- the set takes up what an iterator gives -/
theorem upd_loop {I : Addr} {fp wr : List Addr} {G : Array GenState → Array GenState → Prop} {n : Nat} {Pv : Nat → Value → Prop} {St : Nat → Shared → Prop} {R : Result → Shared → Prop}
    (W : WalksS P w A.in1 I fp wr G n Pv St) (S : Addr) (hSf : S ∉ fp) (hn : n = ks.length) (nd : ks.Nodup) (few : ks.length < 64) (hval : ∀ i v, Pv i v → ∃ b, ks[i]? = some b ∧ v = .ref b)
    (h0 : Heap) (kn : Kn P w kf ks h0) (hS0 : h0.get? S = none) (hw0 : ∀ b ∈ wr, h0.get? b = none) (hu : A.in1.units < cLine) :
    ∀ (k i : Nat) (s : Shared), n - i = k → i ≤ n → St i s → (∀ b o, h0.get? b = some o → s.heap.get? b = some o) → (∃ vs es ep t, Tb P w kf s.heap S vs es ep t ∧ vs.Perm (ks.take i)) →
      (∀ s' vs es ep t, Moved (S :: wr) G s s' → Tb P w kf s'.heap S vs es ep t → vs.Perm ks → (∀ b o, h0.get? b = some o → s'.heap.get? b = some o) → R (.ok (.ret .none)) s') →
      codeAny (model P w) A (.builtin "set.update.loop" ⟨[.ref S, .ref I], []⟩) R s := by
  have nw : S ∉ wr := fun h => hSf (W.sub _ h)
  have up : ∀ b ∈ wr, b ∈ S :: wr := fun b hb => List.mem_cons_of_mem _ hb
  have old : ∀ {s s' : Shared}, Moved wr G s s' → (∀ b o, h0.get? b = some o → s.heap.get? b = some o) → ∀ b o, h0.get? b = some o → s'.heap.get? b = some o := fun hm k0 b o e =>
    hm.heap b o (fun hb => by rw [hw0 b hb] at e; cases e) (k0 b o e)
  intro k
  induction k with
  | zero =>
    intro i s e0 hi hst k0 hex hR
    obtain ⟨vs, es, ep, t, T, pm⟩ := hex
    obtain rfl : i = n := by omega
    refine codeAny_builtin PyProof.Rows.F.entry_set_update_loop ?_
    rw [Around.under_plainId PyProof.Rows.F.plain_set_update_loop _]
    show wpAny _ A.in1 (pyNext (.ref I) >>= _) _ _ s
    refine wpAny_bind (W.done s _ _ hst fun s' hm => ?_)
    show wpAny _ A.in1 (ret Value.none) _ _ s'
    rw [hn, List.take_length] at pm
    exact wpAny_pure (hR s' vs es ep t (hm.mono up) (T.on fun o e => hm.heap S o nw e) pm (old hm k0))
  | succ k ih =>
    intro i s e0 hi hst k0 hex hR
    obtain ⟨vs, es, ep, t, T, pm⟩ := hex
    have lt : i < n := by omega
    refine codeAny_builtin PyProof.Rows.F.entry_set_update_loop ?_
    rw [Around.under_plainId PyProof.Rows.F.plain_set_update_loop _]
    show wpAny _ A.in1 (pyNext (.ref I) >>= _) _ _ s
    refine wpAny_bind (W.item i s _ _ lt hst fun v s' hP hst' hm => ?_)
    obtain ⟨b, hb, rfl⟩ := hval i v hP
    have k1 := old hm k0
    have T1 : Tb P w kf s'.heap S vs es ep t := T.on fun o e => hm.heap S o nw e
    have kn1 : Kn P w kf ks s'.heap := kn.on fun b o e _ => k1 b o e
    have mb : b ∈ ks := List.mem_of_getElem? hb
    have tk : ks.take (i + 1) = ks.take i ++ [b] := by rw [List.take_succ, hb]; rfl
    have new : b ∉ vs := fun z => by
      have nd2 : (ks.take (i + 1)).Nodup := nd.sublist (List.take_sublist _ _)
      rw [tk, List.nodup_append] at nd2
      exact nd2.2.2 b (pm.mem_iff.mp z) b (List.mem_singleton.mpr rfl) rfl
    have lv : vs.length = i := by
      rw [pm.length_eq, List.length_take]
      omega
    show wpAny _ A.in1 (holding [Value.ref b] (setAdd S (.ref b)) >>= _) _ _ s'
    refine wpAny_bind (wpAny_holding ?_)
    unfold setAdd
    refine wpAny_holding (wpAny_bind (wpAny_pyHash_tuple hu (kn1.at_ b mb) ?_))
    refine put1 (s := { s' with toks := s'.toks + ((kf b).length + 1) }) T1 kn1 (fun c hc => List.mem_of_mem_take (pm.mem_iff.mp hc)) mb new hu (by omega) ?_
    intro r h' vs' es' ep' t' sb T2 pm2
    have pm3 : vs'.Perm (ks.take (i + 1)) := by
      rw [tk]
      exact (pm2.trans (pm.cons b)).trans (List.perm_append_singleton b _).symm
    have k2 : ∀ c o, h0.get? c = some o → h'.get? c = some o := fun c o e => (sb.2 c (fun z => by rw [z, hS0] at e; cases e)).trans (k1 c o e)
    refine wpAny_pure ⟨plainId_quiet PyProof.Rows.F.plain_set_update_loop _, ih (i + 1) _ (by omega) lt (W.frame _ s' _ _ hst' (Nat.le_add_right _ _) fun c hc o e => ?_) k2 ⟨vs', es', ep', t', T2, pm3⟩ ?_⟩
    · exact (sb.2 c (fun z : c = S => hSf (z ▸ hc))).trans e
    · intro s3 vs3 es3 ep3 t3 hm3 T3 pm4 k3
      refine hR s3 vs3 es3 ep3 t3 (Moved.trans W.gtrans ((hm.mono up).then_heap (Nat.le_add_right _ _) fun c o hc e => ?_) hm3) T3 pm4 k3
      exact (sb.2 c (fun z : c = S => hc (z ▸ List.mem_cons_self))).trans e

set_option maxHeartbeats 8000000 in
/-- set(xs), xs a list of different tuples -/
theorem set_of {l : Addr} {items : Array Value} {Q : Value → Shared → Prop} (hh : A.handled = none) (hl : s.heap.IsList l items) (hit : items.toList = ks.map Value.ref)
    (kn : Kn P w kf ks s.heap) (nd : ks.Nodup) (few : ks.length < 64) (hu : A.units + 3 < cLine)
    (h : ∀ (h' : Heap) (tk : Nat) vs es ep t, Tb P w kf h' s.heap.objs.size vs es ep t → vs.Perm ks → (∀ b o, s.heap.get? b = some o → h'.get? b = some o) → Q (.ref s.heap.objs.size) { s with heap := h', toks := tk }) :
    wpAny (model P w) A (call (.type "set") [.ref l]) Q E s := by
  have isz : items.size = ks.length := by rw [← Array.length_toList, hit, List.length_map]
  obtain ⟨c, tl, hmro⟩ := PySem.F.called_set.mro
  have m1 := PySem.F.called_set.made
  have m2 := PySem.F.called_set.sub
  refine wpAny_call (codeAny_of_tree ?_)
  show wpAny _ _ (callAny (.type "set") _) _ _ _
  refine wpAny_pure ⟨Code.quiet_builtin _ (by decide +kernel), codeAny_builtin PySem.F.entry_type_call ?_⟩
  rw [Around.under_plain (weight_type_call_type "set" [.ref l] []) rfl]
  have m3 := PySem.F.called_set.notType
  have m4 := PySem.F.called_set.canCreate
  have m5 := PySem.F.typeCall_set_1 (.ref l)
  repeat (any_goals (first | assumption | wp_step))
  refine codeAny_mono (code_set_led1 (.ref l) (E := E) (Q₁ := fun obj s₁ => obj = .ref s.heap.objs.size ∧ s₁ = { s with heap := s.heap.push (blank w) }) ⟨rfl, rfl⟩) fun r s₁ hr => ?_
  cases r with
  | error e => exact hr
  | ok fl =>
    cases fl with
    | ret obj =>
      obtain ⟨rfl, rfl⟩ := hr
      have oS : (s.heap.push (blank w)).get? s.heap.objs.size = some (blank w) := Heap.get?_push_size _ rfl
      have tS : Shared.TypeIs { s with heap := s.heap.push (blank w) } (.ref s.heap.objs.size) "set" := ⟨_, oS, rfl⟩
      have m6 := PySem.F.called_set.init.lookup
      have m7 := PySem.F.called_set.init.bind (.ref s.heap.objs.size)
      repeat (any_goals (first | assumption | wp_step))
      refine codeAny_mono (codeAny_call_builtin (R := wants (fun r s₂ => r = .none ∧ ∃ h' tk vs es ep t, s₂ = { s with heap := h', toks := tk } ∧ Tb P w kf h' s.heap.objs.size vs es ep t ∧ vs.Perm ks ∧
          (∀ b o, s.heap.get? b = some o → h'.get? b = some o)) E) PySem.F.called_set.init.plain PySem.F.entry_set_init (check_set_init_1 tS ?_)) fun r₂ s₂ hr₂ => ?_
      · obtain ⟨ol, hol, hcl, nl, hdl⟩ := hl
        obtain ⟨ocls, odict, odata, oslots⟩ := ol
        simp only at hcl hdl
        subst hcl
        subst hdl
        have oL : (s.heap.push (blank w)).get? l = some { cls := .type "list", dict := odict, data := .seq items nl, slots := oslots } := Heap.get?_push_of_some _ hol
        have m8 := PySem.F.sub_list_set
        have m9 := PySem.F.sub_list_frozenset
        have mA : (Value.type "list" == Value.type "dict") = false := by decide
        have isL : (s.heap.push (blank w)).IsList l items := ⟨_, oL, rfl, nl, rfl⟩
        unfold Builtin.«set.__init__» noKeywords Builtin.Frozenset.updateFrom
        generalize hPI : pyIter = PI
        wp_walk
        subst hPI
        refine wpAny_pyIter_list isL (wpAny_bind (wpAny_runValue ?_))
        have ltl : l < s.heap.objs.size := Heap.lt_size hol
        have hh3 : A.in1.in1.in1.handled = none := by simp [hh]
        have neI : l ≠ (s.heap.push (blank w)).objs.size := by
          rw [Heap.size_push]
          exact Nat.ne_of_lt (Nat.lt_succ_of_lt ltl)
        have outS : s.heap.objs.size ∉ [(s.heap.push (blank w)).objs.size, l] := by
          rw [Heap.size_push]
          simp only [List.mem_cons, List.not_mem_nil, or_false, not_or]
          exact ⟨Nat.ne_of_lt (Nat.lt_succ_self _), Nat.ne_of_gt ltl⟩
        have hval : ∀ (i : Nat) (v : Value), items[i]? = some v → ∃ b, ks[i]? = some b ∧ v = .ref b := fun i v hv => by
          rw [← Array.getElem?_toList, hit, List.getElem?_map] at hv
          obtain ⟨b, e1, e2⟩ := Option.map_eq_some_iff.mp hv
          exact ⟨b, e1, e2.symm⟩
        have fresh : ∀ b, s.heap.objs.size ≤ b → s.heap.get? b = none := fun b hb => by
          cases q : s.heap.get? b with
          | none => rfl
          | some o => exact absurd (Nat.lt_of_lt_of_le (Heap.lt_size q) hb) (Nat.lt_irrefl _)
        refine upd_loop ((Walks.list hh3 _ l neI items).toS) s.heap.objs.size outS isz nd few hval s.heap kn (fresh _ (Nat.le_refl _)) (fun b hb => fresh b ?_) hu (items.size - 0) 0 _ (by omega) (Nat.zero_le _)
          ⟨⟨_, Heap.get?_push_size _ rfl, rfl, rfl⟩, (isL.push _)⟩ (fun b o e => Heap.get?_push_of_some _ (Heap.get?_push_of_some _ e)) ?hS0 ?hR
        · have z := List.mem_singleton.mp hb
          rw [z, Heap.size_push]
          exact Nat.le_succ _
        case hS0 => exact ⟨[], #[], 0, _, Tb.blank (Heap.get?_push_of_some _ oS), by rw [List.take_zero]⟩
        case hR =>
          intro s' vs es ep t hm T pm k
          obtain ⟨h', g2, d', tk', os'⟩ := s'
          obtain rfl : g2 = s.gens := hm.gens
          obtain rfl : d' = s.drawn := hm.drawn
          obtain rfl : os' = s.os := hm.os
          show wpAny _ _ _ _ _ _
          refine wpAny_pure ?_
          show wpAny _ _ (ret Value.none) _ _ _
          exact wpAny_pure ⟨rfl, h', tk', vs, es, ep, t, rfl, T, pm, k⟩
      · cases r₂ with
        | error e => exact hr₂
        | ok fl₂ =>
          cases fl₂ with
          | ret r =>
            obtain ⟨rfl, h', tk, vs, es, ep, t, rfl, T, pm, k⟩ := hr₂
            repeat (any_goals (first | assumption | wp_step))
            exact h _ _ _ _ _ _ T pm k
          | _ => exact hr₂.elim
    | _ => exact hr.elim
end

/-! ### the order of (text, number, number) -/
/-- a rank of the two texts -/
def rhoS (x : Str) : Int := if x = ("drop" : Str) then 0 else 1
def isS (x : Str) : Prop := x = ("drop" : Str) ∨ x = ("twice" : Str)
def rk : List L2.Key → Int
  | [.inr x, .inl i, .inl j] => TS.code 64 [rhoS x, i, j]
  | _ => 0
def Sh (k : List L2.Key) : Prop := ∃ x i j, k = [Sum.inr x, Sum.inl i, Sum.inl j] ∧ isS x ∧ (0 ≤ i ∧ i < 64) ∧ (0 ≤ j ∧ j < 64)
theorem lt_s {x y : Str} (hx : isS x) (hy : isS y) : decide (x.cps.toList < y.cps.toList) = decide (rhoS x < rhoS y) := by
  rcases hx with rfl | rfl <;> rcases hy with rfl | rfl <;> decide
theorem rho_ne {x y : Str} (hx : isS x) (hy : isS y) (h : rhoS x = rhoS y) : x = y := by
  rcases hx with rfl | rfl <;> rcases hy with rfl | rfl
  · rfl
  · exact absurd h (by decide)
  · exact absurd h (by decide)
  · rfl
theorem rho_bd {x : Str} : 0 ≤ rhoS x ∧ rhoS x < 64 := by
  unfold rhoS
  split <;> decide
theorem bd2 {i j : Int} (hi : 0 ≤ i ∧ i < 64) (hj : 0 ≤ j ∧ j < 64) : TS.Bd 64 [i, j] := fun m hm => by
  simp only [List.mem_cons, List.not_mem_nil, or_false] at hm
  rcases hm with rfl | rfl
  · exact hi
  · exact hj
theorem items3 {P : Program} {w : World} {x : Str} {i j : Int} {l : List Value} (h : ItemsAre (mixKind P w) [Sum.inr x, Sum.inl i, Sum.inl j] l) : ∃ t u v, l = [Value.str x t, Value.int i u, Value.int j v] := by
  cases h with
  | cons h1 r1 =>
    cases r1 with
    | cons h2 r2 =>
      cases r2 with
      | cons h3 r3 =>
        cases r3
        obtain ⟨t, rfl⟩ := Value.isStrOf_shape h1
        obtain ⟨u, rfl⟩ := Value.isInt_shape h2
        obtain ⟨v, rfl⟩ := Value.isInt_shape h3
        exact ⟨t, u, v, rfl⟩

section
variable {P : Program} {w : World} {A : Around} {E : Value → Shared → Prop} {s : Shared} {kf : Addr → List L2.Key} {bs : List Addr}

def unr : Value → Addr
  | .ref b => b
  | _ => 0
theorem one_s (c : Bool) {x y : Str} {t u : Tok} {Q : Bool → Shared → Prop} (h : Q (decide (x.cps.toList < y.cps.toList)) s) : wpAny (model P w) A (oneLt' c (.str x t) (.str y u)) Q E s := by
  cases c with
  | true => exact oneLt_str h
  | false => exact PySem.W.kat_one _ _ (PyProof.Rows.lt_str (Q := PySem.W.BoolBack Q) h)

/-- two such tuples, one beside the other -/
theorem lex3 {b : Bool} {x y : Str} {i j i' j' : Int} {t t' u u' v v' : Tok} {Q : Bool → Shared → Prop} (hx : isS x) (hy : isS y) (b1 : TS.Bd 64 [i, j]) (b2 : TS.Bd 64 [i', j'])
    (h : Q (decide (TS.code 64 [rhoS x, i, j] < TS.code 64 [rhoS y, i', j'])) s) :
    PySem.W.KatLex P w A b false Q [(Value.str x t, Value.str y t'), (Value.int i u, Value.int i' u'), (Value.int j v, Value.int j' v')] 0 s := by
  refine PySem.W.kat_cons (wpAny_eqBool_str ?_)
  by_cases e : x = y
  · subst e
    rw [decide_eq_true rfl]
    refine PySem.W.kat_yes ?_
    rw [show decide (TS.code 64 [rhoS x, i, j] < TS.code 64 [rhoS x, i', j']) = decide (TS.code 64 [i, j] < TS.code 64 [i', j']) from decide_eq_decide.mpr (TS.code_same rfl)] at h
    exact TS.lex_ints (xs := [Value.int i u, Value.int j v]) (ys := [Value.int i' u', Value.int j' v']) 1 (.cons i u (.cons j v .nil)) (.cons i' u' (.cons j' v' .nil)) rfl b1 b2 h
  · rw [decide_eq_false e]
    refine PySem.W.kat_no (one_s _ ?_)
    have ne : rhoS x ≠ rhoS y := fun z => e (rho_ne hx hy z)
    have q : decide (TS.code 64 [rhoS x, i, j] < TS.code 64 [rhoS y, i', j']) = decide (rhoS x < rhoS y) := by
      refine decide_eq_decide.mpr ⟨fun z => ?_, fun z => TS.code_lt rfl b1 b2 z⟩
      rcases Int.lt_trichotomy (rhoS x) (rhoS y) with c | c | c
      · exact c
      · exact absurd c ne
      · have c2 := TS.code_lt (B := 64) (r := [i', j']) (q := [i, j]) rfl b2 b1 c
        omega
    rw [q] at h
    rw [lt_s hx hy]
    exact h

theorem firsts3 (kn : ∀ b ∈ bs, Mk P w s.heap (kf b) b) (sh : ∀ b ∈ bs, Sh (kf b)) : ∃ fs : List Value, PySem.W.KatTups s.heap (bs.map Value.ref) fs ∧ fs.length = bs.length ∧ ∀ f ∈ fs, ∃ x t, f = Value.str x t := by
  induction bs with
  | nil => exact ⟨[], PySem.W.KatTups.nil, rfl, fun f hf => absurd hf (by simp)⟩
  | cons b bs ih =>
    obtain ⟨fs, k, l, al⟩ := ih (fun c hc => kn c (List.mem_cons_of_mem _ hc)) fun c hc => sh c (List.mem_cons_of_mem _ hc)
    obtain ⟨x, i, j, ek, _⟩ := sh b (List.mem_cons_self ..)
    obtain ⟨o, its, n, ho, hc, hd, hi⟩ := kn b (List.mem_cons_self ..)
    rw [ek] at hi
    obtain ⟨t, u, v, ei⟩ := items3 hi
    have e0 : its[0]? = some (Value.str x t) := by rw [← Array.getElem?_toList, ei] <;> rfl
    refine ⟨Value.str x t :: fs, PySem.W.KatTups.cons ho hc hd e0 k, by rw [List.length_cons, List.length_cons, l], fun f hf => ?_⟩
    rcases List.mem_cons.mp hf with e | hf
    · exact ⟨x, t, e⟩
    · exact al f hf

def rv (kf : Addr → List L2.Key) (v : Value) : Int := rk (kf (unr v))
theorem kind3 (h2 : 2 ≤ bs.length) (kn : ∀ b ∈ bs, Mk P w s.heap (kf b) b) (sh : ∀ b ∈ bs, Sh (kf b)) (Q : SortKind → Shared → Prop)
    (h : ∀ κ, TS.Cmp P w A s κ (pairsOf (bs.map Value.ref)) (rv kf) → Q κ s) : wpAny (model P w) A (keyKind' (bs.map Value.ref).toArray) Q E s := by
  obtain ⟨fs, k, l, al⟩ := firsts3 kn sh
  refine PySem.W.kat_kind (T := Value.type "str") k (by omega) (fun f hf => ?_) rfl (h _ ?_)
  · obtain ⟨x, t, rfl⟩ := al f hf
    exact PySem.W.Looks.of_pure rfl
  · intro p q hp hq Q' E' hQ
    rw [pairsOf_toList] at hp hq
    obtain ⟨b, mb, eb⟩ := List.mem_map.mp (mem_zip_self hp).2
    obtain ⟨c, mc, ec⟩ := List.mem_map.mp (mem_zip_self hq).2
    rw [← eb, ← ec] at hQ ⊢
    obtain ⟨x, i, j, ek, sx, bi, bj⟩ := sh b mb
    obtain ⟨y, i', j', ek', sy, bi', bj'⟩ := sh c mc
    have hQ2 : Q' (decide (TS.code 64 [rhoS x, i, j] < TS.code 64 [rhoS y, i', j'])) s := by
      have z : rv kf (.ref b) = TS.code 64 [rhoS x, i, j] := by
        show rk (kf b) = _
        rw [ek]
        rfl
      have z' : rv kf (.ref c) = TS.code 64 [rhoS y, i', j'] := by
        show rk (kf c) = _
        rw [ek']
        rfl
      rw [z, z'] at hQ
      exact hQ
    obtain ⟨o, its, n, ho, hc, hd, hi⟩ := kn b mb
    obtain ⟨o', its', n', ho', hc', hd', hi'⟩ := kn c mc
    rw [ek] at hi
    rw [ek'] at hi'
    obtain ⟨t, u, v, ei⟩ := items3 hi
    obtain ⟨t', u', v', ei'⟩ := items3 hi'
    refine PySem.W.kat_lt ho hd ho' hd' ?_
    have sz : decide (its.size < its'.size) = false := by
      rw [← Array.length_toList, ← Array.length_toList, ei, ei']
      rfl
    rw [sz, ei, ei']
    exact lex3 sx sy (bd2 bi bj) (bd2 bi' bj') hQ2

theorem back_refs {out : List Value} (h : out.Perm (bs.map Value.ref)) : out = (out.map unr).map Value.ref ∧ (out.map unr).Perm bs := by
  have al : ∀ v ∈ out, v = Value.ref (unr v) := fun v hv => by
    obtain ⟨b, _, rfl⟩ := List.mem_map.mp (h.mem_iff.mp hv)
    rfl
  constructor
  · rw [List.map_map]
    exact (List.map_id out).symm.trans (List.map_congr_left al)
  · have z := h.map unr
    rw [List.map_map] at z
    have e : bs.map (unr ∘ Value.ref) = bs := List.map_id' _
    rw [e] at z
    exact z

/-- xs.sort() -/
theorem lsort {l : Addr} {n : Nat} {Q : Value → Shared → Prop} (ho : s.heap.get? l = some (seqObj "list" (bs.map Value.ref).toArray n)) (h64 : bs.length < 64) (kn : ∀ b ∈ bs, Mk P w s.heap (kf b) b) (sh : ∀ b ∈ bs, Sh (kf b))
    (h : ∀ (out : Array Value) (us : List Addr), out.toList = us.map Value.ref → us.Perm bs → us.Pairwise (fun b c => rk (kf b) ≤ rk (kf c)) → Q .none { s with heap := sortedHeap s.heap l (bs.map Value.ref) out }) :
    wpAny (model P w) A (call (.builtin "list.sort") [.ref l]) Q E s := by
  have keep : ∀ b ∈ bs, Mk P w (TS.midHeap s.heap l (bs.map Value.ref)) (kf b) b := fun b hb => by
    obtain ⟨o, its, q, e, c, r⟩ := kn b hb
    refine ⟨o, its, q, TS.midHeap_old (fun z => ?_) e, c, r⟩
    rw [z, ho] at e
    cases e
    injection c with c
    revert c
    decide
  refine wpAny_call_entry slot_list_sort ⟨_, ho, rfl⟩ entry_list_sort (SK.plain_sort (r := rv kf) ho (by rw [List.length_map]; exact h64) (fun h2 Q' hQ' => ?_) fun ps out h1 h2 h3 => ⟨_, rfl, ?_⟩) (args_list_sort _)
  · rw [List.length_map] at h2
    exact kind3 (s := { s with heap := TS.midHeap s.heap l (bs.map Value.ref) }) h2 keep sh Q' hQ'
  · obtain ⟨p1, p2⟩ := TS.out_rank h1 h2 h3
    obtain ⟨e1, e2⟩ := back_refs p1
    refine h out _ e1 e2 ?_
    rw [List.pairwise_map]
    exact p2

/-- sorted(set) -/
theorem sorted_of {a : Addr} {vs : List Addr} {es : Array (Int × Value)} {ep : Nat} {t : SetTable} {Q : Value → Shared → Prop} (T : Tb P w kf s.heap a vs es ep t) (hh : A.handled = none)
    (kn : ∀ b ∈ vs, Mk P w s.heap (kf b) b) (sh : ∀ b ∈ vs, Sh (kf b))
    (hQ : ∀ s' p (out : Array Value) (c : Nat) (us : List Addr), (∀ b o, s.heap.get? b = some o → s'.heap.get? b = some o) → s'.gens = s.gens → s'.os = s.os → s.heap.objs.size ≤ p → s'.heap.get? p = some (seqObj "list" out c) →
      out.toList = us.map Value.ref → us.Perm vs → us.Pairwise (fun b c => rk (kf b) ≤ rk (kf c)) → Q (.ref p) s') :
    wpAny (model P w) A (call (.builtin "sorted") [.ref a]) Q E s := by
  obtain ⟨o, ho, hex, hd⟩ := T.ob
  have el := len_of T.rows
  have few := T.few
  refine Calls.call_function_entry kind_sorted plain_sorted entry_sorted (args_sorted1 _) ?_
  unfold Builtin.«sorted»
  refine wpAny_bind (m := checkCount "sorted" 1 1 _) (wpAny_pure ?_)
  refine wpAny_bind (collect_set (A := A.in1) hh ⟨o, ho, hex.1, hd⟩ T.fit (by unfold scanBound; omega) T.tab.ris T.led ?_)
  intro s1 got k1 hz g1 o1 pm
  have e0 : es.toList.map (·.2) = vs.map Value.ref := by
    rw [T.rows, List.map_map]
    rfl
  rw [e0] at pm
  obtain ⟨e1, pv⟩ := back_refs pm
  generalize got.map unr = bs at e1 pv
  subst e1
  have h64 : bs.length < 64 := by
    rw [pv.length_eq]
    exact few
  have sz : (bs.map Value.ref).length < 64 := by
    rw [List.length_map]
    exact h64
  refine wpAny_bind (wpAny_newList ?_ (by rw [sizeLine_eq]; omega))
  have oL : (s1.heap.push (seqObj "list" (bs.map Value.ref).toArray 0)).get? s1.heap.objs.size = some (seqObj "list" (bs.map Value.ref).toArray 0) := Heap.get?_push_size _ rfl
  have kn1 : ∀ b ∈ bs, Mk P w (s1.heap.push (seqObj "list" (bs.map Value.ref).toArray 0)) (kf b) b := fun b hb => by
    obtain ⟨o2, its, q, e, r⟩ := kn b (pv.mem_iff.mp hb)
    exact ⟨o2, its, q, Heap.get?_push_of_some _ (k1 b o2 e), r⟩
  refine wpAny_bind (wpAny_holding (lsort (s := { s1 with heap := s1.heap.push (seqObj "list" (bs.map Value.ref).toArray 0) }) oL h64 kn1 (fun b hb => sh b (pv.mem_iff.mp hb)) ?_))
  intro out us f1 f2 f3
  obtain ⟨c, hc⟩ := sortedHeap_at (vs := bs.map Value.ref) (out := out) oL
  refine wpAny_pure ⟨_, rfl, hQ _ s1.heap.objs.size out c us (fun b u e => ?_) g1 o1 hz hc f1 (f2.trans pv) f3⟩
  have q := k1 b u e
  have lt := Heap.lt_size q
  show (sortedHeap (s1.heap.push (seqObj "list" (bs.map Value.ref).toArray 0)) s1.heap.objs.size (bs.map Value.ref) out).get? b = some u
  rw [sortedHeap_old (Nat.ne_of_lt lt) (by rw [size_push']; exact Nat.lt_succ_of_lt lt)]
  exact Heap.get?_push_of_some _ q
end

/-! ### sorted(set(xs)) -/
def keyV : L2.Key → V
  | .inl i => .int i
  | .inr x => .str x
theorem items_key {P : Program} {w : World} : ∀ {k : List L2.Key} {us : List Value}, Vals (k.map keyV) us → ItemsAre (mixKind P w) k us
  | [], _, .nil => .nil
  | .inl i :: k, _, .cons r q => by
    obtain ⟨t, rfl⟩ := r
    exact .cons (mixKind_int P w i t) (items_key q)
  | .inr x :: k, _, .cons r q => by
    obtain ⟨t, rfl⟩ := r
    exact .cons (mixKind_str P w x t) (items_key q)
theorem refs_eq : ∀ {bs : List Addr} {us : List Value}, Vals (bs.map V.ref) us → us = bs.map Value.ref
  | [], _, .nil => rfl
  | _ :: bs, _, .cons r q => by
    cases r
    rw [refs_eq q]
    rfl
theorem vals_refs : ∀ bs : List Addr, Vals (bs.map V.ref) (bs.map Value.ref)
  | [] => .nil
  | _ :: bs => .cons rfl (vals_refs bs)
/-- what stands in rising order is the one such order -/
theorem rise_one {f : Addr → Int} : ∀ {bs us : List Addr}, bs.Pairwise (fun b c => f b < f c) → us.Pairwise (fun b c => f b ≤ f c) → us.Perm bs → us = bs
  | [], us, _, _, pm => List.Perm.eq_nil pm
  | b :: bs, [], _, _, pm => absurd pm.length_eq (by simp)
  | b :: bs, u :: us, h1, h2, pm => by
    obtain ⟨p1, p2⟩ := List.pairwise_cons.mp h1
    obtain ⟨q1, q2⟩ := List.pairwise_cons.mp h2
    have e : u = b := by
      rcases List.mem_cons.mp (pm.mem_iff.mp (List.mem_cons_self (a := u) (l := us))) with z | z
      · exact z
      · have l1 := p1 u z
        rcases List.mem_cons.mp (pm.mem_iff.mpr (List.mem_cons_self (a := b) (l := bs))) with y | y
        · exact y.symm
        · have l2 := q1 b y
          omega
    subst e
    rw [rise_one p2 q2 ((List.perm_cons u).mp pm)]
section
variable {X : Cx}
def tSortSet (K : PySem.W.Frag) (ta : TE) : TE := fun σ H Q => ta σ H fun x H1 => ∃ (l : Addr) (L : List (Addr × List L2.Key)), x = V.ref l ∧ SqL K H1 l (L.map fun q => V.ref q.1) ∧ (∀ q ∈ L, SqT K H1 q.1 (q.2.map keyV)) ∧ L.length < 64 ∧
  (∀ q ∈ L, Sh q.2) ∧ L.Pairwise (fun q r => rk q.2 < rk r.2) ∧ ∀ p, H1 p = none → Q (.ref p) (upd H1 p (.lst (L.map fun q => V.ref q.1)))
theorem pe_sortSet {a : Expr} {ta : TE} {p p2 q pos : Pos} (hc : X.calm = true) (hu : X.A.units + 64 < cLine) (hg : Gl X "sorted") (hm : X.mg "sorted" = none) (hg2 : Gl X "set") (hm2 : X.mg "set" = none) (ha : PE X a ta)
    (na : starEach [a] X.env = (false, eval a X.env) :: starEach [] X.env := by rfl) : PE X (.Call (.Name "sorted" p) [.Call (.Name "set" p2) [a] [] q] [] pos) (tSortSet X.K ta) := by
  refine ⟨fun pins s σ H Q I h => ?_⟩
  refine Call_ (ld_blt I hg hm PyProof.Rows.boot_sorted ?_)
  refine PyProof.Rows.callWith_builtin1 (PyProof.Rows.args_cons ?_ rfl) rfl rfl
  refine Call_ (ld_blt I hg2 hm2 PyProof.Rows.boot_set ?_)
  refine PyProof.Rows.callWith_type1 (PyProof.Rows.args_cons (thn (ha.run pins s σ H _ I h) fun v s1 hv => PyProof.Rows.args_nil ?_) na) na rfl
  obtain ⟨x, H1, I1, r1, l, L, rfl, hq, hkL, h64L, shL, ascL, q1⟩ := hv
  cases r1
  -- the keys, read off the addresses
  have mkL : ∀ q ∈ L, Mk X.prog X.w s1.heap q.2 q.1 := fun q hq => by
    obtain ⟨us, ru, ⟨o, ho, hcl, n, hd⟩, _⟩ := I1.tuple (hkL q hq)
    exact ⟨o, us.toArray, n, ho, hcl, hd, by simpa using items_key ru⟩
  obtain ⟨kf, hkf⟩ : ∃ kf : Addr → List L2.Key, ∀ q ∈ L, kf q.1 = q.2 := by
    refine ⟨fun b => @Classical.epsilon _ ⟨[]⟩ (fun k => Mk X.prog X.w s1.heap k b), fun q hq => ?_⟩
    exact IsTupleKey.inj (Classical.epsilon_spec (p := fun k => Mk X.prog X.w s1.heap k q.1) ⟨_, mkL q hq⟩) (mkL q hq)
  obtain ⟨bs, ebs⟩ : ∃ bs, bs = L.map (·.1) := ⟨_, rfl⟩
  have eref : (L.map fun q => V.ref q.1) = bs.map V.ref := by rw [ebs, List.map_map]; rfl
  rw [eref] at hq q1
  have h64 : bs.length < 64 := by rw [ebs, List.length_map]; exact h64L
  have hk : ∀ b ∈ bs, SqT X.K H1 b ((kf b).map keyV) := fun b hb => by
    rw [ebs] at hb
    obtain ⟨q, hq, rfl⟩ := List.mem_map.mp hb
    rw [hkf q hq]
    exact hkL q hq
  have sh : ∀ b ∈ bs, Sh (kf b) := fun b hb => by
    rw [ebs] at hb
    obtain ⟨q, hq, rfl⟩ := List.mem_map.mp hb
    rw [hkf q hq]
    exact shL q hq
  have asc : bs.Pairwise (fun b c => rk (kf b) < rk (kf c)) := by
    rw [ebs, List.pairwise_map]
    refine List.Pairwise.imp_of_mem (fun {q r} hq hr z => ?_) ascL
    rw [hkf q hq, hkf r hr]
    exact z
  obtain ⟨its, r, pl, hz⟩ := I1.list hq
  have nd : bs.Nodup := asc.imp fun {b c} z e => by
    subst e
    omega
  have mk : ∀ b ∈ bs, Mk X.prog X.w s1.heap (kf b) b := fun b hb => by
    obtain ⟨us, ru, ⟨o, ho, hcl, n, hd⟩, _⟩ := I1.tuple (hk b hb)
    exact ⟨o, us.toArray, n, ho, hcl, hd, by simpa using items_key ru⟩
  have kn : Kn X.prog X.w kf bs s1.heap := ⟨mk, fun b hb c hc' e => by
    have cmp : rk (kf b) = rk (kf c) := by rw [e]
    rcases Classical.em (b = c) with z | z
    · exact z
    · exfalso
      obtain ⟨i, hi, ei⟩ := List.mem_iff_getElem.mp hb
      obtain ⟨j, hj, ej⟩ := List.mem_iff_getElem.mp hc'
      have aa := List.pairwise_iff_getElem.mp asc
      rcases Nat.lt_trichotomy i j with y | y | y
      · have := aa i j hi hj y
        rw [ei, ej] at this
        omega
      · subst y
        exact z (ei.symm.trans ej)
      · have := aa j i hj hi y
        rw [ei, ej] at this
        omega⟩
  refine set_of (P := X.prog) (w := X.w) (I1.ok.hd hc) pl.isList (by simpa using refs_eq r) kn nd h64 (by omega) fun h' tk vs es ep t T pm k => ?_
  refine PyProof.Rows.args_nil ?_
  have I2 : Inv X pins σ H1 { s1 with heap := h', toks := tk } := I1.kept k
  refine sorted_of (s := { s1 with heap := h', toks := tk }) T (I1.ok.hd hc) (fun b hb => ?_) (fun b hb => sh b (pm.mem_iff.mp hb)) ?_
  · obtain ⟨o, i2, n, e, rr⟩ := mk b (pm.mem_iff.mp hb)
    exact ⟨o, i2, n, k b o e, rr⟩
  · intro s' p out c us k2 g2 o2 hp hgp hout pm2 pw
    have eus : us = bs := rise_one asc pw (pm2.trans pm)
    subst eus
    generalize ({ s1 with heap := h', toks := tk } : Shared) = s2 at I2 k2 g2 o2 hp
    have hn : H1 p = none := I2.hok.fresh hp
    have hlen : (us.map V.ref).length ≤ sizeLine := by
      rw [List.length_map, sizeLine_eq]
      omega
    have hv : Vals (us.map V.ref) out.toList := by
      rw [hout]
      exact vals_refs us
    have J : Inv X pins σ (upd H1 p (.lst (us.map V.ref))) { s2 with heap := s'.heap, gens := s'.gens, drawn := s'.drawn, toks := s'.toks } :=
      I2.call (ch := []) (Un.laid k2 hp hn) (I2.hok.laid k2 hp ⟨hlen, out.toList, c, hv, hgp⟩) (by rw [g2]; exact I2.bare) (fun _ z => nomatch z)
    have e : s' = { s2 with heap := s'.heap, gens := s'.gens, drawn := s'.drawn, toks := s'.toks } := by
      obtain ⟨x1, x2, x3, x4, x5⟩ := s'
      obtain ⟨y1, y2, y3, y4, y5⟩ := s2
      cases o2
      rfl
    rw [e]
    exact ⟨.ref p, _, J, rfl, q1 p hn⟩
end
end MS

namespace HH
open PySem PySem.Spec L2
local macro_rules | `(tactic| walk_at "cy") => `(tactic| first
  | assumption
  | exact L2.upd_same
  | exact L2.sqL_new
  | exact L2.sqT_new
  | exact L2.sqL_at (by assumption)
  | exact L2.sqT_at (by assumption)
  | (refine' L2.Same.seq (by assumption) ?k0; (case k0 => walk_at "cy"))
  | (refine' L2.Same.sqT (by assumption) ?k0; (case k0 => walk_at "cy"))
  | (refine' L2.Same.dat (by assumption) ?k0; (case k0 => walk_at "cy"))
  | (refine' (by assumption : L2.Same _ _) _ _ ?k0; (case k0 => walk_at "cy"))
  | (refine' L2.Same.seq (L2.same_new (by assumption)) ?k0; (case k0 => walk_at "cy"))
  | (refine' L2.Same.sqT (L2.same_new (by assumption)) ?k0; (case k0 => walk_at "cy"))
  | (refine' L2.Same.dat (L2.same_new (by assumption)) ?k0; (case k0 => walk_at "cy"))
  | (refine' L2.same_new (by assumption) _ _ ?k0; (case k0 => walk_at "cy"))
  | (refine' L2.Mv.sqT (by assumption) ?k0; (case k0 => walk_at "cy")))
local macro_rules | `(tactic| walk_at "w") => `(tactic| repeat (first
  | refine HH.stp ?_
  | with_reducible refine L2.iteT ?_
  | with_reducible refine L2.iteF ?_
  | ((with_reducible refine' HH.w_gtup ?k1 ?k2 ?_); (case k1 => walk_at "cy"); (case k2 => exact rfl))
  | ((with_reducible refine' HH.w_ixT ?k1 ?k2 ?_); (case k1 => walk_at "cy"); (case k2 => exact rfl))
  | ((with_reducible refine' HH.w_ixL ?k1 ?k2 ?_); (case k1 => walk_at "cy"); (case k2 => exact rfl))
  | ((with_reducible refine' HH.w_lenL ?k1 ?_); (case k1 => walk_at "cy"))
  | ((with_reducible refine' HH.w_lenT ?k1 ?_); (case k1 => walk_at "cy"))
  | ((with_reducible refine' HH.w_exT ?k1 ?_); (case k1 => walk_at "cy"))
  | ((with_reducible refine' HH.w_exL ?k1 ?_); (case k1 => walk_at "cy"))
  | ((with_reducible refine' HH.w_tyL ?k1 ?_); (case k1 => walk_at "cy"))
  | ((with_reducible refine' HH.w_setL ?k1 ?k2 ?_); (case k1 => walk_at "cy"); (case k2 => exact rfl))
  | ((with_reducible refine' HH.w_modI ?k1 ?_); (case k1 => first | (with_reducible assumption) | omega))
  | ((with_reducible refine' HH.w_divI ?k1 ?_); (case k1 => (constructor <;> omega)))))
local macro_rules | `(tactic| walk_at "v") => `(tactic| ((repeat ((fail_if_success (with_reducible refine HH.isIf ?_)); first
  | refine HH.stp ?_
  | with_reducible refine L2.iteT ?_
  | with_reducible refine L2.iteF ?_
  | ((with_reducible refine' HH.w_gtup ?k1 ?k2 ?_); (case k1 => walk_at "cy"); (case k2 => exact rfl))
  | ((with_reducible refine' HH.w_ixT ?k1 ?k2 ?_); (case k1 => walk_at "cy"); (case k2 => exact rfl))
  | ((with_reducible refine' HH.w_ixL ?k1 ?k2 ?_); (case k1 => walk_at "cy"); (case k2 => exact rfl))
  | ((with_reducible refine' HH.w_lenL ?k1 ?_); (case k1 => walk_at "cy"))
  | ((with_reducible refine' HH.w_lenT ?k1 ?_); (case k1 => walk_at "cy"))
  | ((with_reducible refine' HH.w_exT ?k1 ?_); (case k1 => walk_at "cy"))
  | ((with_reducible refine' HH.w_exL ?k1 ?_); (case k1 => walk_at "cy"))
  | ((with_reducible refine' HH.w_tyL ?k1 ?_); (case k1 => walk_at "cy"))
  | ((with_reducible refine' HH.w_setL ?k1 ?k2 ?_); (case k1 => walk_at "cy"); (case k2 => exact rfl))
  | ((with_reducible refine' HH.w_modI ?k1 ?_); (case k1 => first | (with_reducible assumption) | omega))
  | ((with_reducible refine' HH.w_divI ?k1 ?_); (case k1 => (constructor <;> omega)))))); (try (with_reducible refine HH.isIf ?_)))
theorem room65 {k : Nat} {A : Around} (r : Room k A) : A.units + 65 < cLine := by
  have := r.un
  omega
section
variable (K : PySem.W.Frag)
theorem shp_rowL {r : Row} (h : ∀ f ∈ r, f.ok = true) : SeqAt.shaped (.list (r.map folkD)) = true := by
  have := lay_row h
  show (PyData.canLayAll0 (r.map folkD) && decide (PyData.depthAll (r.map folkD) + 1 ≤ 64)) = true
  rw [this.1, decide_eq_true (by omega)]
  rfl
/-- two lists of the same folk -/
theorem w_neFL {H : Hp} {Q : VK} {a b : Addr} {xs ys : List V} {r : Row} (ha : H a = some (.lst xs)) (hb : H b = some (.lst ys)) (hx : DpAll K H xs (r.map folkD)) (hy : DpAll K H ys (r.map folkD)) (h : ∀ f ∈ r, f.ok = true) (q : Q (.bl false) H) : rNeD K (.ref a) (.ref b) H Q :=
  ⟨.list (r.map folkD), .list (r.map folkD), .lst (sqL_at ha) hx, .lst (sqL_at hb) hy, shp_rowL h, shp_rowL h, by rw [show PyData.eqv (.list (r.map folkD)) (.list (r.map folkD)) = true from SeqAt.eqvAll_refl _ (lay_row h).1]; exact q⟩
/-- a list of ones beside the empty list -/
theorem w_eqOnes {H : Hp} {Q : VK} {a b : Addr} {n : Nat} (ha : H a = some (.lst (List.replicate n (.int 1)))) (hb : H b = some (.lst [])) (q : Q (.bl (bD (n = 0))) H) : rEqD K (.ref a) (.ref b) H Q := by
  have hd : ∀ n, DpAll K H (List.replicate n (.int 1)) (List.replicate n (.int 1)) := fun n => by
    induction n with
    | zero => exact .nil
    | succ n ih => exact .cons (.int 1) ih
  have hl : ∀ n, PyData.canLayAll0 (List.replicate n (.int 1)) = true ∧ PyData.depthAll (List.replicate n (.int 1)) = 0 := fun n => by
    induction n with
    | zero => exact ⟨rfl, rfl⟩
    | succ n ih =>
      constructor
      · show (true && PyData.canLayAll0 (List.replicate n (.int 1))) = true
        rw [ih.1]; rfl
      · show max 0 (PyData.depthAll (List.replicate n (.int 1))) = 0
        rw [ih.2]; rfl
  have hs : SeqAt.shaped (.list (List.replicate n (.int 1))) = true := by
    show (PyData.canLayAll0 (List.replicate n (.int 1)) && decide (PyData.depthAll (List.replicate n (.int 1)) + 1 ≤ 64)) = true
    rw [(hl n).1, (hl n).2]
    rfl
  refine ⟨_, _, .lst (sqL_at ha) (hd n), .lst (sqL_at hb) .nil, hs, by decide, ?_⟩
  rw [show PyData.eqv (.list (List.replicate n (.int 1))) (.list []) = bD (n = 0) from by
    cases n with
    | zero => exact (bD_t rfl).symm
    | succ n => exact (bD_f (fun h => by cases h)).symm]
  exact q
/-- how many of the pairs are told otherwise -/
noncomputable def missN (r : Row) (ps : List (List Nat × List Nat)) : Nat := (ps.filter fun p => !bD (comes r p.1 = p.2)).length
theorem miss_iff {r : Row} {i : Nat} {ps : List (List Nat × List Nat)} {f : Folk} : bD (missN ((r.take i ++ [f]) ++ r.drop (i + 1)) ps = 0) = canBe r i ps f := by
  have e : (missN ((r.take i ++ [f]) ++ r.drop (i + 1)) ps = 0) ↔ canBe r i ps f = true := by
    unfold missN canBe
    rw [List.length_eq_zero_iff, List.filter_eq_nil_iff, List.all_eq_true]
    exact ⟨fun h p hp => by have := h p hp; rw [Bool.not_eq_true, Bool.not_eq_false'] at this; exact this, fun h p hp => by rw [h p hp]; exact Bool.false_ne_true⟩
  by_cases h : canBe r i ps f = true
  · rw [h, bD_t (e.mpr h)]
  · rw [bD_f (fun z => h (e.mp z)), Bool.not_eq_true _ |>.mp h]

/-! the counters, as keys of a set -/
def keyF : Folk → List L2.Key
  | .ctr tw e c => [Sum.inr (kindOf tw), Sum.inl (e : Nat), Sum.inl (c : Nat)]
  | .hears _ _ => []
def isC : Folk → Bool
  | .ctr _ e c => decide (2 ≤ e) && decide (e ≤ 6) && decide (c < e)
  | .hears _ _ => false
theorem allC_is : ∀ f ∈ allC, isC f = true := by decide +kernel
theorem all_ctr : ∀ tw : Bool, ∀ e < 7, ∀ c < 7, isC (.ctr tw e c) = true → Folk.ctr tw e c ∈ allC := by decide +kernel
theorem mem_allC {f : Folk} (h : isC f = true) : f ∈ allC := by
  cases f with
  | hears a b => cases h
  | ctr tw e c =>
    have h2 : 2 ≤ e ∧ e ≤ 6 ∧ c < e := by
      have h1 : (decide (2 ≤ e) && decide (e ≤ 6) && decide (c < e)) = true := h
      rw [Bool.and_eq_true, Bool.and_eq_true, decide_eq_true_eq, decide_eq_true_eq, decide_eq_true_eq] at h1
      exact ⟨h1.1.1, h1.1.2, h1.2⟩
    exact all_ctr tw e (by omega) c (by omega) h
theorem isC_of {f : Folk} (h : ∃ tw e c, f = .ctr tw e c) (hf : f.ok = true) : isC f = true := by
  obtain ⟨tw, e, c, rfl⟩ := h
  exact hf
theorem isC_ok {f : Folk} (h : isC f = true) : f.ok = true := by
  cases f with
  | hears a b => cases h
  | ctr tw e c => exact h
theorem sh_key {f : Folk} (h : isC f = true) : MS.Sh (keyF f) := by
  cases f with
  | hears a b => cases h
  | ctr tw e c =>
    have h1 : (decide (2 ≤ e) && decide (e ≤ 6) && decide (c < e)) = true := h
    rw [Bool.and_eq_true, Bool.and_eq_true, decide_eq_true_eq, decide_eq_true_eq, decide_eq_true_eq] at h1
    refine ⟨kindOf tw, (e : Nat), (c : Nat), rfl, ?_, by omega, by omega⟩
    cases tw
    · exact .inl rfl
    · exact .inr rfl
theorem allC_rise : (allC.map fun f => MS.rk (keyF f)).Pairwise (· < ·) := by decide +kernel
theorem key_val {f : Folk} (h : isC f = true) : (keyF f).map MS.keyV = folkV f := by
  cases f with
  | hears a b => cases h
  | ctr tw e c => rfl
/-- the list of the tuples, address by address -/
theorem keys_of {H : Hp} : ∀ {l : Row} {xs : List V}, (∀ f ∈ l, isC f = true) → DpAll K H xs (l.map folkD) →
    ∃ L : List (Addr × List L2.Key), xs = (L.map fun q => V.ref q.1) ∧ (∀ q ∈ L, SqT K H q.1 (q.2.map MS.keyV)) ∧ L.map (·.2) = l.map keyF
  | [], xs, _, h => by
    cases h
    exact ⟨[], rfl, fun q hq => absurd hq (by simp), rfl⟩
  | f :: l, xs, hl, h => by
    cases h with
    | cons h1 h2 =>
      obtain ⟨L, e1, e2, e3⟩ := keys_of (fun g hg => hl g (List.mem_cons_of_mem _ hg)) h2
      obtain ⟨a, rfl, hs⟩ := folk_inv h1
      refine ⟨(a, keyF f) :: L, by rw [List.map_cons, e1], fun q hq => ?_, by rw [List.map_cons, List.map_cons, e3]⟩
      rcases List.mem_cons.mp hq with e | hq
      · rw [e]
        show SqT K H a ((keyF f).map MS.keyV)
        rw [key_val (hl f (List.mem_cons_self ..))]
        exact hs
      · exact e2 q hq
/-- sorted(set(told)) is told, where told is of the counters, rising -/
theorem w_sortSet {ta : TE} {σ : L2.St} {H : Hp} {Q : VK}
    (h : ta σ H fun x H1 => ∃ (a : Addr) (xs : List V) (p : Folk → Bool), x = .ref a ∧ H1 a = some (.lst xs) ∧ DpAll K H1 xs ((allC.filter p).map folkD) ∧ ∀ o, H1 o = none → Q (.ref o) (upd H1 o (.lst xs)))
    (mono : ∀ {Q1 Q2 : VK}, (∀ x H1, Q1 x H1 → Q2 x H1) → ta σ H Q1 → ta σ H Q2) : MS.tSortSet K ta σ H Q := by
  refine mono (fun x H1 hx => ?_) h
  obtain ⟨a, xs, p, rfl, ha, hd, q⟩ := hx
  have hc : ∀ f ∈ allC.filter p, isC f = true := fun f hf => allC_is f (List.mem_filter.mp hf).1
  obtain ⟨L, e1, e2, e3⟩ := keys_of K hc hd
  have ll : L.length = (allC.filter p).length := by
    have z := congrArg List.length e3
    rw [List.length_map, List.length_map] at z
    exact z
  have l40 : (allC.filter p).length ≤ 40 := by
    have h2 := List.length_filter_le p allC
    have h3 : allC.length = 40 := by decide
    omega
  refine ⟨a, L, rfl, by rw [← e1]; exact sqL_at ha, e2, by omega, fun q hq => ?_, ?_, fun o no => ?_⟩
  · have m : q.2 ∈ (allC.filter p).map keyF := by
      rw [← e3]
      exact List.mem_map_of_mem hq
    obtain ⟨f, hf, e⟩ := List.mem_map.mp m
    rw [← e]
    exact sh_key (hc f hf)
  · have z : ((allC.filter p).map fun f => MS.rk (keyF f)).Pairwise (· < ·) := allC_rise.sublist ((List.filter_sublist (p := p) (l := allC)).map _)
    have e4 : ((allC.filter p).map fun f => MS.rk (keyF f)) = L.map fun q => MS.rk q.2 := by
      have y := congrArg (List.map MS.rk) e3
      rw [List.map_map, List.map_map] at y
      exact y.symm
    rw [e4, List.pairwise_map] at z
    exact z
  · rw [← e1]
    exact q o no
/-! one folk in a list of them -/
theorem eqv_ctr {f g : Folk} (hf : isC f = true) (hg : isC g = true) : PyData.eqv (folkD g) (folkD f) = decide (g = f) := by
  cases f with
  | hears a b => cases hf
  | ctr tw e c =>
    cases g with
    | hears a b => cases hg
    | ctr tw' e' c' =>
      show (kindOf tw' == kindOf tw && (((e' : Nat) : Int) == ((e : Nat) : Int) && (((c' : Nat) : Int) == ((c : Nat) : Int) && true))) = _
      have k1 : (kindOf tw' == kindOf tw) = decide (tw' = tw) := by cases tw <;> cases tw' <;> decide
      have k2 : ∀ a b : Nat, (((a : Nat) : Int) == ((b : Nat) : Int)) = decide (a = b) := fun a b => by
        by_cases h : a = b
        · rw [h, decide_eq_true rfl, beq_self_eq_true]
        · rw [decide_eq_false h, beq_eq_false_iff_ne]
          omega
      rw [k1, k2, k2, Bool.and_true]
      by_cases h1 : tw' = tw
      · by_cases h2 : e' = e
        · by_cases h3 : c' = c
          · rw [decide_eq_true h1, decide_eq_true h2, decide_eq_true h3, h1, h2, h3, decide_eq_true rfl] <;> rfl
          · rw [decide_eq_false h3, Bool.and_false, Bool.and_false, decide_eq_false (fun z => by cases z; exact h3 rfl)]
        · rw [decide_eq_false h2, Bool.false_and, Bool.and_false, decide_eq_false (fun z => by cases z; exact h2 rfl)]
      · rw [decide_eq_false h1, Bool.false_and, decide_eq_false (fun z => by cases z; exact h1 rfl)]
theorem any_ctr {f : Folk} {l : Row} (hf : isC f = true) (hl : ∀ g ∈ l, isC g = true) : ((l.map folkD).any fun z => PyData.eqv z (folkD f)) = bD (f ∈ l) := by
  by_cases h : f ∈ l
  · rw [bD_t h, List.any_eq_true]
    exact ⟨folkD f, List.mem_map_of_mem h, by rw [eqv_ctr hf hf, decide_eq_true rfl]⟩
  · rw [bD_f h, List.any_eq_false]
    intro d hd
    obtain ⟨g, hg, rfl⟩ := List.mem_map.mp hd
    rw [eqv_ctr hf (hl g hg), decide_eq_false (fun e : g = f => h (e ▸ hg))]
    exact Bool.false_ne_true
theorem shp_ctr {f : Folk} (h : isC f = true) : SeqAt.shaped (folkD f) = true := by
  have z := lay_folk (isC_ok h)
  show (PyData.canLay0 (folkD f) && decide (PyData.depth (folkD f) ≤ 64)) = true
  rw [z.1, z.2]
  rfl
theorem w_inF {H : Hp} {Q : VK} {x : V} {a : Addr} {xs : List V} {f : Folk} {l : Row} (hx : Dp K H x (folkD f)) (ha : H a = some (.lst xs)) (hd : DpAll K H xs (l.map folkD)) (hf : isC f = true) (hl : ∀ g ∈ l, isC g = true)
    (q : Q (.bl (bD (f ∈ l))) H) : rInD K x (.ref a) H Q :=
  ⟨folkD f, l.map folkD, hx, .lst (sqL_at ha) hd, shp_ctr hf, shp_rowL fun g hg => isC_ok (hl g hg), by rw [any_ctr hf hl]; exact q⟩
theorem w_notInF {H : Hp} {Q : VK} {x : V} {a : Addr} {xs : List V} {f : Folk} {l : Row} (hx : Dp K H x (folkD f)) (ha : H a = some (.lst xs)) (hd : DpAll K H xs (l.map folkD)) (hf : isC f = true) (hl : ∀ g ∈ l, isC g = true)
    (q : Q (.bl (!bD (f ∈ l))) H) : rNotInD K x (.ref a) H Q :=
  ⟨folkD f, l.map folkD, hx, .lst (sqL_at ha) hd, shp_ctr hf, shp_rowL fun g hg => isC_ok (hl g hg), by rw [any_ctr hf hl]; exact q⟩
/-! the plain law -/
theorem cut_take {r : Row} {i : Nat} {mid : Row} {rest : Row} (hi : i ≤ r.length) : ((r.take i ++ mid) ++ rest).take i = r.take i := by
  rw [List.append_assoc, List.take_append_of_le_length (by rw [List.length_take]; omega), List.take_take, Nat.min_self]
theorem cut_drop {r : Row} {i : Nat} {x : Folk} {rest : Row} (hi : i ≤ r.length) : ((r.take i ++ [x]) ++ rest).drop (i + 1) = rest := by
  have l : (r.take i ++ [x]).length = i + 1 := by
    rw [List.length_append, List.length_take]
    show min i r.length + 1 = i + 1
    omega
  rw [← l, List.drop_left]
theorem can_congr {r o : Row} {i : Nat} {ps : List (List Nat × List Nat)} (h1 : r.take i = o.take i) (h2 : r.drop (i + 1) = o.drop (i + 1)) : whoCan r i ps = whoCan o i ps := by
  unfold whoCan canBe
  rw [h1, h2]
theorem mem_whoCan {r : Row} {i : Nat} {ps : List (List Nat × List Nat)} {f : Folk} (h : isC f = true) : f ∈ whoCan r i ps ↔ canBe r i ps f = true :=
  ⟨fun m => (List.mem_filter.mp m).2, fun c => List.mem_filter.mpr ⟨mem_allC h, c⟩⟩
theorem can_fewer {r : Row} {i k : Nat} {ps : List (List Nat × List Nat)} {f : Folk} (h : f ∈ whoCan r i ps) : f ∈ whoCan r i (ps.take k) := by
  obtain ⟨h1, h2⟩ := List.mem_filter.mp h
  refine List.mem_filter.mpr ⟨h1, ?_⟩
  have h3 := List.all_eq_true.mp h2
  exact List.all_eq_true.mpr fun p hp => h3 p (List.mem_of_mem_take hp)
theorem isC_who {r : Row} {i : Nat} {ps : List (List Nat × List Nat)} : ∀ f ∈ whoCan r i ps, isC f = true := fun f hf => allC_is f (List.mem_filter.mp hf).1
theorem who_len {r : Row} {i : Nat} {ps : List (List Nat × List Nat)} : (whoCan r i ps).length ≤ 40 := by
  have h2 : (whoCan r i ps).length ≤ allC.length := List.length_filter_le _ _
  have h3 : allC.length = 40 := by decide
  omega
end
section
variable (K : PySem.W.Frag)
theorem w_sortV {k : Nat} {σ : L2.St} {H : Hp} {Q : VK} {a : Addr} {xs : List V} {p : Folk → Bool} (hv : σ[k]? = some (some (.ref a))) (ha : H a = some (.lst xs)) (hd : DpAll K H xs ((allC.filter p).map folkD))
    (q : ∀ o, H o = none → Q (.ref o) (upd H o (.lst xs))) : MS.tSortSet K (tVar k) σ H Q :=
  w_sortSet K (ta := tVar k) ⟨_, hv, a, xs, p, rfl, ha, hd, q⟩ fun h hx => let ⟨v, e, z⟩ := hx; ⟨v, e, h _ _ z⟩
theorem w_slA_to1 {H : Hp} {Q : VK} {p : Addr} {xs : List V} {k : Nat} (h : SqL K H p xs) (q : ∀ o, H o = none → Q (.ref o) (upd H o (.lst (xs.take k)))) : rSlL K (.ref p) none (some (k : Int)) H Q := ⟨p, _, rfl, h, fun o no => by rw [cutV_to]; exact q o no⟩
end
def t_law (K : PySem.W.Frag) : TS :=
  (tSeq (tFor (iList K (tCall (sp_l_bags K) [] E0 (tCons (tVar 0) (tCons (tC (.int 5)) tNil)))) (gName 1)
  (tSeq (tAsg (tCall (sp_l_mouths K) [] E0 (tCons (tVar 1) (tCons (tC (.int 3)) (tCons (tC (.int 26)) tNil)))) (gName 2))
  (tSeq (tAsg (tCall (sp_l_take K) [] E0 (tCons (tVar 1) (tCons (tOp rAddI (tCB (rLenQ K) (tCons (tVar 2) tNil)) (tC (.int 1))) tNil))) (gName 3))
  (tSeq (tAsg (tCall (sp_l_counter K) [] E0 (tCons (tVar 1) tNil)) (gName 4))
  (tSeq (tAsg (tOp (rCatA K) (tOp (rCatA K) (tSl (rSlA K) (tVar 2) tNoPart (tPart (tVar 3))) (tTup (tCons (tVar 4) tNil))) (tSl (rSlA K) (tVar 2) (tPart (tVar 3)) tNoPart)) (gName 2))
  (tSeq (tAsg (tLst tNil) (gName 5))
  (tSeq (tFor (iRng1 (tCons (tOp rAddI (tC (.int 1)) (tCall (sp_l_take K) [] E0 (tCons (tVar 1) (tCons (tC (.int 10)) tNil)))) tNil)) (gName 6)
  (tSeq (tAsg (tCall (sp_l_a_word K) [] E0 (tCons (tVar 1) (tCons (tC (.int 12)) (tCons (tC (.int 26)) tNil)))) (gName 7))
  (tDrop (tBM K "list" rAppend (tVar 5) (tCons (tTup (tCons (tVar 7) (tCons (tCall (sp_out K) [] E0 (tCons (tVar 2) (tCons (tVar 7) tNil))) tNil))) tNil)))))
  (tSeq (tAsg (tCall (sp_who_can K) [] E0 (tCons (tVar 2) (tCons (tVar 3) (tCons (tCB (rTupQ K) (tCons (tVar 5) tNil)) tNil)))) (gName 8))
  (tSeq (tIfS (tOr (tTest (tOp (rNotInD K) (tVar 4) (tVar 8))) (tTest (tOp (rNeD K) (tVar 8) (MS.tSortSet K (tVar 8))))) (tRet (tC (.bl false))) tNext)
  (tSeq (tIfS (tTest (tOp (rNeD K) (tCall (sp_who_can K) [] E0 (tCons (tOp (rCatA K) (tOp (rCatA K) (tSl (rSlA K) (tVar 2) tNoPart (tPart (tVar 3))) (tTup (tCons (tTup (tCons (tC (.str "hears")) (tCons (tC (.str "a")) (tCons (tC (.str "b")) tNil)))) tNil))) (tSl (rSlA K) (tVar 2) (tPart (tOp rAddI (tVar 3) (tC (.int 1)))) tNoPart)) (tCons (tVar 3) (tCons (tCB (rTupQ K) (tCons (tVar 5) tNil)) tNil)))) (tVar 8))) (tRet (tC (.bl false))) tNext)
  (tSeq (tFor (iRng1 (tCons (tC (.int 6)) tNil)) (gName 6)
  (tSeq (tAsg (tOp (rIxL K) (tLst (tCons (tCall (sp_l_counter K) [] E0 (tCons (tVar 1) tNil)) (tCons (tOp (rIxL K) (tVar 8) (tCall (sp_l_take K) [] E0 (tCons (tVar 1) (tCons (tCB (rLenQ K) (tCons (tVar 8) tNil)) tNil)))) tNil))) (tCall (sp_l_take K) [] E0 (tCons (tVar 1) (tCons (tC (.int 2)) tNil)))) (gName 9))
  (tSeq (tAsg (tOp (rCatA K) (tOp (rCatA K) (tSl (rSlA K) (tVar 2) tNoPart (tPart (tVar 3))) (tTup (tCons (tVar 9) tNil))) (tSl (rSlA K) (tVar 2) (tPart (tOp rAddI (tVar 3) (tC (.int 1)))) tNoPart)) (gName 10))
  (tIfS (tTest (tOp rNe (tOp (rEqD K) (tLc (iList K (tVar 5)) (gTup K 2 (gCons (gName 12) (gCons (gName 13) gNil))) (tTest (tOp rNe (tCall (sp_out K) [] E0 (tCons (tVar 10) (tCons (tVar 12) tNil))) (tVar 13))) (tC (.int 1)) [12, 13]) (tLst tNil)) (tOp (rInD K) (tVar 9) (tVar 8)))) (tRet (tC (.bl false))) tNext))))
  (tSeq (tAsg (tCall (sp_who_can K) [] E0 (tCons (tVar 2) (tCons (tVar 3) (tCons (tCB (rTupQ K) (tCons (tSl (rSlL K) (tVar 5) tNoPart (tPart (tC (.int 1)))) tNil)) tNil)))) (gName 11))
  (tIfS (tTest (tOp (rNeD K) (tLc (iList K (tVar 8)) (gName 9) (tTest (tOp (rNotInD K) (tVar 9) (tVar 11))) (tVar 9) [9]) (tLst tNil))) (tRet (tC (.bl false))) tNext)))))))))))))
  (tRet (tC (.bl true))))

section
variable (K : PySem.W.Frag)
theorem sem_law : ∀ vs H Q E, sp_law K vs H Q E → t_law K { nx := fun _ H' => Q .non H', rt := Q } (start ["script", "bag", "house", "place", "one", "pairs", "turn", "word", "told", "other", "folk", "fewer", "said", "heard"] vs) H := by
  rintro vs H Q E ⟨a, ns, rfl, hs, hn, q⟩
  show t_law K _ [some (.ref a), none, none, none, none, none, none, none, none, none, none, none, none, none] H
  unfold t_law
  walk_at "v"
  refine ⟨a, ns, 5, rfl, hs, by decide, fun H1 p bs s1 hp hbl hbs => ?_⟩
  walk_at "v"
  refine for_list (xs := bs.map V.ref) (fun i σ H2 => ∃ y1 y2 y3 y4 y5 y6 y7 y8 y9 y10 y11 : Option V, σ = [some (.ref a), y1, y2, y3, y4, y5, y6, y7, y8, y9, y10, y11, none, none] ∧ H2 p = some (.lst (bs.map V.ref)) ∧ ∀ c ∈ bs, BagOk K H2 c ∧ p ≠ c) ?_ ?_ ?_ ?_
  · exact ⟨_, _, _, _, _, _, _, _, _, _, _, rfl, hp, hbs⟩
  · rintro i σ H2 hi ⟨y1, y2, y3, y4, y5, y6, y7, y8, y9, y10, y11, rfl, h2, _⟩
    exact sqL_at h2
  · rintro i v σ H2 hv ⟨y1, y2, y3, y4, y5, y6, y7, y8, y9, y10, y11, rfl, h2⟩
    obtain ⟨b, hb, rfl⟩ : ∃ b, b ∈ bs ∧ V.ref b = v := by
      have := List.mem_of_getElem? hv
      obtain ⟨b, h1, h2⟩ := List.mem_map.mp this
      exact ⟨b, h1, h2⟩
    walk_at "v"
    refine ⟨b, 3, 26, rfl, (h2.2 b hb).1, by decide, by decide, by decide, fun v0 r0 H3 d3 hl0 hok0 _ hr0 => ?_⟩
    walk_at "v"
    refine w_lenR hr0 ?_
    walk_at "v"
    refine ⟨b, (r0.length : Nat) + 1, rfl, d3.b1, by omega, fun i H4 hi d4 => ?_⟩
    walk_at "v"
    refine ⟨b, rfl, d4.b1, fun vf f H5 d5 hfc hf hvf => ?_⟩
    walk_at "v"
    have hi' : i ≤ r0.length := by omega
    have hr5 := d5.row (d4.row hr0)
    have dA := (d3.trans d4).trans d5
    refine w_slR_to hr5 fun v1 H6 s6 hv1 => ?_
    walk_at "v"
    refine ⟨szOk 1, fun t1 n1 => ?_⟩
    have m1 := same_new (o := .tup [vf]) n1
    refine w_catR (r2 := [f]) (m1.dat hv1) (.tup sqT_new (.cons (m1.dat (s6.dat hvf)) .nil)) (by rw [List.length_take]; show _ + 1 ≤ 10000; omega) fun v2 H7 s7 hv2 => ?_
    walk_at "v"
    refine w_slR_from (k := i) (s7.dat (m1.dat (s6.dat hr5))) fun v3 H8 s8 hv3 => ?_
    refine w_catR (s8.dat hv2) hv3 (by rw [List.length_append, List.length_take, List.length_drop]; show _ + 1 + _ ≤ 10000; omega) fun hv H9 s9 hr => ?_
    have s59 := (((s6.trans m1).trans s7).trans s8).trans s9
    have dB := dA.same s59
    have hvf9 := s59.dat hvf
    have hrl : ((r0.take i ++ [f]) ++ r0.drop i).length = r0.length + 1 := by
      rw [List.length_append, List.length_append, List.length_take, List.length_drop]
      show min i r0.length + 1 + (r0.length - i) = r0.length + 1
      omega
    have hrok := splice_ok0 (i := i) hok0 (mid := [f]) fun g hg => by rw [List.mem_singleton.mp hg]; exact hf
    have hct := cut_take (mid := [f]) (rest := r0.drop i) hi'
    have hcd := cut_drop (x := f) (rest := r0.drop i) hi'
    generalize hre : (r0.take i ++ [f]) ++ r0.drop i = r at hr hrl hrok hct hcd
    have hback : (r.take i ++ [f]) ++ r.drop (i + 1) = r := by rw [hct, hcd]; exact hre
    have hR : Row.Ok r := ⟨by omega, hrok⟩
    have hir : i < r.length := by omega
    have hfC : isC f = true := isC_of hfc hf
    clear hre hct hcd hvf hv3 hv2 s59 s9 s8 s7 m1 n1 hv1 s6 dA hr5 d5 d4 d3 hr0 hok0
    walk_at "v"
    refine ⟨szOk 0, fun pa npa => ?_⟩
    walk_at "v"
    have nepb : pa ≠ b := bag_ne dB.b1 npa
    have dE := Dr.of_same (same_new (o := .lst []) npa) dB.b1
    refine ⟨b, 10, rfl, dE.b1, by decide, fun n H12 hn3 d12 => ?_⟩
    walk_at "v"
    refine ⟨1 + ((n : Nat) : Int), rfl, by omega, by omega, ?_⟩
    refine for_range (lo := 0) (n := (1 + ((n : Nat) : Int)).toNat) (fun k σ H' => ∃ (z6 z7 : Option V) (ps : List (List Nat × List Nat)) (xs : List V), σ = [some (.ref a), some (.ref b), some hv, some (.int (i : Nat)), some vf, some (.ref pa), z6, z7, y8, y9, y10, y11, none, none] ∧
      Dr K b H9 H' ∧ H' pa = some (.lst xs) ∧ DpAll K H' xs (ps.map pairD) ∧ ps.length = k ∧ (∀ p ∈ ps, WordOk p.1 ∧ WordOk p.2) ∧ ∀ p ∈ ps, comes r p.1 = p.2) ?_ ?_ ?_
    · exact ⟨_, _, [], [], rfl, dE.trans d12, d12.at upd_same nepb, .nil, rfl, (fun p hp => by cases hp), fun p hp => by cases hp⟩
    · rintro k σ H13 hk ⟨z6, z7, ps, xs, rfl, dr, hpa, hxs, hpl, hps, hpc⟩
      have hk3 : k < 10 := by omega
      have hxl : xs.length = k := by rw [hxs.len, List.length_map, hpl]
      walk_at "v"
      refine ⟨b, 12, 26, rfl, dr.b1, by decide, by decide, by decide, fun w H14 hwl hws d14 => ?_⟩
      have hw : WordOk w := ⟨by omega, fun c hc => isSmall_of (hws c hc).1 (by have := (hws c hc).2; omega)⟩
      have hpa14 := d14.at hpa nepb
      walk_at "v"
      refine ⟨hv, r, w, rfl, (dr.trans d14).row hr, hR, hw, fun H15 s15 => ?_⟩
      have hlc := comes_len2 r w
      have hp2 : 2 ^ r.length ≤ 2 ^ 4 := Nat.pow_le_pow_right (by decide) hR.1
      have hlc2 : (comes r w).length ≤ 192 := Nat.le_trans hlc (Nat.le_trans (Nat.mul_le_mul hp2 hwl) (by decide))
      have hcs := comes_small hR.2 hw.2
      have hwc : WordOk (comes r w) := ⟨by omega, hcs⟩
      walk_at "v"
      refine ⟨szOk 2, fun tp ntp => ?_⟩
      have dG := (dr.trans d14).same s15
      have hpa17 := (same_new (o := .tup [.str (tx w), .str (tx (comes r w))]) ntp) _ _ (s15 _ _ (d14.at hpa nepb))
      have dH := dG.new (o := .tup [.str (tx w), .str (tx (comes r w))]) ntp
      have hnew : Dp K (upd H15 tp (.tup [.str (tx w), .str (tx (comes r w))])) (.ref tp) (pairD (w, comes r w)) := .tup sqT_new (.cons (.str _) (.cons (.str _) .nil))
      have hxs17 : DpAll K (upd H15 tp (.tup [.str (tx w), .str (tx (comes r w))])) xs (ps.map pairD) := (same_new ntp).dpAll _ _ (s15.dpAll _ _ (d14.tp.dpAll _ _ (noLs_pairs ps) hxs))
      generalize upd H15 tp (.tup [.str (tx w), .str (tx (comes r w))]) = H18 at hpa17 dH hnew hxs17
      walk_at "v"
      refine w_append hpa17 (szLt _ (by omega)) ?_
      walk_at "v"
      have mvo : Mv pa H18 (upd H18 pa (.lst (xs ++ [.ref tp]))) := mv_set hpa17
      refine ⟨_, _, ps ++ [(w, comes r w)], xs ++ [.ref tp], rfl, dH.mut npa (bag_mut K dH.b1 hpa17 (by omega) nepb), upd_same, ?_, by rw [List.length_append, hpl]; rfl, fun p hp => ?_, fun p hp => ?_⟩
      · rw [List.map_append]
        exact (mvo.tp.dpAll _ _ (noLs_pairs ps) hxs17).app (.cons (mvo.tp.dp _ _ rfl hnew) .nil)
      · rcases List.mem_append.mp hp with hp | hp
        · exact hps p hp
        · rw [List.mem_singleton.mp hp]
          exact ⟨hw, hwc⟩
      · rcases List.mem_append.mp hp with hp | hp
        · exact hpc p hp
        · rw [List.mem_singleton.mp hp]
    · rintro σ H13 ⟨z6, z7, ps, xs, rfl, dr, hpa, hxs, hpl, hps, hpc⟩
      have hp1 : 1 ≤ ps.length := by omega
      have hp10 : ps.length ≤ 10 := by omega
      clear hpl
      have dI := dB.trans dr
      have hr13 := dr.row hr
      have hvf13 := dr.tp.dp _ _ (noL_folk f) hvf9
      have nfr : ∀ o, H13 o = none → H9 o = none := fun o h => dr.fr h
      have hb13 := dr.b1
      clear hr hvf9 dE npa d12 dB
      have hxl : xs.length = ps.length := by rw [hxs.len, List.length_map]
      -- told
      walk_at "v"
      refine w_tupL (sqL_at hpa) fun tp ntp => ?_
      have sT := same_new (o := .tup xs) ntp
      have hpp : Dp K (upd H13 tp (.tup xs)) (.ref tp) (pairsD ps) := .tup sqT_new (sT.dpAll _ _ hxs)
      walk_at "v"
      refine ⟨hv, .ref tp, r, i, ps, rfl, sT.dat hr13, hR, hir, hpp, hp1, hp10, hps, fun to ts H17 s17 nto hto hts => ?_⟩
      have s137 := sT.trans s17
      have hr17 := s137.dat hr13
      have hvf17 := s137.dat hvf13
      have hpa17 := s137 _ _ hpa
      have hxs17 := s137.dpAll _ _ hxs
      have dr17 := dr.same s137
      have dJ17 := dI.same s137
      have neto : to ≠ b := bag_ne (bag_same hb13 sT) nto
      clear hpp s17 sT ntp hr13 hvf13 hpa hxs s137
      have htl : ts.length = (whoCan r i ps).length := by rw [hts.len, List.length_map]
      have hmem : f ∈ whoCan r i ps := (mem_whoCan hfC).mpr (List.all_eq_true.mpr fun p hp => bD_t (by rw [hback]; exact hpc p hp))
      walk_at "v"
      refine w_ifNo (Same H17) (fun QT k => ?_) (fun H18 s18 => ?_)
      · walk_at "v"
        refine w_notInF K hvf17 hto hts hfC isC_who ?_
        rw [bD_t hmem]
        walk_at "v"
        refine iteF ?_
        walk_at "v"
        refine w_sortV K (a := to) (xs := ts) (p := canBe r i ps) rfl hto hts fun o no => ?_
        have sO := same_new (o := .lst ts) no
        refine w_neFL K (sO _ _ hto) upd_same (sO.dpAll _ _ hts) (sO.dpAll _ _ hts) (fun g hg => isC_ok (isC_who g hg)) ?_
        walk_at "v"
        exact k _ sO
      have hr18 := s18.dat hr17
      have hpa18 := s18 _ _ hpa17
      have hxs18 := s18.dpAll _ _ hxs17
      have hto18 := s18 _ _ hto
      have hts18 := s18.dpAll _ _ hts
      have dr18 := dr17.same s18
      have dJ18 := dJ17.same s18
      clear hvf17 hto hts hr17 hpa17 hxs17 s18 dr17
      walk_at "v"
      refine w_ifNo (Same H18) (fun QT k => ?_) (fun H19 s19 => ?_)
      · walk_at "v"
        refine w_slR_to hr18 fun v1 G1 e1 hv1 => ?_
        walk_at "v"
        refine ⟨szOk 3, fun t1 n1 => ?_⟩
        walk_at "v"
        refine ⟨szOk 1, fun t2 n2 => ?_⟩
        have ea : (("a" : Str)) = sg 97 := by decide +kernel
        have eb : (("b" : Str)) = sg 98 := by decide +kernel
        have hh : Dp K (upd (upd G1 t1 (.tup [.str "hears", .str "a", .str "b"])) t2 (.tup [.ref t1])) (.ref t2) (rowD [.hears 97 98]) := .tup sqT_new (.cons (folk_of (f := .hears 97 98) (sqT_at ((same_new n2) _ _ (by rw [upd_same, ea, eb]; rfl)))) .nil)
        have m12 := (same_new (o := .tup [.str "hears", .str "a", .str "b"]) n1).trans (same_new (o := .tup [.ref t1]) n2)
        generalize upd (upd G1 t1 (.tup [.str "hears", .str "a", .str "b"])) t2 (.tup [.ref t1]) = G2 at hh m12
        refine w_catR (r2 := [.hears 97 98]) (m12.dat hv1) hh (by rw [List.length_take]; show _ + 1 ≤ 10000; omega) fun v2 G3 e3 hv2 => ?_
        walk_at "v"
        rw [show ((i : Nat) : Int) + 1 = ((i + 1 : Nat) : Int) by omega]
        have e13 := (e1.trans m12).trans e3
        refine w_slR_from (k := i + 1) (e13.dat hr18) fun v3 G4 e4 hv3 => ?_
        refine w_catR (e4.dat hv2) hv3 (by rw [List.length_append, List.length_take, List.length_drop]; show _ + 1 + _ ≤ 10000; omega) fun ov G5 e5 hov => ?_
        have e15 := (e13.trans e4).trans e5
        have hook := splice_ok (i := i) hrok (mid := [.hears 97 98]) fun g hg => by rw [List.mem_singleton.mp hg]; rfl
        have hol : ((r.take i ++ [Folk.hears 97 98]) ++ r.drop (i + 1)).length = r.length := by
          rw [List.length_append, List.length_append, List.length_take, List.length_drop]
          show min i r.length + 1 + (r.length - (i + 1)) = r.length
          omega
        have hsame : whoCan ((r.take i ++ [Folk.hears 97 98]) ++ r.drop (i + 1)) i ps = whoCan r i ps := can_congr (cut_take (by omega)) (cut_drop (by omega))
        generalize (r.take i ++ [Folk.hears 97 98]) ++ r.drop (i + 1) = o at hov hook hol hsame
        have hpa5 := e15 _ _ hpa18
        have hxs5 := e15.dpAll _ _ hxs18
        walk_at "v"
        refine w_tupL (sqL_at hpa5) fun tp ntp => ?_
        have sT := same_new (o := .tup xs) ntp
        have hpp : Dp K (upd G5 tp (.tup xs)) (.ref tp) (pairsD ps) := .tup sqT_new (sT.dpAll _ _ hxs5)
        walk_at "v"
        refine ⟨ov, .ref tp, o, i, ps, rfl, sT.dat hov, ⟨by omega, hook⟩, by omega, hpp, hp1, hp10, hps, fun to2 ts2 G6 e6 nto2 hto2 hts2 => ?_⟩
        rw [hsame] at hts2
        have e16 := (e15.trans sT).trans e6
        walk_at "v"
        refine w_neFL K hto2 (e16 _ _ hto18) hts2 (e16.dpAll _ _ hts18) (fun g hg => isC_ok (isC_who g hg)) ?_
        walk_at "v"
        exact k _ e16
      have hr19 := s19.dat hr18
      have hpa19 := s19 _ _ hpa18
      have hxs19 := s19.dpAll _ _ hxs18
      have hto19 := s19 _ _ hto18
      have hts19 := s19.dpAll _ _ hts18
      have dr19 := dr18.same s19
      have dJ19 := dJ18.same s19
      clear hto18 hts18 hr18 hpa18 hxs18 s19 dr18
      have htl1 : 1 ≤ ts.length := by
        have := List.length_pos_of_mem hmem
        omega
      walk_at "v"
      refine ⟨6, rfl, by decide, by decide, ?_⟩
      refine for_range (lo := 0) (n := ((6 : Int)).toNat) (fun k σ H' => ∃ (z6 z9 z10 : Option V), σ = [some (.ref a), some (.ref b), some hv, some (.int (i : Nat)), some vf, some (.ref pa), z6, z7, some (.ref to), z9, z10, y11, none, none] ∧ Dr K b H19 H') ?_ ?_ ?_
      · exact ⟨_, _, _, rfl, Dr.of_same (Same.refl _) dr19.b1⟩
      · rintro kt σ G0 hk ⟨z6, z9, z10, rfl, dr⟩
        have hto0 := dr.at hto19 neto
        have hts0 := dr.tp.dpAll _ _ (noLs_folks _) hts19
        have hpa0 := dr.at hpa19 nepb
        have hxs0 := dr.tp.dpAll _ _ (noLs_pairs ps) hxs19
        have hr0 := dr.row hr19
        walk_at "v"
        refine ⟨b, rfl, dr.b1, fun vg g G1 e1 hgc hg hvg => ?_⟩
        have hto1 := e1.at hto0 neto
        walk_at "v"
        refine ⟨b, (ts.length : Nat), rfl, e1.b1, by omega, fun j G2 hj e2 => ?_⟩
        have hto2 := e2.at hto1 neto
        have hts2 := e2.tp.dpAll _ _ (noLs_folks _) (e1.tp.dpAll _ _ (noLs_folks _) hts0)
        have hvg2 := e2.tp.dp _ _ (noL_folk g) hvg
        obtain ⟨x2, hx2⟩ : ∃ x2, ts[j]? = some x2 := ⟨_, List.getElem?_eq_getElem (show j < ts.length by omega)⟩
        obtain ⟨d2, hd2, dx2⟩ := hts2.get hx2
        obtain ⟨g2, hg2, rfl⟩ : ∃ g2, g2 ∈ whoCan r i ps ∧ folkD g2 = d2 := by
          obtain ⟨g2, h1, h2⟩ := List.mem_map.mp (List.mem_of_getElem? hd2)
          exact ⟨g2, h1, h2⟩
        refine w_ixL (sqL_at hto2) (atI_nat hx2) ?_
        walk_at "v"
        refine ⟨szOk 2, fun ol nol => ?_⟩
        walk_at "v"
        have dd := (dr.trans e1).trans e2
        have neo : ol ≠ b := bag_ne dd.b1 nol
        have dd3 := dd.new (o := .lst [vg, x2]) nol
        refine ⟨b, 2, rfl, dd3.b1, by decide, fun j2 G4 hj2 e4 => ?_⟩
        have hol : G4 ol = some (.lst [vg, x2]) := e4.at upd_same neo
        have hvg4 := e4.tp.dp _ _ (noL_folk g) ((same_new (o := .lst [vg, x2]) nol).dat hvg2)
        have hx4 := e4.tp.dp _ _ (noL_folk g2) ((same_new (o := .lst [vg, x2]) nol).dat dx2)
        have dd4 := dd3.trans e4
        obtain ⟨vo, o, hat, hvo, hoC⟩ : ∃ vo o, atI [vg, x2] (j2 : Int) = some vo ∧ Dp K G4 vo (folkD o) ∧ isC o = true := by
          match j2, hj2 with
          | 0, _ => exact ⟨vg, g, rfl, hvg4, isC_of hgc hg⟩
          | 1, _ => exact ⟨x2, g2, rfl, hx4, isC_who g2 hg2⟩
        refine w_ixL (sqL_at hol) hat ?_
        have hto4 := dd4.at hto19 neto
        have hts4 := dd4.tp.dpAll _ _ (noLs_folks _) hts19
        have hpa4 := dd4.at hpa19 nepb
        have hxs4 := dd4.tp.dpAll _ _ (noLs_pairs ps) hxs19
        have hr4 := dd4.row hr19
        clear hat hx4 hvg4 hol e4 dd3 neo nol dd dx2 hd2 hg2 hx2 hvg2 hts2 hto2 e2 hto1 hgc hg hvg e1 hto0 hts0 hpa0 hxs0 hr0 dr
        walk_at "v"
        refine w_slR_to hr4 fun v1 G5 e5 hv1 => ?_
        walk_at "v"
        refine ⟨szOk 1, fun t2 n2 => ?_⟩
        have m2 := same_new (o := .tup [vo]) n2
        refine w_catR (r2 := [o]) (m2.dat hv1) (.tup sqT_new (.cons (m2.dat (e5.dat hvo)) .nil)) (by rw [List.length_take]; show _ + 1 ≤ 10000; omega) fun v2 G6 e6 hv2 => ?_
        walk_at "v"
        rw [show ((i : Nat) : Int) + 1 = ((i + 1 : Nat) : Int) by omega]
        have e56 := (e5.trans m2).trans e6
        refine w_slR_from (k := i + 1) (e56.dat hr4) fun v3 G7 e7 hv3 => ?_
        refine w_catR (e7.dat hv2) hv3 (by rw [List.length_append, List.length_take, List.length_drop]; show _ + 1 + _ ≤ 10000; omega) fun fv G8 e8 hfv => ?_
        have e58 := (e56.trans e7).trans e8
        have hook := splice_ok (i := i) hrok (mid := [o]) fun g hg => by rw [List.mem_singleton.mp hg]; exact isC_ok hoC
        have hool : ((r.take i ++ [o]) ++ r.drop (i + 1)).length = r.length := by
          rw [List.length_append, List.length_append, List.length_take, List.length_drop]
          show min i r.length + 1 + (r.length - (i + 1)) = r.length
          omega
        have hmiss := miss_iff (r := r) (i := i) (ps := ps) (f := o)
        generalize (r.take i ++ [o]) ++ r.drop (i + 1) = ro at hfv hook hool hmiss
        have hRo : Row.Ok ro := ⟨by omega, hook⟩
        have hto8 := e58 _ _ hto4
        have hts8 := e58.dpAll _ _ hts4
        have hpa8 := e58 _ _ hpa4
        have hxs8 := e58.dpAll _ _ hxs4
        have hvo8 := e58.dat hvo
        have dd8 := dd4.same e58
        clear e58 e8 hv3 e7 e56 hv2 e6 m2 n2 hv1 e5 hvo hr4 hpa4 hxs4 hts4 hto4 dd4
        walk_at "v"
        refine w_ifNo (Same G8) (fun QT k => ?_) (fun G9 e9 => ?_)
        · walk_at "v"
          intro D nD
          refine lc_same (walk_list (K := K) (a := pa) (xs := xs)) nD [some (.ref a), some (.ref b), some hv, some (.int (i : Nat)), some vf, some (.ref pa), some (.int (0 + (kt : Nat))), z7, some (.ref to), some vo, some fv, y11, none, none] rfl (fun k => List.replicate (missN ro (ps.take k)) (.int 1)) rfl (fun H3 s => s.seq (sqL_at hpa8)) (fun k v H3 H3' hk z yy => ?_) (fun H3 s3 hD => ?_)
          · obtain ⟨rfl, hv''⟩ := yy
            obtain ⟨p', hp', dp⟩ := pair_get K hxs8 hv''
            have hpo := hps p' (List.mem_of_getElem? hp')
            obtain ⟨pt, rfl, hpt⟩ := pair_inv K (z.1.dat dp)
            have hm : missN ro (ps.take (k + 1)) = missN ro (ps.take k) + (if bD (comes ro p'.1 = p'.2) = true then 0 else 1) := by
              unfold missN
              rw [List.take_add_one, hp', List.filter_append, List.length_append]
              rw [show (some p').toList = [p'] from rfl, List.filter_cons, List.filter_nil]
              cases bD (comes ro p'.1 = p'.2) <;> rfl
            walk_at "v"
            refine ⟨rfl, ?_⟩
            walk_at "v"
            refine ⟨fv, ro, p'.1, rfl, z.1.dat hfv, hRo, hpo.1, fun H4' s4' => ?_⟩
            walk_at "v"
            rw [bD_congr (⟨tx_inj, congrArg tx⟩ : tx (comes ro p'.1) = tx p'.2 ↔ comes ro p'.1 = p'.2)]
            cases hcc : bD (comes ro p'.1 = p'.2) with
            | true =>
              refine iteF ?_
              exact lc_skip z s4' (by rw [hm, hcc]; rfl)
            | false =>
              refine iteT ?_
              walk_at "v"
              refine lc_put nD z s4' (szLt _ ?_) ?_
              · rw [List.length_replicate]
                have : missN ro (ps.take k) ≤ (ps.take k).length := List.length_filter_le _ _
                rw [List.length_take] at this
                omega
              · rw [hm, hcc]
                exact List.replicate_succ'
          · rw [hxl, List.take_length] at hD
            walk_at "v"
            refine ⟨szOk 0, fun ee nee => ?_⟩
            refine w_eqOnes K ((same_new nee) _ _ hD) upd_same ?_
            have sx := s3.trans (same_new (o := .lst []) nee)
            walk_at "v"
            refine w_inF K (sx.dat hvo8) (sx _ _ hto8) (sx.dpAll _ _ hts8) hoC isC_who ?_
            rw [hmiss, bD_congr (mem_whoCan hoC (r := r) (i := i) (ps := ps))]
            have e0 : bD (canBe r i ps o = true) = canBe r i ps o := by
              cases c : canBe r i ps o with
              | true => exact bD_t rfl
              | false => exact bD_f (fun h => Bool.false_ne_true h)
            rw [e0]
            refine w_neV rfl ?_
            rw [decide_eq_true rfl]
            walk_at "v"
            exact k _ sx
        · walk_at "v"
          exact ⟨_, _, _, rfl, dd8.same e9⟩
      rintro σ H20 ⟨z6', z9, z10, rfl, dr20⟩
      have hto20 := dr20.at hto19 neto
      have hts20 := dr20.tp.dpAll _ _ (noLs_folks _) hts19
      have hpa20 := dr20.at hpa19 nepb
      have hxs20 := dr20.tp.dpAll _ _ (noLs_pairs ps) hxs19
      have hr20 := dr20.row hr19
      clear hto19 hts19 hpa19 hxs19 hr19
      walk_at "v"
      refine w_slA_to1 K (k := 1) (sqL_at hpa20) fun o1 no1 => ?_
      have c1 := same_new (o := .lst (xs.take 1)) no1
      walk_at "v"
      refine w_tupL (sqL_at upd_same) fun tp ntp => ?_
      have sT := c1.trans (same_new (o := .tup (xs.take 1)) ntp)
      have hpp : Dp K (upd (upd H20 o1 (.lst (xs.take 1))) tp (.tup (xs.take 1))) (.ref tp) (pairsD (ps.take 1)) := .tup sqT_new (by rw [List.map_take]; exact (sT.dpAll _ _ hxs20).take 1)
      have hl1 : (ps.take 1).length = 1 := by
        rw [List.length_take]
        omega
      walk_at "v"
      refine ⟨hv, .ref tp, r, i, ps.take 1, rfl, sT.dat hr20, hR, hir, hpp, by omega, by omega, fun p hp => hps p (List.mem_of_mem_take hp), fun fo fs H21 s21 nfo hfo hfs => ?_⟩
      have s2021 := sT.trans s21
      have hto21 := s2021 _ _ hto20
      have hts21 := s2021.dpAll _ _ hts20
      have dr21 := (dJ19.trans dr20).same s2021
      walk_at "v"
      refine w_ifNo (Same H21) (fun QT k => ?_) (fun H22 s22 => ?_)
      · walk_at "v"
        intro D nD
        refine lc_same (walk_list (K := K) (a := to) (xs := ts)) nD [some (.ref a), some (.ref b), some hv, some (.int (i : Nat)), some vf, some (.ref pa), z6', z7, some (.ref to), none, z10, some (.ref fo), none, none] rfl (fun _ => []) rfl (fun H3 s => s.seq (sqL_at hto21)) (fun k v H3 H3' hk z yy => ?_) (fun H3 s3 hD => ?_)
        · obtain ⟨rfl, hv''⟩ := yy
          obtain ⟨d, hd, dx⟩ := hts21.get hv''
          obtain ⟨g, hg, rfl⟩ : ∃ g, g ∈ whoCan r i ps ∧ folkD g = d := by
            obtain ⟨g2, h1, h2⟩ := List.mem_map.mp (List.mem_of_getElem? hd)
            exact ⟨g2, h1, h2⟩
          walk_at "v"
          refine ⟨rfl, ?_⟩
          walk_at "v"
          refine w_notInF K (z.1.dat dx) (z.1 _ _ hfo) (z.1.dpAll _ _ hfs) (isC_who g hg) isC_who ?_
          rw [bD_t (can_fewer hg)]
          walk_at "v"
          refine iteF ?_
          exact lc_skip z (Same.refl _) rfl
        · walk_at "v"
          refine ⟨szOk 0, fun ee nee => ?_⟩
          refine w_neFL K (r := []) ((same_new nee) _ _ hD) upd_same .nil .nil (fun g hg => by cases hg) ?_
          walk_at "v"
          exact k _ (s3.trans (same_new (o := .lst []) nee))
      walk_at "v"
      have := bags_dr K (dr21.same s22) h2 hb
      exact ⟨_, _, _, _, _, _, _, _, _, _, _, rfl, this.1, this.2⟩
  · rintro σ H2 ⟨y1, y2, y3, y4, y5, y6, y7, y8, y9, y10, y11, rfl, h2, _⟩
    walk_at "v"
    exact q _
end
end HH

namespace HH
open PySem PySem.Spec L2
def topS (i : Nat) : Stmt := PySem.Challenge.pw_halfheard_k11_whole_unknown_ones.main.body.getD i (.Pass ⟨0, 0, 0, 0⟩)
section
variable {P : Program} {w : World} {K : PySem.W.Frag} {mg : Str → Option Value} {base : Heap} {tS tF tM tN tT : Tok}
abbrev s_is_within : Stmt := topS 8
abbrev N_is_within : List Str := ["thing", "low", "high"]
theorem sc_is_within : FnScope N_is_within ["thing", "low", "high"] (defScope s_is_within) := ⟨rfl, rfl, rfl, by decide +kernel, rfl, by decide +kernel, by decide +kernel⟩
theorem ok_is_within {f : Addr} {fd : FuncData} (F : Fun K "is_within" "is_within" s_is_within f fd) (gf : mg "is_within" = some (.ref f)) (nb_isinstance : mg "isinstance" = none) (nb_bool : mg "bool" = none) (nb_int : mg "int" = none) :
    DefOk P w K mg base CX0 1 "is_within" ["thing", "low", "high"] (sp_is_within K) := by
  refine DefOk.of F gf (fun _ _ _ _ _ _ us hl => match us, hl with | [_, _, _], _ => rfl) (F.ok sc_is_within (len_is_within K) (fun cdv A outer s H vs Q E hr h => ⟨t_is_within K, ?_, sem_is_within K vs H Q E h⟩))
  exact (pss_one (ps_ret (pe_and (pe_callB call_isi rfl nb_isinstance (by decide +kernel) (pa_cons (pv 0) (pa_cons (pe_bltn (v := .ty "int") rfl nb_int (by decide +kernel) rfl) pa_nil))) (pe_and (pe_not (pe_callB call_isi rfl nb_isinstance (by decide +kernel) (pa_cons (pv 0) (pa_cons (pe_bltn (v := .ty "bool") rfl nb_bool (by decide +kernel) rfl) pa_nil)))) (pe_one (pe_chain op_leI op_leI (pv 1) (pv 0) (pv 2)))))))

abbrev s_is_letter : Stmt := topS 9
abbrev N_is_letter : List Str := ["thing"]
theorem sc_is_letter : FnScope N_is_letter ["thing"] (defScope s_is_letter) := ⟨rfl, rfl, rfl, by decide +kernel, rfl, by decide +kernel, by decide +kernel⟩
theorem ok_is_letter {f : Addr} {fd : FuncData} (F : Fun K "is_letter" "is_letter" s_is_letter f fd) (gf : mg "is_letter" = some (.ref f)) (nb_len : mg "len" = none) (nb_isinstance : mg "isinstance" = none) (nb_str : mg "str" = none) (nc_SMALL : mg "SMALL" = some (.str "abcdefghijklmnopqrstuvwxyz" tS)) :
    DefOk P w K mg base CX0 1 "is_letter" ["thing"] (sp_is_letter K) := by
  refine DefOk.of F gf (fun _ _ _ _ _ _ us hl => match us, hl with | [_], _ => rfl) (F.ok sc_is_letter (len_is_letter K) (fun cdv A outer s H vs Q E hr h => ⟨t_is_letter K, ?_, sem_is_letter K vs H Q E h⟩))
  exact (pss_one (ps_ret (pe_and (pe_callB call_isi rfl nb_isinstance (by decide +kernel) (pa_cons (pv 0) (pa_cons (pe_bltn (v := .ty "str") rfl nb_str (by decide +kernel) rfl) pa_nil))) (pe_and (pe_cmpR op_eq (pe_callB cr_lenT rfl nb_len (by decide +kernel) (pa_cons (pv 0) pa_nil)) pe_int (nomark _)) (pe_one (pe_cmpR op_inC (pv 0) (pe_glob rfl nc_SMALL ⟨_, rfl⟩) (by rfl)))))))

abbrev s_is_word : Stmt := topS 10
abbrev N_is_word : List Str := ["thing", "sign"]
theorem sc_is_word : FnScope N_is_word ["thing"] (defScope s_is_word) := ⟨rfl, rfl, rfl, by decide +kernel, rfl, by decide +kernel, by decide +kernel⟩
theorem ok_is_word {f : Addr} {fd : FuncData} (F : Fun K "is_word" "is_word" s_is_word f fd) (gf : mg "is_word" = some (.ref f)) (nb_all : mg "all" = none) (nb_len : mg "len" = none) (nb_isinstance : mg "isinstance" = none) (nb_str : mg "str" = none) (nc_SMALL : mg "SMALL" = some (.str "abcdefghijklmnopqrstuvwxyz" tS)) :
    DefOk P w K mg base CX0 1 "is_word" ["thing"] (sp_is_word K) := by
  refine DefOk.of F gf (fun _ _ _ _ _ _ us hl => match us, hl with | [_], _ => rfl) (F.ok sc_is_word (len_is_word K) (fun cdv A outer s H vs Q E hr h => ⟨t_is_word K, ?_, sem_is_word K vs H Q E h⟩))
  exact (pss_one (ps_ret (pe_and (pe_callB call_isi rfl nb_isinstance (by decide +kernel) (pa_cons (pv 0) (pa_cons (pe_bltn (v := .ty "str") rfl nb_str (by decide +kernel) rfl) pa_nil))) (pe_and (pe_cmpR op_leI (pe_callB cr_lenT rfl nb_len (by decide +kernel) (pa_cons (pv 0) pa_nil)) pe_int (nomark _)) (pe_one (pe_callB (cr_all rfl) rfl nb_all (by decide +kernel) (pa_cons (pe_lc (own := [("sign", 1)]) rfl sc_is_word.nd (pi_str (pv 0)) (blkOk_by (own := [("sign", 1)]) (N := N_is_word) (sc := defScope s_is_word) (by decide +kernel))
    (fun _ _ _ _ _ => (pg_name (i := 1) sc_is_word.nd rfl (Or.inl rfl))) (fun _ _ _ _ _ => pts_nil)
    (fun _ _ _ _ _ => (pe_cmpR op_inC (pv 1) (pe_glob rfl nc_SMALL ⟨_, rfl⟩) (by rfl)))) pa_nil)))))))

abbrev s_is_one : Stmt := topS 11
abbrev N_is_one : List Str := ["thing"]
theorem sc_is_one : FnScope N_is_one ["thing"] (defScope s_is_one) := ⟨rfl, rfl, rfl, by decide +kernel, rfl, by decide +kernel, by decide +kernel⟩
theorem ok_is_one {f : Addr} {fd : FuncData} (F : Fun K "is_one" "is_one" s_is_one f fd) (gf : mg "is_one" = some (.ref f)) (nb_isinstance : mg "isinstance" = none) (nb_str : mg "str" = none) (nb_len : mg "len" = none) (nb_tuple : mg "tuple" = none) (D_is_letter : DefOk P w K mg base CX0 1 "is_letter" ["thing"] (sp_is_letter K)) (D_is_within : DefOk P w K mg base CX0 1 "is_within" ["thing", "low", "high"] (sp_is_within K)) :
    DefOk P w K mg base CX0 2 "is_one" ["thing"] (sp_is_one K) := by
  refine DefOk.of F gf (fun _ _ _ _ _ _ us hl => match us, hl with | [_], _ => rfl) (F.ok sc_is_one (len_is_one K) (fun cdv A outer s H vs Q E hr h => ⟨t_is_one K, ?_, sem_is_one K vs H Q E h⟩))
  exact (pss_cons (ps_if (PW.pt (pw_or (pt_not (pt_val (pe_callB call_isi rfl nb_isinstance (by decide +kernel) (pa_cons (pv 0) (pa_cons (pe_bltn (v := .ty "tuple") rfl nb_tuple (by decide +kernel) rfl) pa_nil))))) (pw_or (pt_cmpR op_ne (pe_callB cr_lenQ rfl nb_len (by decide +kernel) (pa_cons (pv 0) pa_nil)) pe_int (nomark _)) (pw_or1 (pt_not (pt_val (pe_callB call_isi rfl nb_isinstance (by decide +kernel) (pa_cons (pe_ix ix_tup (pv 0) pe_int (fun _ _ => rfl)) (pa_cons (pe_bltn (v := .ty "str") rfl nb_str (by decide +kernel) rfl) pa_nil))))))))) (pss_one (ps_ret pe_bl)) pss_nil)
  (pss_cons (ps_if (pt_cmpR op_eq (pe_ix ix_tup (pv 0) pe_int (fun _ _ => rfl)) pe_str (nomark _)) (pss_one (ps_ret (pe_and (pe_d D_is_letter (hr.mono (by decide)) rfl (pa_cons (pe_ix ix_tup (pv 0) pe_int (fun _ _ => rfl)) pa_nil)) (pe_and (pe_d D_is_letter (hr.mono (by decide)) rfl (pa_cons (pe_ix ix_tup (pv 0) pe_int (fun _ _ => rfl)) pa_nil)) (pe_one (pe_cmpR op_ne (pe_ix ix_tup (pv 0) pe_int (fun _ _ => rfl)) (pe_ix ix_tup (pv 0) pe_int (fun _ _ => rfl)) (nomark _))))))) pss_nil)
  (pss_cons (ps_if (PW.pt (pw_or (pt_cmpR op_notIn_seq (pe_ix ix_tup (pv 0) pe_int (fun _ _ => rfl)) (pe_tup (pa_cons pe_str (pa_cons pe_str pa_nil))) (by rfl)) (pw_or1 (pt_not (pt_val (pe_d D_is_within (hr.mono (by decide)) rfl (pa_cons (pe_ix ix_tup (pv 0) pe_int (fun _ _ => rfl)) (pa_cons pe_int (pa_cons pe_int pa_nil))))))))) (pss_one (ps_ret pe_bl)) pss_nil)
  (pss_one (ps_ret (pe_d D_is_within (hr.mono (by decide)) rfl (pa_cons (pe_ix ix_tup (pv 0) pe_int (fun _ _ => rfl)) (pa_cons pe_int (pa_cons (pe_op op_subI (pe_ix ix_tup (pv 0) pe_int (fun _ _ => rfl)) pe_int) pa_nil)))))))))

abbrev s_is_row : Stmt := topS 12
abbrev N_is_row : List Str := ["thing", "one"]
theorem sc_is_row : FnScope N_is_row ["thing"] (defScope s_is_row) := ⟨rfl, rfl, rfl, by decide +kernel, rfl, by decide +kernel, by decide +kernel⟩
theorem ok_is_row {f : Addr} {fd : FuncData} (F : Fun K "is_row" "is_row" s_is_row f fd) (gf : mg "is_row" = some (.ref f)) (nb_all : mg "all" = none) (nb_len : mg "len" = none) (nb_isinstance : mg "isinstance" = none) (nb_tuple : mg "tuple" = none) (D_is_one : DefOk P w K mg base CX0 2 "is_one" ["thing"] (sp_is_one K)) :
    DefOk P w K mg base CX0 3 "is_row" ["thing"] (sp_is_row K) := by
  refine DefOk.of F gf (fun _ _ _ _ _ _ us hl => match us, hl with | [_], _ => rfl) (F.ok sc_is_row (len_is_row K) (fun cdv A outer s H vs Q E hr h => ⟨t_is_row K, ?_, sem_is_row K vs H Q E h⟩))
  exact (pss_one (ps_ret (pe_and (pe_callB call_isi rfl nb_isinstance (by decide +kernel) (pa_cons (pv 0) (pa_cons (pe_bltn (v := .ty "tuple") rfl nb_tuple (by decide +kernel) rfl) pa_nil))) (pe_and (pe_cmpR op_leI (pe_callB cr_lenQ rfl nb_len (by decide +kernel) (pa_cons (pv 0) pa_nil)) pe_int (nomark _)) (pe_one (pe_callB (cr_all rfl) rfl nb_all (by decide +kernel) (pa_cons (pe_lc (own := [("one", 1)]) rfl sc_is_row.nd (pi_tup (pv 0)) (blkOk_by (own := [("one", 1)]) (N := N_is_row) (sc := defScope s_is_row) (by decide +kernel))
    (fun _ _ _ _ _ => (pg_name (i := 1) sc_is_row.nd rfl (Or.inl rfl))) (fun _ _ _ _ _ => pts_nil)
    (fun _ _ _ _ _ => (pe_d D_is_one (hr.mono (by decide)) rfl (pa_cons (pv 1) pa_nil)))) pa_nil)))))))

abbrev s_need_row : Stmt := topS 13
abbrev N_need_row : List Str := ["row"]
theorem sc_need_row : FnScope N_need_row ["row"] (defScope s_need_row) := ⟨rfl, rfl, rfl, by decide +kernel, rfl, by decide +kernel, by decide +kernel⟩
theorem ok_need_row {f : Addr} {fd : FuncData} (F : Fun K "need_row" "need_row" s_need_row f fd) (gf : mg "need_row" = some (.ref f)) (D_is_row : DefOk P w K mg base CX0 3 "is_row" ["thing"] (sp_is_row K)) :
    DefOk P w K mg base CX0 4 "need_row" ["row"] (sp_need_row K) := by
  refine DefOk.of F gf (fun _ _ _ _ _ _ us hl => match us, hl with | [_], _ => rfl) (F.ok sc_need_row (len_need_row K) (fun cdv A outer s H vs Q E hr h => ⟨t_need_row K, ?_, sem_need_row K vs H Q E h⟩))
  exact (pss_one (ps_if (pt_not (pt_val (pe_d D_is_row (hr.mono (by decide)) rfl (pa_cons (pv 0) pa_nil)))) (pss_one ps_never) pss_nil))

abbrev s_need_word : Stmt := topS 14
abbrev N_need_word : List Str := ["word"]
theorem sc_need_word : FnScope N_need_word ["word"] (defScope s_need_word) := ⟨rfl, rfl, rfl, by decide +kernel, rfl, by decide +kernel, by decide +kernel⟩
theorem ok_need_word {f : Addr} {fd : FuncData} (F : Fun K "need_word" "need_word" s_need_word f fd) (gf : mg "need_word" = some (.ref f)) (D_is_word : DefOk P w K mg base CX0 1 "is_word" ["thing"] (sp_is_word K)) :
    DefOk P w K mg base CX0 2 "need_word" ["word"] (sp_need_word K) := by
  refine DefOk.of F gf (fun _ _ _ _ _ _ us hl => match us, hl with | [_], _ => rfl) (F.ok sc_need_word (len_need_word K) (fun cdv A outer s H vs Q E hr h => ⟨t_need_word K, ?_, sem_need_word K vs H Q E h⟩))
  exact (pss_one (ps_if (pt_not (pt_val (pe_d D_is_word (hr.mono (by decide)) rfl (pa_cons (pv 0) pa_nil)))) (pss_one ps_never) pss_nil))

abbrev s_said_by : Stmt := topS 15
abbrev N_said_by : List Str := ["one", "word", "kind", "every", "counted", "found", "sign"]
theorem sc_said_by : FnScope N_said_by ["one", "word"] (defScope s_said_by) := ⟨rfl, rfl, rfl, by decide +kernel, rfl, by decide +kernel, by decide +kernel⟩
theorem ok_said_by {f : Addr} {fd : FuncData} (F : Fun K "said_by" "said_by" s_said_by f fd) (gf : mg "said_by" = some (.ref f))  :
    DefOk P w K mg base CX0 1 "said_by" ["one", "word"] (sp_said_by K) := by
  refine DefOk.of F gf (fun _ _ _ _ _ _ us hl => match us, hl with | [_, _], _ => rfl) (F.ok sc_said_by (len_said_by K) (fun cdv A outer s H vs Q E hr h => ⟨t_said_by K, ?_, sem_said_by K vs H Q E h⟩))
  exact (pss_cons (ps_asg (pv 0) (pg_tup rfl (pgs_cons (pg_name (i := 2) sc_said_by.nd rfl (Or.inl rfl)) (pgs_cons (pg_name (i := 3) sc_said_by.nd rfl (Or.inl rfl)) (pgs_cons (pg_name (i := 4) sc_said_by.nd rfl (Or.inl rfl)) pgs_nil)))))
  (pss_cons (ps_asg (pe_lst pa_nil) (pg_name (i := 5) sc_said_by.nd rfl (Or.inl rfl)))
  (pss_cons (ps_for PassesOwn.never rfl (pi_str (pv 1)) (pg_name (i := 6) sc_said_by.nd rfl (Or.inl rfl))
  (pss_one (ps_if (pt_cmpR op_eq (pv 2) pe_str (nomark _)) (pss_one (ps_expr (pe_bm PySem.F.plainAttrs_list PySem.F.slot_list_append PySem.F.type_list_append mt_append (pv 5) (pa_cons (pe_ifExp (pt_cmpR op_eq (pv 6) (pv 3) (nomark _)) (pv 4) (pv 6)) pa_nil)))) (pss_cons (ps_asg (pe_op op_modI (pe_op op_addI (pv 4) pe_int) (pv 3)) (pg_name (i := 4) sc_said_by.nd rfl (Or.inl rfl)))
  (pss_one (ps_if (pt_cmpR op_gtI (pv 4) pe_int (nomark _)) (pss_one (ps_expr (pe_bm PySem.F.plainAttrs_list PySem.F.slot_list_append PySem.F.type_list_append mt_append (pv 5) (pa_cons (pv 6) pa_nil)))) (pss_one (ps_if (pt_cmpR op_eq (pv 2) pe_str (nomark _)) (pss_one (ps_expr (pe_bm PySem.F.plainAttrs_list PySem.F.slot_list_append PySem.F.type_list_append mt_append (pv 5) (pa_cons (pe_op op_addS (pv 6) (pv 6)) pa_nil)))) pss_nil))))))))
  (pss_one (ps_ret (pe_joinQ pe_str (pv 5)))))))

abbrev s_comes_out : Stmt := topS 16
abbrev N_comes_out : List Str := ["row", "word", "one"]
theorem sc_comes_out : FnScope N_comes_out ["row", "word"] (defScope s_comes_out) := ⟨rfl, rfl, rfl, by decide +kernel, rfl, by decide +kernel, by decide +kernel⟩
theorem ok_comes_out {f : Addr} {fd : FuncData} (F : Fun K "comes_out" "comes_out" s_comes_out f fd) (gf : mg "comes_out" = some (.ref f)) (D_said_by : DefOk P w K mg base CX0 1 "said_by" ["one", "word"] (sp_said_by K)) :
    DefOk P w K mg base CX0 2 "comes_out" ["row", "word"] (sp_comes_out K) := by
  refine DefOk.of F gf (fun _ _ _ _ _ _ us hl => match us, hl with | [_, _], _ => rfl) (F.ok sc_comes_out (len_comes_out K) (fun cdv A outer s H vs Q E hr h => ⟨t_comes_out K, ?_, sem_comes_out K vs H Q E h⟩))
  exact (pss_cons (ps_for PassesOwn.never rfl (pi_tup (pv 0)) (pg_name (i := 2) sc_comes_out.nd rfl (Or.inl rfl))
  (pss_one (ps_asg (pe_d D_said_by (hr.mono (by decide)) rfl (pa_cons (pv 2) (pa_cons (pv 1) pa_nil))) (pg_name (i := 1) sc_comes_out.nd rfl (Or.inl rfl)))))
  (pss_one (ps_ret (pv 1))))

abbrev s_out : Stmt := topS 17
abbrev N_out : List Str := ["row", "word"]
theorem sc_out : FnScope N_out ["row", "word"] (defScope s_out) := ⟨rfl, rfl, rfl, by decide +kernel, rfl, by decide +kernel, by decide +kernel⟩
theorem ok_out {f : Addr} {fd : FuncData} (F : Fun K "out" "out" s_out f fd) (gf : mg "out" = some (.ref f)) (D_need_row : DefOk P w K mg base CX0 4 "need_row" ["row"] (sp_need_row K)) (D_need_word : DefOk P w K mg base CX0 2 "need_word" ["word"] (sp_need_word K)) (D_comes_out : DefOk P w K mg base CX0 2 "comes_out" ["row", "word"] (sp_comes_out K)) :
    DefOk P w K mg base CX0 5 "out" ["row", "word"] (sp_out K) := by
  refine DefOk.of F gf (fun _ _ _ _ _ _ us hl => match us, hl with | [_, _], _ => rfl) (F.ok sc_out (len_out K) (fun cdv A outer s H vs Q E hr h => ⟨t_out K, ?_, sem_out K vs H Q E h⟩))
  exact (pss_cons (ps_expr (pe_d D_need_row (hr.mono (by decide)) rfl (pa_cons (pv 0) pa_nil)))
  (pss_cons (ps_expr (pe_d D_need_word (hr.mono (by decide)) rfl (pa_cons (pv 1) pa_nil)))
  (pss_one (ps_ret (pe_d D_comes_out (hr.mono (by decide)) rfl (pa_cons (pv 0) (pa_cons (pv 1) pa_nil)))))))

abbrev s_all_counters : Stmt := topS 19
abbrev N_all_counters : List Str := ["found", "kind", "every", "counted"]
theorem sc_all_counters : FnScope N_all_counters [] (defScope s_all_counters) := ⟨rfl, rfl, rfl, by decide +kernel, rfl, by decide +kernel, by decide +kernel⟩
theorem ok_all_counters {f : Addr} {fd : FuncData} (F : Fun K "all_counters" "all_counters" s_all_counters f fd) (gf : mg "all_counters" = some (.ref f)) (nb_range : mg "range" = none) :
    DefOk P w K mg base CX0 1 "all_counters" [] (sp_all_counters K) := by
  refine DefOk.of F gf (fun _ _ _ _ _ _ us hl => match us, hl with | [], _ => rfl) (F.ok sc_all_counters (len_all_counters K) (fun cdv A outer s H vs Q E hr h => ⟨t_all_counters K, ?_, sem_all_counters K vs H Q E h⟩))
  exact (pss_cons (ps_asg (pe_lst pa_nil) (pg_name (i := 0) sc_all_counters.nd rfl (Or.inl rfl)))
  (pss_cons (ps_for PassesOwn.never rfl (pi_tup (pe_tup (pa_cons pe_str (pa_cons pe_str pa_nil)))) (pg_name (i := 1) sc_all_counters.nd rfl (Or.inr rfl))
  (pss_one (ps_for PassesOwn.never rfl (pi_range2 rfl nb_range (pa_cons pe_int (pa_cons pe_int pa_nil))) (pg_name (i := 2) sc_all_counters.nd rfl (Or.inr rfl))
  (pss_one (ps_asg (pe_op op_cat (pv 0) (pe_lc (own := [("counted", 3)]) rfl sc_all_counters.nd (pi_range1 rfl nb_range (pa_cons (pv 2) pa_nil)) (blkOk_by (own := [("counted", 3)]) (N := N_all_counters) (sc := defScope s_all_counters) (by decide +kernel))
    (fun _ _ _ _ _ => (pg_name (i := 3) sc_all_counters.nd rfl (Or.inl rfl))) (fun _ _ _ _ _ => pts_nil)
    (fun _ _ _ _ _ => (pe_tup (pa_cons (pv 1) (pa_cons (pv 2) (pa_cons (pv 3) pa_nil))))))) (pg_name (i := 0) sc_all_counters.nd rfl (Or.inl rfl)))))))
  (pss_one (ps_ret (pv 0)))))

abbrev s_is_pair : Stmt := topS 20
abbrev N_is_pair : List Str := ["thing"]
theorem sc_is_pair : FnScope N_is_pair ["thing"] (defScope s_is_pair) := ⟨rfl, rfl, rfl, by decide +kernel, rfl, by decide +kernel, by decide +kernel⟩
theorem ok_is_pair {f : Addr} {fd : FuncData} (F : Fun K "is_pair" "is_pair" s_is_pair f fd) (gf : mg "is_pair" = some (.ref f)) (nb_len : mg "len" = none) (nb_isinstance : mg "isinstance" = none) (nb_tuple : mg "tuple" = none) (D_is_word : DefOk P w K mg base CX0 1 "is_word" ["thing"] (sp_is_word K)) :
    DefOk P w K mg base CX0 2 "is_pair" ["thing"] (sp_is_pair K) := by
  refine DefOk.of F gf (fun _ _ _ _ _ _ us hl => match us, hl with | [_], _ => rfl) (F.ok sc_is_pair (len_is_pair K) (fun cdv A outer s H vs Q E hr h => ⟨t_is_pair K, ?_, sem_is_pair K vs H Q E h⟩))
  exact (pss_one (ps_ret (pe_and (pe_callB call_isi rfl nb_isinstance (by decide +kernel) (pa_cons (pv 0) (pa_cons (pe_bltn (v := .ty "tuple") rfl nb_tuple (by decide +kernel) rfl) pa_nil))) (pe_and (pe_cmpR op_eq (pe_callB cr_lenQ rfl nb_len (by decide +kernel) (pa_cons (pv 0) pa_nil)) pe_int (nomark _)) (pe_and (pe_d D_is_word (hr.mono (by decide)) rfl (pa_cons (pe_ix ix_tup (pv 0) pe_int (fun _ _ => rfl)) pa_nil)) (pe_one (pe_d D_is_word (hr.mono (by decide)) rfl (pa_cons (pe_ix ix_tup (pv 0) pe_int (fun _ _ => rfl)) pa_nil))))))))

abbrev s_who_can : Stmt := topS 21
abbrev N_who_can : List Str := ["row", "place", "pairs", "found", "one", "other", "pair", "said", "heard"]
theorem sc_who_can : FnScope N_who_can ["row", "place", "pairs"] (defScope s_who_can) := ⟨rfl, rfl, rfl, by decide +kernel, rfl, by decide +kernel, by decide +kernel⟩
theorem ok_who_can {f : Addr} {fd : FuncData} (F : Fun K "who_can" "who_can" s_who_can f fd) (gf : mg "who_can" = some (.ref f)) (nb_len : mg "len" = none) (nb_all : mg "all" = none) (nb_isinstance : mg "isinstance" = none) (nb_tuple : mg "tuple" = none) (D_need_row : DefOk P w K mg base CX0 4 "need_row" ["row"] (sp_need_row K)) (D_is_within : DefOk P w K mg base CX0 1 "is_within" ["thing", "low", "high"] (sp_is_within K)) (D_is_pair : DefOk P w K mg base CX0 2 "is_pair" ["thing"] (sp_is_pair K)) (D_all_counters : DefOk P w K mg base CX0 1 "all_counters" [] (sp_all_counters K)) (D_comes_out : DefOk P w K mg base CX0 2 "comes_out" ["row", "word"] (sp_comes_out K)) :
    DefOk P w K mg base CX0 5 "who_can" ["row", "place", "pairs"] (sp_who_can K) := by
  refine DefOk.of F gf (fun _ _ _ _ _ _ us hl => match us, hl with | [_, _, _], _ => rfl) (F.ok sc_who_can (len_who_can K) (fun cdv A outer s H vs Q E hr h => ⟨t_who_can K, ?_, sem_who_can K vs H Q E h⟩))
  exact (pss_cons (ps_expr (pe_d D_need_row (hr.mono (by decide)) rfl (pa_cons (pv 0) pa_nil)))
  (pss_cons (ps_if (pt_not (pt_val (pe_d D_is_within (hr.mono (by decide)) rfl (pa_cons (pv 1) (pa_cons pe_int (pa_cons (pe_op op_subI (pe_callB cr_lenQ rfl nb_len (by decide +kernel) (pa_cons (pv 0) pa_nil)) pe_int) pa_nil)))))) (pss_one ps_never) pss_nil)
  (pss_cons (ps_if (PW.pt (pw_or (pt_not (pt_val (pe_callB call_isi rfl nb_isinstance (by decide +kernel) (pa_cons (pv 2) (pa_cons (pe_bltn (v := .ty "tuple") rfl nb_tuple (by decide +kernel) rfl) pa_nil))))) (pw_or (pt_not (pt_chain op_leI op_leI pe_int (pe_callB cr_lenQ rfl nb_len (by decide +kernel) (pa_cons (pv 2) pa_nil)) pe_int)) (pw_or1 (pt_not (pt_val (pe_callB (cr_all rfl) rfl nb_all (by decide +kernel) (pa_cons (pe_lc (own := [("pair", 6)]) rfl sc_who_can.nd (pi_tup (pv 2)) (blkOk_by (own := [("pair", 6)]) (N := N_who_can) (sc := defScope s_who_can) (by decide +kernel))
    (fun _ _ _ _ _ => (pg_name (i := 6) sc_who_can.nd rfl (Or.inl rfl))) (fun _ _ _ _ _ => pts_nil)
    (fun _ _ _ _ _ => (pe_d D_is_pair (hr.mono (by decide)) rfl (pa_cons (pv 6) pa_nil)))) pa_nil)))))))) (pss_one ps_never) pss_nil)
  (pss_cons (ps_asg (pe_lst pa_nil) (pg_name (i := 3) sc_who_can.nd rfl (Or.inl rfl)))
  (pss_cons (ps_for PassesOwn.never rfl (pi_list (pe_d0 D_all_counters (hr.mono (by decide)) rfl)) (pg_name (i := 4) sc_who_can.nd rfl (Or.inl rfl))
  (pss_cons (ps_asg (pe_op op_catA (pe_op op_catA (pe_slice sl_tupA (pv 0) po_none (po_some (pv 1))) (pe_tup (pa_cons (pv 4) pa_nil))) (pe_slice sl_tupA (pv 0) (po_some (pe_op op_addI (pv 1) pe_int)) po_none)) (pg_name (i := 5) sc_who_can.nd rfl (Or.inr rfl)))
  (pss_one (ps_if (pt_val (pe_callB (cr_all rfl) rfl nb_all (by decide +kernel) (pa_cons (pe_lc (own := [("said", 7), ("heard", 8)]) rfl sc_who_can.nd (pi_tup (pv 2)) (blkOk_by (own := [("said", 7), ("heard", 8)]) (N := N_who_can) (sc := defScope s_who_can) (by decide +kernel))
    (fun _ _ _ _ _ => (pg_tup rfl (pgs_cons (pg_name (i := 7) sc_who_can.nd rfl (Or.inl rfl)) (pgs_cons (pg_name (i := 8) sc_who_can.nd rfl (Or.inl rfl)) pgs_nil)))) (fun _ _ _ _ _ => pts_nil)
    (fun _ _ _ _ _ => (pe_cmpR op_eq (pe_d D_comes_out (hr.mono (by decide)) rfl (pa_cons (pv 5) (pa_cons (pv 7) pa_nil))) (pv 8) (nomark _)))) pa_nil))) (pss_one (ps_expr (pe_bm PySem.F.plainAttrs_list PySem.F.slot_list_append PySem.F.type_list_append mt_append (pv 3) (pa_cons (pv 4) pa_nil)))) pss_nil))))
  (pss_one (ps_ret (pv 3))))))))

abbrev s_l_cell_at : Stmt := topS 23
abbrev N_l_cell_at : List Str := ["script", "k"]
theorem sc_l_cell_at : FnScope N_l_cell_at ["script", "k"] (defScope s_l_cell_at) := ⟨rfl, rfl, rfl, by decide +kernel, rfl, by decide +kernel, by decide +kernel⟩
theorem ok_l_cell_at {f : Addr} {fd : FuncData} (F : Fun K "_law_cell_at" "_law_cell_at" s_l_cell_at f fd) (gf : mg "_law_cell_at" = some (.ref f)) (nb_len : mg "len" = none) :
    DefOk P w K mg base CX0 1 "_law_cell_at" ["script", "k"] (sp_l_cell_at K) := by
  refine DefOk.of F gf (fun _ _ _ _ _ _ us hl => match us, hl with | [_, _], _ => rfl) (F.ok sc_l_cell_at (len_l_cell_at K) (fun cdv A outer s H vs Q E hr h => ⟨t_l_cell_at K, ?_, sem_l_cell_at K vs H Q E h⟩))
  exact (pss_cons (ps_if (pt_cmpR op_ltI (pv 1) (pe_callB cr_lenQ rfl nb_len (by decide +kernel) (pa_cons (pv 0) pa_nil)) (nomark _)) (pss_one (ps_ret (pe_ix ix_list (pv 0) (pv 1) (fun _ _ => rfl)))) pss_nil)
  (pss_one (ps_ret pe_int)))

abbrev s_l_draws : Stmt := topS 24
abbrev N_l_draws : List Str := ["cell", "many", "size", "found", "rest", "stirred", "k"]
theorem sc_l_draws : FnScope N_l_draws ["cell", "many", "size"] (defScope s_l_draws) := ⟨rfl, rfl, rfl, by decide +kernel, rfl, by decide +kernel, by decide +kernel⟩
theorem ok_l_draws {f : Addr} {fd : FuncData} (F : Fun K "_law_draws" "_law_draws" s_l_draws f fd) (gf : mg "_law_draws" = some (.ref f)) (nb_int : mg "int" = none) (nb_range : mg "range" = none) :
    DefOk P w K mg base CX0 1 "_law_draws" ["cell", "many", "size"] (sp_l_draws K) := by
  refine DefOk.of F gf (fun _ _ _ _ _ _ us hl => match us, hl with | [_, _, _], _ => rfl) (F.ok sc_l_draws (len_l_draws K) (fun cdv A outer s H vs Q E hr h => ⟨t_l_draws K, ?_, sem_l_draws K vs H Q E h⟩))
  exact (pss_cons (ps_asg (pe_lst pa_nil) (pg_name (i := 3) sc_l_draws.nd rfl (Or.inl rfl)))
  (pss_cons (ps_asg (pe_op op_mulI (pv 0) (pe_callTy cr_intQ rfl nb_int (by decide +kernel) (pa_cons (pe_cmpR op_geI (pv 0) (pe_op op_powI pe_int pe_int) (nomark _)) pa_nil))) (pg_name (i := 4) sc_l_draws.nd rfl (Or.inl rfl)))
  (pss_cons (ps_asg (pe_op op_modI (pv 0) pe_int) (pg_name (i := 5) sc_l_draws.nd rfl (Or.inl rfl)))
  (pss_cons (ps_for PassesOwn.never rfl (pi_range1 rfl nb_range (pa_cons (pe_op op_addI (pv 1) pe_int) pa_nil)) (pg_name (i := 6) sc_l_draws.nd rfl (Or.inl rfl))
  (pss_cons (ps_asg (pe_op op_modI (pe_op op_addI (pe_op op_addI (pe_op op_addI (pe_op op_mulI (pv 5) (pv 5)) (pe_op op_mulI pe_int (pv 5))) (pv 6)) pe_int) pe_int) (pg_name (i := 5) sc_l_draws.nd rfl (Or.inl rfl)))
  (pss_one (ps_if (PW.pt (pw_and (pt_cmpR op_gtI (pv 6) pe_int (nomark _)) (pw_and1 (pt_cmpR op_gtI (pv 4) pe_int (nomark _))))) (pss_cons (ps_expr (pe_bm PySem.F.plainAttrs_list PySem.F.slot_list_append PySem.F.type_list_append mt_append (pv 3) (pa_cons (pe_op op_modI (pv 4) (pv 2)) pa_nil)))
  (pss_one (ps_asg (pe_op op_divI (pv 4) (pv 2)) (pg_name (i := 4) sc_l_draws.nd rfl (Or.inl rfl))))) (pss_one (ps_if (pt_cmpR op_gtI (pv 6) pe_int (nomark _)) (pss_one (ps_expr (pe_bm PySem.F.plainAttrs_list PySem.F.slot_list_append PySem.F.type_list_append mt_append (pv 3) (pa_cons (pe_op op_modI (pe_op op_divI (pv 5) pe_int) (pv 2)) pa_nil)))) pss_nil))))))
  (pss_one (ps_ret (pv 3)))))))

abbrev s_l_bag : Stmt := topS 25
abbrev N_l_bag : List Str := ["script", "k"]
theorem sc_l_bag : FnScope N_l_bag ["script", "k"] (defScope s_l_bag) := ⟨rfl, rfl, rfl, by decide +kernel, rfl, by decide +kernel, by decide +kernel⟩
theorem ok_l_bag {f : Addr} {fd : FuncData} (F : Fun K "_law_bag" "_law_bag" s_l_bag f fd) (gf : mg "_law_bag" = some (.ref f)) (D_l_draws : DefOk P w K mg base CX0 1 "_law_draws" ["cell", "many", "size"] (sp_l_draws K)) (D_l_cell_at : DefOk P w K mg base CX0 1 "_law_cell_at" ["script", "k"] (sp_l_cell_at K)) :
    DefOk P w K mg base CX0 2 "_law_bag" ["script", "k"] (sp_l_bag K) := by
  refine DefOk.of F gf (fun _ _ _ _ _ _ us hl => match us, hl with | [_, _], _ => rfl) (F.ok sc_l_bag (len_l_bag K) (fun cdv A outer s H vs Q E hr h => ⟨t_l_bag K, ?_, sem_l_bag K vs H Q E h⟩))
  exact (pss_one (ps_ret (pe_lst (pa_cons (pe_d D_l_draws (hr.mono (by decide)) rfl (pa_cons (pe_d D_l_cell_at (hr.mono (by decide)) rfl (pa_cons (pv 0) (pa_cons (pv 1) pa_nil))) (pa_cons pe_int (pa_cons pe_int pa_nil)))) (pa_cons pe_int pa_nil)))))

abbrev s_l_bags : Stmt := topS 26
abbrev N_l_bags : List Str := ["script", "limit", "k"]
theorem sc_l_bags : FnScope N_l_bags ["script", "limit"] (defScope s_l_bags) := ⟨rfl, rfl, rfl, by decide +kernel, rfl, by decide +kernel, by decide +kernel⟩
theorem ok_l_bags {f : Addr} {fd : FuncData} (F : Fun K "_law_bags" "_law_bags" s_l_bags f fd) (gf : mg "_law_bags" = some (.ref f)) (nb_range : mg "range" = none) (nb_max : mg "max" = none) (nb_min : mg "min" = none) (nb_len : mg "len" = none) (D_l_bag : DefOk P w K mg base CX0 2 "_law_bag" ["script", "k"] (sp_l_bag K)) :
    DefOk P w K mg base CX0 3 "_law_bags" ["script", "limit"] (sp_l_bags K) := by
  refine DefOk.of F gf (fun _ _ _ _ _ _ us hl => match us, hl with | [_, _], _ => rfl) (F.ok sc_l_bags (len_l_bags K) (fun cdv A outer s H vs Q E hr h => ⟨t_l_bags K, ?_, sem_l_bags K vs H Q E h⟩))
  exact (pss_one (ps_ret (pe_lc (own := [("k", 2)]) rfl sc_l_bags.nd (pi_range1 rfl nb_range (pa_cons (pe_callB (cr_max2 rfl) rfl nb_max (by decide +kernel) (pa_cons pe_int (pa_cons (pe_callB (cr_min2 rfl) rfl nb_min (by decide +kernel) (pa_cons (pv 1) (pa_cons (pe_callB cr_lenQ rfl nb_len (by decide +kernel) (pa_cons (pv 0) pa_nil)) pa_nil))) pa_nil))) pa_nil)) (blkOk_by (own := [("k", 2)]) (N := N_l_bags) (sc := defScope s_l_bags) (by decide +kernel))
    (fun _ _ _ _ _ => (pg_name (i := 2) sc_l_bags.nd rfl (Or.inl rfl))) (fun _ _ _ _ _ => pts_nil)
    (fun _ _ _ _ _ => (pe_d D_l_bag (hr.mono (by decide)) rfl (pa_cons (pv 0) (pa_cons (pv 2) pa_nil)))))))

abbrev s_l_take : Stmt := topS 27
abbrev N_l_take : List Str := ["bag", "many"]
theorem sc_l_take : FnScope N_l_take ["bag", "many"] (defScope s_l_take) := ⟨rfl, rfl, rfl, by decide +kernel, rfl, by decide +kernel, by decide +kernel⟩
theorem ok_l_take {f : Addr} {fd : FuncData} (F : Fun K "_law_take" "_law_take" s_l_take f fd) (gf : mg "_law_take" = some (.ref f)) (nb_len : mg "len" = none) :
    DefOk P w K mg base CX0 1 "_law_take" ["bag", "many"] (sp_l_take K) := by
  refine DefOk.of F gf (fun _ _ _ _ _ _ us hl => match us, hl with | [_, _], _ => rfl) (F.ok sc_l_take (len_l_take K) (fun cdv A outer s H vs Q E hr h => ⟨t_l_take K, ?_, sem_l_take K vs H Q E h⟩))
  exact (pss_cons (ps_asg (pe_op op_addI (pe_ix ix_list (pv 0) pe_int (fun _ _ => rfl)) pe_int) (pg_sub (pv 0) pe_int set_list))
  (pss_one (ps_ret (pe_op op_modI (pe_ix ix_list (pe_ix ix_list (pv 0) pe_int (fun _ _ => rfl)) (pe_op op_modI (pe_ix ix_list (pv 0) pe_int (fun _ _ => rfl)) (pe_callB cr_lenQ rfl nb_len (by decide +kernel) (pa_cons (pe_ix ix_list (pv 0) pe_int (fun _ _ => rfl)) pa_nil))) (fun _ _ => rfl)) (pv 1)))))

abbrev s_l_letter : Stmt := topS 28
abbrev N_l_letter : List Str := ["bag", "wide"]
theorem sc_l_letter : FnScope N_l_letter ["bag", "wide"] (defScope s_l_letter) := ⟨rfl, rfl, rfl, by decide +kernel, rfl, by decide +kernel, by decide +kernel⟩
theorem ok_l_letter {f : Addr} {fd : FuncData} (F : Fun K "_law_letter" "_law_letter" s_l_letter f fd) (gf : mg "_law_letter" = some (.ref f)) (D_l_take : DefOk P w K mg base CX0 1 "_law_take" ["bag", "many"] (sp_l_take K)) :
    DefOk P w K mg base CX0 2 "_law_letter" ["bag", "wide"] (sp_l_letter K) := by
  refine DefOk.of F gf (fun _ _ _ _ _ _ us hl => match us, hl with | [_, _], _ => rfl) (F.ok sc_l_letter (len_l_letter K) (fun cdv A outer s H vs Q E hr h => ⟨t_l_letter K, ?_, sem_l_letter K vs H Q E h⟩))
  exact (pss_one (ps_ret (pe_ix ix_str pe_str (pe_d D_l_take (hr.mono (by decide)) rfl (pa_cons (pv 0) (pa_cons (pv 1) pa_nil))) (fun _ _ => rfl))))

abbrev s_l_a_word : Stmt := topS 29
abbrev N_l_a_word : List Str := ["bag", "most", "wide", "turn"]
theorem sc_l_a_word : FnScope N_l_a_word ["bag", "most", "wide"] (defScope s_l_a_word) := ⟨rfl, rfl, rfl, by decide +kernel, rfl, by decide +kernel, by decide +kernel⟩
theorem ok_l_a_word {f : Addr} {fd : FuncData} (F : Fun K "_law_a_word" "_law_a_word" s_l_a_word f fd) (gf : mg "_law_a_word" = some (.ref f)) (nb_range : mg "range" = none) (D_l_take : DefOk P w K mg base CX0 1 "_law_take" ["bag", "many"] (sp_l_take K)) (D_l_letter : DefOk P w K mg base CX0 2 "_law_letter" ["bag", "wide"] (sp_l_letter K)) :
    DefOk P w K mg base CX0 3 "_law_a_word" ["bag", "most", "wide"] (sp_l_a_word K) := by
  refine DefOk.of F gf (fun _ _ _ _ _ _ us hl => match us, hl with | [_, _, _], _ => rfl) (F.ok sc_l_a_word (len_l_a_word K) (fun cdv A outer s H vs Q E hr h => ⟨t_l_a_word K, ?_, sem_l_a_word K vs H Q E h⟩))
  exact (pss_one (ps_ret (pe_joinQ pe_str (pe_lc (own := [("turn", 3)]) rfl sc_l_a_word.nd (pi_range1 rfl nb_range (pa_cons (pe_d D_l_take (hr.mono (by decide)) rfl (pa_cons (pv 0) (pa_cons (pe_op op_addI (pv 1) pe_int) pa_nil))) pa_nil)) (blkOk_by (own := [("turn", 3)]) (N := N_l_a_word) (sc := defScope s_l_a_word) (by decide +kernel))
    (fun _ _ _ _ _ => (pg_name (i := 3) sc_l_a_word.nd rfl (Or.inl rfl))) (fun _ _ _ _ _ => pts_nil)
    (fun _ _ _ _ _ => (pe_d D_l_letter (hr.mono (by decide)) rfl (pa_cons (pv 0) (pa_cons (pv 2) pa_nil))))))))

abbrev s_l_counter : Stmt := topS 30
abbrev N_l_counter : List Str := ["bag", "every"]
theorem sc_l_counter : FnScope N_l_counter ["bag"] (defScope s_l_counter) := ⟨rfl, rfl, rfl, by decide +kernel, rfl, by decide +kernel, by decide +kernel⟩
theorem ok_l_counter {f : Addr} {fd : FuncData} (F : Fun K "_law_counter" "_law_counter" s_l_counter f fd) (gf : mg "_law_counter" = some (.ref f)) (D_l_take : DefOk P w K mg base CX0 1 "_law_take" ["bag", "many"] (sp_l_take K)) :
    DefOk P w K mg base CX0 2 "_law_counter" ["bag"] (sp_l_counter K) := by
  refine DefOk.of F gf (fun _ _ _ _ _ _ us hl => match us, hl with | [_], _ => rfl) (F.ok sc_l_counter (len_l_counter K) (fun cdv A outer s H vs Q E hr h => ⟨t_l_counter K, ?_, sem_l_counter K vs H Q E h⟩))
  exact (pss_cons (ps_asg (pe_op op_addI pe_int (pe_d D_l_take (hr.mono (by decide)) rfl (pa_cons (pv 0) (pa_cons pe_int pa_nil)))) (pg_name (i := 1) sc_l_counter.nd rfl (Or.inl rfl)))
  (pss_one (ps_ret (pe_tup (pa_cons (pe_ix ix_list (pe_lst (pa_cons pe_str (pa_cons pe_str pa_nil))) (pe_d D_l_take (hr.mono (by decide)) rfl (pa_cons (pv 0) (pa_cons pe_int pa_nil))) (fun _ _ => rfl)) (pa_cons (pv 1) (pa_cons (pe_d D_l_take (hr.mono (by decide)) rfl (pa_cons (pv 0) (pa_cons (pv 1) pa_nil))) pa_nil)))))))

abbrev s_l_mouths : Stmt := topS 31
abbrev N_l_mouths : List Str := ["bag", "most", "wide", "found", "turn", "one", "other", "letters"]
theorem sc_l_mouths : FnScope N_l_mouths ["bag", "most", "wide"] (defScope s_l_mouths) := ⟨rfl, rfl, rfl, by decide +kernel, rfl, by decide +kernel, by decide +kernel⟩
theorem ok_l_mouths {f : Addr} {fd : FuncData} (F : Fun K "_law_mouths" "_law_mouths" s_l_mouths f fd) (gf : mg "_law_mouths" = some (.ref f)) (nb_range : mg "range" = none) (nb_tuple : mg "tuple" = none) (D_l_take : DefOk P w K mg base CX0 1 "_law_take" ["bag", "many"] (sp_l_take K)) (D_l_counter : DefOk P w K mg base CX0 2 "_law_counter" ["bag"] (sp_l_counter K)) :
    DefOk P w K mg base CX0 3 "_law_mouths" ["bag", "most", "wide"] (sp_l_mouths K) := by
  refine DefOk.of F gf (fun _ _ _ _ _ _ us hl => match us, hl with | [_, _, _], _ => rfl) (F.ok sc_l_mouths (len_l_mouths K) (fun cdv A outer s H vs Q E hr h => ⟨t_l_mouths K, ?_, sem_l_mouths K vs H Q E h⟩))
  exact (pss_cons (ps_asg (pe_lst pa_nil) (pg_name (i := 3) sc_l_mouths.nd rfl (Or.inl rfl)))
  (pss_cons (ps_for PassesOwn.never rfl (pi_range1 rfl nb_range (pa_cons (pe_d D_l_take (hr.mono (by decide)) rfl (pa_cons (pv 0) (pa_cons (pe_op op_addI (pv 1) pe_int) pa_nil))) pa_nil)) (pg_name (i := 4) sc_l_mouths.nd rfl (Or.inl rfl))
  (pss_one (ps_if (pt_cmpR op_eq (pe_d D_l_take (hr.mono (by decide)) rfl (pa_cons (pv 0) (pa_cons pe_int pa_nil))) pe_int (nomark _)) (pss_cons (ps_asg (pe_d D_l_take (hr.mono (by decide)) rfl (pa_cons (pv 0) (pa_cons (pv 2) pa_nil))) (pg_name (i := 5) sc_l_mouths.nd rfl (Or.inl rfl)))
  (pss_cons (ps_asg (pe_op op_modI (pe_op op_addI (pe_op op_addI (pv 5) pe_int) (pe_d D_l_take (hr.mono (by decide)) rfl (pa_cons (pv 0) (pa_cons (pe_op op_subI (pv 2) pe_int) pa_nil)))) (pv 2)) (pg_name (i := 6) sc_l_mouths.nd rfl (Or.inl rfl)))
  (pss_cons (ps_asg pe_str (pg_name (i := 7) sc_l_mouths.nd rfl (Or.inl rfl)))
  (pss_one (ps_expr (pe_bm PySem.F.plainAttrs_list PySem.F.slot_list_append PySem.F.type_list_append mt_append (pv 3) (pa_cons (pe_tup (pa_cons pe_str (pa_cons (pe_ix ix_str (pv 7) (pv 5) (fun _ _ => rfl)) (pa_cons (pe_ix ix_str (pv 7) (pv 6) (fun _ _ => rfl)) pa_nil)))) pa_nil))))))) (pss_one (ps_expr (pe_bm PySem.F.plainAttrs_list PySem.F.slot_list_append PySem.F.type_list_append mt_append (pv 3) (pa_cons (pe_d D_l_counter (hr.mono (by decide)) rfl (pa_cons (pv 0) pa_nil)) pa_nil)))))))
  (pss_one (ps_ret (pe_callTy cr_tupQ rfl nb_tuple (by decide +kernel) (pa_cons (pv 3) pa_nil))))))

abbrev s_law : Stmt := topS 32
abbrev N_law : List Str := ["script", "bag", "house", "place", "one", "pairs", "turn", "word", "told", "other", "folk", "fewer", "said", "heard"]
theorem sc_law : FnScope N_law ["script"] (defScope s_law) := ⟨rfl, rfl, rfl, by decide +kernel, rfl, by decide +kernel, by decide +kernel⟩
theorem okF_law {f : Addr} {fd : FuncData} (F : Fun K "law" "law" s_law f fd) (nb_len : mg "len" = none) (nb_range : mg "range" = none) (nb_tuple : mg "tuple" = none) (nb_sorted : mg "sorted" = none) (nb_set : mg "set" = none) (D_l_bags : DefOk P w K mg base CX0 3 "_law_bags" ["script", "limit"] (sp_l_bags K)) (D_l_mouths : DefOk P w K mg base CX0 3 "_law_mouths" ["bag", "most", "wide"] (sp_l_mouths K)) (D_l_take : DefOk P w K mg base CX0 1 "_law_take" ["bag", "many"] (sp_l_take K)) (D_l_counter : DefOk P w K mg base CX0 2 "_law_counter" ["bag"] (sp_l_counter K)) (D_l_a_word : DefOk P w K mg base CX0 3 "_law_a_word" ["bag", "most", "wide"] (sp_l_a_word K)) (D_out : DefOk P w K mg base CX0 5 "out" ["row", "word"] (sp_out K)) (D_who_can : DefOk P w K mg base CX0 5 "who_can" ["row", "place", "pairs"] (sp_who_can K)) :
    FnOk P w K mg base CX0 6 f fd ["script"] (sp_law K) := by
  refine F.ok sc_law (len_law K) (fun cdv A outer s H vs Q E hr h => ⟨t_law K, ?_, sem_law K vs H Q E h⟩)
  exact (pss_cons (ps_for PassesOwn.never rfl (pi_list (pe_d D_l_bags (hr.mono (by decide)) rfl (pa_cons (pv 0) (pa_cons pe_int pa_nil)))) (pg_name (i := 1) sc_law.nd rfl (Or.inl rfl))
  (pss_cons (ps_asg (pe_d D_l_mouths (hr.mono (by decide)) rfl (pa_cons (pv 1) (pa_cons pe_int (pa_cons pe_int pa_nil)))) (pg_name (i := 2) sc_law.nd rfl (Or.inl rfl)))
  (pss_cons (ps_asg (pe_d D_l_take (hr.mono (by decide)) rfl (pa_cons (pv 1) (pa_cons (pe_op op_addI (pe_callB cr_lenQ rfl nb_len (by decide +kernel) (pa_cons (pv 2) pa_nil)) pe_int) pa_nil))) (pg_name (i := 3) sc_law.nd rfl (Or.inl rfl)))
  (pss_cons (ps_asg (pe_d D_l_counter (hr.mono (by decide)) rfl (pa_cons (pv 1) pa_nil)) (pg_name (i := 4) sc_law.nd rfl (Or.inl rfl)))
  (pss_cons (ps_asg (pe_op op_catA (pe_op op_catA (pe_slice sl_tupA (pv 2) po_none (po_some (pv 3))) (pe_tup (pa_cons (pv 4) pa_nil))) (pe_slice sl_tupA (pv 2) (po_some (pv 3)) po_none)) (pg_name (i := 2) sc_law.nd rfl (Or.inl rfl)))
  (pss_cons (ps_asg (pe_lst pa_nil) (pg_name (i := 5) sc_law.nd rfl (Or.inl rfl)))
  (pss_cons (ps_for PassesOwn.never rfl (pi_range1 rfl nb_range (pa_cons (pe_op op_addI pe_int (pe_d D_l_take (hr.mono (by decide)) rfl (pa_cons (pv 1) (pa_cons pe_int pa_nil)))) pa_nil)) (pg_name (i := 6) sc_law.nd rfl (Or.inl rfl))
  (pss_cons (ps_asg (pe_d D_l_a_word (hr.mono (by decide)) rfl (pa_cons (pv 1) (pa_cons pe_int (pa_cons pe_int pa_nil)))) (pg_name (i := 7) sc_law.nd rfl (Or.inl rfl)))
  (pss_one (ps_expr (pe_bm PySem.F.plainAttrs_list PySem.F.slot_list_append PySem.F.type_list_append mt_append (pv 5) (pa_cons (pe_tup (pa_cons (pv 7) (pa_cons (pe_d D_out (hr.mono (by decide)) rfl (pa_cons (pv 2) (pa_cons (pv 7) pa_nil))) pa_nil))) pa_nil))))))
  (pss_cons (ps_asg (pe_d D_who_can (hr.mono (by decide)) rfl (pa_cons (pv 2) (pa_cons (pv 3) (pa_cons (pe_callTy cr_tupQ rfl nb_tuple (by decide +kernel) (pa_cons (pv 5) pa_nil)) pa_nil)))) (pg_name (i := 8) sc_law.nd rfl (Or.inl rfl)))
  (pss_cons (ps_if (PW.pt (pw_or (pt_cmpR (op_notInD (room65 hr)) (pv 4) (pv 8) (by rfl)) (pw_or1 (pt_cmpR (op_neD hr.units) (pv 8) (MS.pe_sortSet rfl hr.units rfl nb_sorted rfl nb_set (pv 8)) (nomark _))))) (pss_one (ps_ret pe_bl)) pss_nil)
  (pss_cons (ps_if (pt_cmpR (op_neD hr.units) (pe_d D_who_can (hr.mono (by decide)) rfl (pa_cons (pe_op op_catA (pe_op op_catA (pe_slice sl_tupA (pv 2) po_none (po_some (pv 3))) (pe_tup (pa_cons (pe_tup (pa_cons pe_str (pa_cons pe_str (pa_cons pe_str pa_nil)))) pa_nil))) (pe_slice sl_tupA (pv 2) (po_some (pe_op op_addI (pv 3) pe_int)) po_none)) (pa_cons (pv 3) (pa_cons (pe_callTy cr_tupQ rfl nb_tuple (by decide +kernel) (pa_cons (pv 5) pa_nil)) pa_nil)))) (pv 8) (nomark _)) (pss_one (ps_ret pe_bl)) pss_nil)
  (pss_cons (ps_for PassesOwn.never rfl (pi_range1 rfl nb_range (pa_cons pe_int pa_nil)) (pg_name (i := 6) sc_law.nd rfl (Or.inl rfl))
  (pss_cons (ps_asg (pe_ix ix_list (pe_lst (pa_cons (pe_d D_l_counter (hr.mono (by decide)) rfl (pa_cons (pv 1) pa_nil)) (pa_cons (pe_ix ix_list (pv 8) (pe_d D_l_take (hr.mono (by decide)) rfl (pa_cons (pv 1) (pa_cons (pe_callB cr_lenQ rfl nb_len (by decide +kernel) (pa_cons (pv 8) pa_nil)) pa_nil))) (fun _ _ => rfl)) pa_nil))) (pe_d D_l_take (hr.mono (by decide)) rfl (pa_cons (pv 1) (pa_cons pe_int pa_nil))) (fun _ _ => rfl)) (pg_name (i := 9) sc_law.nd rfl (Or.inl rfl)))
  (pss_cons (ps_asg (pe_op op_catA (pe_op op_catA (pe_slice sl_tupA (pv 2) po_none (po_some (pv 3))) (pe_tup (pa_cons (pv 9) pa_nil))) (pe_slice sl_tupA (pv 2) (po_some (pe_op op_addI (pv 3) pe_int)) po_none)) (pg_name (i := 10) sc_law.nd rfl (Or.inr rfl)))
  (pss_one (ps_if (pt_cmpR op_ne (pe_cmpR (op_eqD hr.units) (pe_lc (own := [("said", 12), ("heard", 13)]) rfl sc_law.nd (pi_list (pv 5)) (blkOk_by (own := [("said", 12), ("heard", 13)]) (N := N_law) (sc := defScope s_law) (by decide +kernel))
    (fun _ _ _ _ _ => (pg_tup rfl (pgs_cons (pg_name (i := 12) sc_law.nd rfl (Or.inl rfl)) (pgs_cons (pg_name (i := 13) sc_law.nd rfl (Or.inl rfl)) pgs_nil)))) (fun _ _ _ _ _ => (pts_one (pt_cmpR op_ne (pe_d D_out (hr.mono (by decide)) rfl (pa_cons (pv 10) (pa_cons (pv 12) pa_nil))) (pv 13) (nomark _))))
    (fun _ _ _ _ _ => pe_int)) (pe_lst pa_nil) (nomark _)) (pe_cmpR (op_inD (room65 hr)) (pv 9) (pv 8) (by rfl)) (nomark _)) (pss_one (ps_ret pe_bl)) pss_nil)))))
  (pss_cons (ps_asg (pe_d D_who_can (hr.mono (by decide)) rfl (pa_cons (pv 2) (pa_cons (pv 3) (pa_cons (pe_callTy cr_tupQ rfl nb_tuple (by decide +kernel) (pa_cons (pe_slice sl_list (pv 5) po_none (po_some pe_int)) pa_nil)) pa_nil)))) (pg_name (i := 11) sc_law.nd rfl (Or.inr rfl)))
  (pss_one (ps_if (pt_cmpR (op_neD hr.units) (pe_lc (own := [("other", 9)]) rfl sc_law.nd (pi_list (pv 8)) (blkOk_by (own := [("other", 9)]) (N := N_law) (sc := defScope s_law) (by decide +kernel))
    (fun _ _ _ _ _ => (pg_name (i := 9) sc_law.nd rfl (Or.inl rfl))) (fun _ _ _ _ _ => (pts_one (pt_cmpR (op_notInD (room65 hr)) (pv 9) (pv 11) (by rfl))))
    (fun _ _ _ _ _ => (pv 9))) (pe_lst pa_nil) (nomark _)) (pss_one (ps_ret pe_bl)) pss_nil))))))))))))))
  (pss_one (ps_ret pe_bl)))

end
theorem all_mk {l : PySem.W.OpenLaw} {w : World} {K : PySem.W.Frag} {h : Heap} {mg : Str → Option Value} {fa : Addr} {tS : Tok} (X : K.In h) (G : h.Ns mainGlobals mg) (hfa : mg "law" = some (.ref fa))
    {f0 : Addr} {od0 an0 : Option Addr} {sl0 : Array (Option Value)} {oc0 kV0 dc0 pm0 cd0 ct0 : Value}
    (a0 : PySem.W.nsIn K mainGlobals "is_within" = some (some (.ref f0))) (l0 : K.lookup f0 = some ⟨oc0, od0, .func (PySem.W.fnOf "is_within" "is_within" (defArgs s_is_within) (defBody s_is_within) (defScope s_is_within) .none kV0 dc0 pm0 an0 cd0 ct0), sl0⟩) (c0 : PySem.W.codeIn K cd0 "is_within" = true) (k0 : PySem.W.keepIn K (.ref f0) = true)
    {f1 : Addr} {od1 an1 : Option Addr} {sl1 : Array (Option Value)} {oc1 kV1 dc1 pm1 cd1 ct1 : Value}
    (a1 : PySem.W.nsIn K mainGlobals "is_letter" = some (some (.ref f1))) (l1 : K.lookup f1 = some ⟨oc1, od1, .func (PySem.W.fnOf "is_letter" "is_letter" (defArgs s_is_letter) (defBody s_is_letter) (defScope s_is_letter) .none kV1 dc1 pm1 an1 cd1 ct1), sl1⟩) (c1 : PySem.W.codeIn K cd1 "is_letter" = true) (k1 : PySem.W.keepIn K (.ref f1) = true)
    {f2 : Addr} {od2 an2 : Option Addr} {sl2 : Array (Option Value)} {oc2 kV2 dc2 pm2 cd2 ct2 : Value}
    (a2 : PySem.W.nsIn K mainGlobals "is_word" = some (some (.ref f2))) (l2 : K.lookup f2 = some ⟨oc2, od2, .func (PySem.W.fnOf "is_word" "is_word" (defArgs s_is_word) (defBody s_is_word) (defScope s_is_word) .none kV2 dc2 pm2 an2 cd2 ct2), sl2⟩) (c2 : PySem.W.codeIn K cd2 "is_word" = true) (k2 : PySem.W.keepIn K (.ref f2) = true)
    {f3 : Addr} {od3 an3 : Option Addr} {sl3 : Array (Option Value)} {oc3 kV3 dc3 pm3 cd3 ct3 : Value}
    (a3 : PySem.W.nsIn K mainGlobals "is_one" = some (some (.ref f3))) (l3 : K.lookup f3 = some ⟨oc3, od3, .func (PySem.W.fnOf "is_one" "is_one" (defArgs s_is_one) (defBody s_is_one) (defScope s_is_one) .none kV3 dc3 pm3 an3 cd3 ct3), sl3⟩) (c3 : PySem.W.codeIn K cd3 "is_one" = true) (k3 : PySem.W.keepIn K (.ref f3) = true)
    {f4 : Addr} {od4 an4 : Option Addr} {sl4 : Array (Option Value)} {oc4 kV4 dc4 pm4 cd4 ct4 : Value}
    (a4 : PySem.W.nsIn K mainGlobals "is_row" = some (some (.ref f4))) (l4 : K.lookup f4 = some ⟨oc4, od4, .func (PySem.W.fnOf "is_row" "is_row" (defArgs s_is_row) (defBody s_is_row) (defScope s_is_row) .none kV4 dc4 pm4 an4 cd4 ct4), sl4⟩) (c4 : PySem.W.codeIn K cd4 "is_row" = true) (k4 : PySem.W.keepIn K (.ref f4) = true)
    {f5 : Addr} {od5 an5 : Option Addr} {sl5 : Array (Option Value)} {oc5 kV5 dc5 pm5 cd5 ct5 : Value}
    (a5 : PySem.W.nsIn K mainGlobals "need_row" = some (some (.ref f5))) (l5 : K.lookup f5 = some ⟨oc5, od5, .func (PySem.W.fnOf "need_row" "need_row" (defArgs s_need_row) (defBody s_need_row) (defScope s_need_row) .none kV5 dc5 pm5 an5 cd5 ct5), sl5⟩) (c5 : PySem.W.codeIn K cd5 "need_row" = true) (k5 : PySem.W.keepIn K (.ref f5) = true)
    {f6 : Addr} {od6 an6 : Option Addr} {sl6 : Array (Option Value)} {oc6 kV6 dc6 pm6 cd6 ct6 : Value}
    (a6 : PySem.W.nsIn K mainGlobals "need_word" = some (some (.ref f6))) (l6 : K.lookup f6 = some ⟨oc6, od6, .func (PySem.W.fnOf "need_word" "need_word" (defArgs s_need_word) (defBody s_need_word) (defScope s_need_word) .none kV6 dc6 pm6 an6 cd6 ct6), sl6⟩) (c6 : PySem.W.codeIn K cd6 "need_word" = true) (k6 : PySem.W.keepIn K (.ref f6) = true)
    {f7 : Addr} {od7 an7 : Option Addr} {sl7 : Array (Option Value)} {oc7 kV7 dc7 pm7 cd7 ct7 : Value}
    (a7 : PySem.W.nsIn K mainGlobals "said_by" = some (some (.ref f7))) (l7 : K.lookup f7 = some ⟨oc7, od7, .func (PySem.W.fnOf "said_by" "said_by" (defArgs s_said_by) (defBody s_said_by) (defScope s_said_by) .none kV7 dc7 pm7 an7 cd7 ct7), sl7⟩) (c7 : PySem.W.codeIn K cd7 "said_by" = true) (k7 : PySem.W.keepIn K (.ref f7) = true)
    {f8 : Addr} {od8 an8 : Option Addr} {sl8 : Array (Option Value)} {oc8 kV8 dc8 pm8 cd8 ct8 : Value}
    (a8 : PySem.W.nsIn K mainGlobals "comes_out" = some (some (.ref f8))) (l8 : K.lookup f8 = some ⟨oc8, od8, .func (PySem.W.fnOf "comes_out" "comes_out" (defArgs s_comes_out) (defBody s_comes_out) (defScope s_comes_out) .none kV8 dc8 pm8 an8 cd8 ct8), sl8⟩) (c8 : PySem.W.codeIn K cd8 "comes_out" = true) (k8 : PySem.W.keepIn K (.ref f8) = true)
    {f9 : Addr} {od9 an9 : Option Addr} {sl9 : Array (Option Value)} {oc9 kV9 dc9 pm9 cd9 ct9 : Value}
    (a9 : PySem.W.nsIn K mainGlobals "out" = some (some (.ref f9))) (l9 : K.lookup f9 = some ⟨oc9, od9, .func (PySem.W.fnOf "out" "out" (defArgs s_out) (defBody s_out) (defScope s_out) .none kV9 dc9 pm9 an9 cd9 ct9), sl9⟩) (c9 : PySem.W.codeIn K cd9 "out" = true) (k9 : PySem.W.keepIn K (.ref f9) = true)
    {f10 : Addr} {od10 an10 : Option Addr} {sl10 : Array (Option Value)} {oc10 kV10 dc10 pm10 cd10 ct10 : Value}
    (a10 : PySem.W.nsIn K mainGlobals "all_counters" = some (some (.ref f10))) (l10 : K.lookup f10 = some ⟨oc10, od10, .func (PySem.W.fnOf "all_counters" "all_counters" (defArgs s_all_counters) (defBody s_all_counters) (defScope s_all_counters) .none kV10 dc10 pm10 an10 cd10 ct10), sl10⟩) (c10 : PySem.W.codeIn K cd10 "all_counters" = true) (k10 : PySem.W.keepIn K (.ref f10) = true)
    {f11 : Addr} {od11 an11 : Option Addr} {sl11 : Array (Option Value)} {oc11 kV11 dc11 pm11 cd11 ct11 : Value}
    (a11 : PySem.W.nsIn K mainGlobals "is_pair" = some (some (.ref f11))) (l11 : K.lookup f11 = some ⟨oc11, od11, .func (PySem.W.fnOf "is_pair" "is_pair" (defArgs s_is_pair) (defBody s_is_pair) (defScope s_is_pair) .none kV11 dc11 pm11 an11 cd11 ct11), sl11⟩) (c11 : PySem.W.codeIn K cd11 "is_pair" = true) (k11 : PySem.W.keepIn K (.ref f11) = true)
    {f12 : Addr} {od12 an12 : Option Addr} {sl12 : Array (Option Value)} {oc12 kV12 dc12 pm12 cd12 ct12 : Value}
    (a12 : PySem.W.nsIn K mainGlobals "who_can" = some (some (.ref f12))) (l12 : K.lookup f12 = some ⟨oc12, od12, .func (PySem.W.fnOf "who_can" "who_can" (defArgs s_who_can) (defBody s_who_can) (defScope s_who_can) .none kV12 dc12 pm12 an12 cd12 ct12), sl12⟩) (c12 : PySem.W.codeIn K cd12 "who_can" = true) (k12 : PySem.W.keepIn K (.ref f12) = true)
    {f13 : Addr} {od13 an13 : Option Addr} {sl13 : Array (Option Value)} {oc13 kV13 dc13 pm13 cd13 ct13 : Value}
    (a13 : PySem.W.nsIn K mainGlobals "_law_cell_at" = some (some (.ref f13))) (l13 : K.lookup f13 = some ⟨oc13, od13, .func (PySem.W.fnOf "_law_cell_at" "_law_cell_at" (defArgs s_l_cell_at) (defBody s_l_cell_at) (defScope s_l_cell_at) .none kV13 dc13 pm13 an13 cd13 ct13), sl13⟩) (c13 : PySem.W.codeIn K cd13 "_law_cell_at" = true) (k13 : PySem.W.keepIn K (.ref f13) = true)
    {f14 : Addr} {od14 an14 : Option Addr} {sl14 : Array (Option Value)} {oc14 kV14 dc14 pm14 cd14 ct14 : Value}
    (a14 : PySem.W.nsIn K mainGlobals "_law_draws" = some (some (.ref f14))) (l14 : K.lookup f14 = some ⟨oc14, od14, .func (PySem.W.fnOf "_law_draws" "_law_draws" (defArgs s_l_draws) (defBody s_l_draws) (defScope s_l_draws) .none kV14 dc14 pm14 an14 cd14 ct14), sl14⟩) (c14 : PySem.W.codeIn K cd14 "_law_draws" = true) (k14 : PySem.W.keepIn K (.ref f14) = true)
    {f15 : Addr} {od15 an15 : Option Addr} {sl15 : Array (Option Value)} {oc15 kV15 dc15 pm15 cd15 ct15 : Value}
    (a15 : PySem.W.nsIn K mainGlobals "_law_bag" = some (some (.ref f15))) (l15 : K.lookup f15 = some ⟨oc15, od15, .func (PySem.W.fnOf "_law_bag" "_law_bag" (defArgs s_l_bag) (defBody s_l_bag) (defScope s_l_bag) .none kV15 dc15 pm15 an15 cd15 ct15), sl15⟩) (c15 : PySem.W.codeIn K cd15 "_law_bag" = true) (k15 : PySem.W.keepIn K (.ref f15) = true)
    {f16 : Addr} {od16 an16 : Option Addr} {sl16 : Array (Option Value)} {oc16 kV16 dc16 pm16 cd16 ct16 : Value}
    (a16 : PySem.W.nsIn K mainGlobals "_law_bags" = some (some (.ref f16))) (l16 : K.lookup f16 = some ⟨oc16, od16, .func (PySem.W.fnOf "_law_bags" "_law_bags" (defArgs s_l_bags) (defBody s_l_bags) (defScope s_l_bags) .none kV16 dc16 pm16 an16 cd16 ct16), sl16⟩) (c16 : PySem.W.codeIn K cd16 "_law_bags" = true) (k16 : PySem.W.keepIn K (.ref f16) = true)
    {f17 : Addr} {od17 an17 : Option Addr} {sl17 : Array (Option Value)} {oc17 kV17 dc17 pm17 cd17 ct17 : Value}
    (a17 : PySem.W.nsIn K mainGlobals "_law_take" = some (some (.ref f17))) (l17 : K.lookup f17 = some ⟨oc17, od17, .func (PySem.W.fnOf "_law_take" "_law_take" (defArgs s_l_take) (defBody s_l_take) (defScope s_l_take) .none kV17 dc17 pm17 an17 cd17 ct17), sl17⟩) (c17 : PySem.W.codeIn K cd17 "_law_take" = true) (k17 : PySem.W.keepIn K (.ref f17) = true)
    {f18 : Addr} {od18 an18 : Option Addr} {sl18 : Array (Option Value)} {oc18 kV18 dc18 pm18 cd18 ct18 : Value}
    (a18 : PySem.W.nsIn K mainGlobals "_law_letter" = some (some (.ref f18))) (l18 : K.lookup f18 = some ⟨oc18, od18, .func (PySem.W.fnOf "_law_letter" "_law_letter" (defArgs s_l_letter) (defBody s_l_letter) (defScope s_l_letter) .none kV18 dc18 pm18 an18 cd18 ct18), sl18⟩) (c18 : PySem.W.codeIn K cd18 "_law_letter" = true) (k18 : PySem.W.keepIn K (.ref f18) = true)
    {f19 : Addr} {od19 an19 : Option Addr} {sl19 : Array (Option Value)} {oc19 kV19 dc19 pm19 cd19 ct19 : Value}
    (a19 : PySem.W.nsIn K mainGlobals "_law_a_word" = some (some (.ref f19))) (l19 : K.lookup f19 = some ⟨oc19, od19, .func (PySem.W.fnOf "_law_a_word" "_law_a_word" (defArgs s_l_a_word) (defBody s_l_a_word) (defScope s_l_a_word) .none kV19 dc19 pm19 an19 cd19 ct19), sl19⟩) (c19 : PySem.W.codeIn K cd19 "_law_a_word" = true) (k19 : PySem.W.keepIn K (.ref f19) = true)
    {f20 : Addr} {od20 an20 : Option Addr} {sl20 : Array (Option Value)} {oc20 kV20 dc20 pm20 cd20 ct20 : Value}
    (a20 : PySem.W.nsIn K mainGlobals "_law_counter" = some (some (.ref f20))) (l20 : K.lookup f20 = some ⟨oc20, od20, .func (PySem.W.fnOf "_law_counter" "_law_counter" (defArgs s_l_counter) (defBody s_l_counter) (defScope s_l_counter) .none kV20 dc20 pm20 an20 cd20 ct20), sl20⟩) (c20 : PySem.W.codeIn K cd20 "_law_counter" = true) (k20 : PySem.W.keepIn K (.ref f20) = true)
    {f21 : Addr} {od21 an21 : Option Addr} {sl21 : Array (Option Value)} {oc21 kV21 dc21 pm21 cd21 ct21 : Value}
    (a21 : PySem.W.nsIn K mainGlobals "_law_mouths" = some (some (.ref f21))) (l21 : K.lookup f21 = some ⟨oc21, od21, .func (PySem.W.fnOf "_law_mouths" "_law_mouths" (defArgs s_l_mouths) (defBody s_l_mouths) (defScope s_l_mouths) .none kV21 dc21 pm21 an21 cd21 ct21), sl21⟩) (c21 : PySem.W.codeIn K cd21 "_law_mouths" = true) (k21 : PySem.W.keepIn K (.ref f21) = true)
    {f22 : Addr} {od22 an22 : Option Addr} {sl22 : Array (Option Value)} {oc22 kV22 dc22 pm22 cd22 ct22 : Value}
    (a22 : PySem.W.nsIn K mainGlobals "law" = some (some (.ref f22))) (l22 : K.lookup f22 = some ⟨oc22, od22, .func (PySem.W.fnOf "law" "law" (defArgs s_law) (defBody s_law) (defScope s_law) .none kV22 dc22 pm22 an22 cd22 ct22), sl22⟩) (c22 : PySem.W.codeIn K cd22 "law" = true) (k22 : PySem.W.keepIn K (.ref f22) = true)
    (z_isinstance : PySem.W.nsIn K mainGlobals "isinstance" = some none)
    (z_bool : PySem.W.nsIn K mainGlobals "bool" = some none)
    (z_int : PySem.W.nsIn K mainGlobals "int" = some none)
    (z_len : PySem.W.nsIn K mainGlobals "len" = some none)
    (z_str : PySem.W.nsIn K mainGlobals "str" = some none)
    (z_all : PySem.W.nsIn K mainGlobals "all" = some none)
    (z_tuple : PySem.W.nsIn K mainGlobals "tuple" = some none)
    (z_range : PySem.W.nsIn K mainGlobals "range" = some none)
    (z_max : PySem.W.nsIn K mainGlobals "max" = some none)
    (z_min : PySem.W.nsIn K mainGlobals "min" = some none)
    (z_sorted : PySem.W.nsIn K mainGlobals "sorted" = some none)
    (z_set : PySem.W.nsIn K mainGlobals "set" = some none)
    (y_SMALL : PySem.W.nsIn K mainGlobals "SMALL" = some (some (.str "abcdefghijklmnopqrstuvwxyz" tS))) :
    ∃ fd : FuncData, (∀ (s : Shared) (v : Value), BindsTo s fd ⟨[v], []⟩ [("script", v)]) ∧ ∀ base : Heap, K.In base → base.Ns mainGlobals mg → FnOk l.prog w K mg base CX0 6 fa fd ["script"] (sp_law K) := by
  have e := hfa.symm.trans (PySem.W.mg_of X G a22)
  cases e
  have F0 := fun_mk (st := s_is_within) l0 c0 k0
  have F1 := fun_mk (st := s_is_letter) l1 c1 k1
  have F2 := fun_mk (st := s_is_word) l2 c2 k2
  have F3 := fun_mk (st := s_is_one) l3 c3 k3
  have F4 := fun_mk (st := s_is_row) l4 c4 k4
  have F5 := fun_mk (st := s_need_row) l5 c5 k5
  have F6 := fun_mk (st := s_need_word) l6 c6 k6
  have F7 := fun_mk (st := s_said_by) l7 c7 k7
  have F8 := fun_mk (st := s_comes_out) l8 c8 k8
  have F9 := fun_mk (st := s_out) l9 c9 k9
  have F10 := fun_mk (st := s_all_counters) l10 c10 k10
  have F11 := fun_mk (st := s_is_pair) l11 c11 k11
  have F12 := fun_mk (st := s_who_can) l12 c12 k12
  have F13 := fun_mk (st := s_l_cell_at) l13 c13 k13
  have F14 := fun_mk (st := s_l_draws) l14 c14 k14
  have F15 := fun_mk (st := s_l_bag) l15 c15 k15
  have F16 := fun_mk (st := s_l_bags) l16 c16 k16
  have F17 := fun_mk (st := s_l_take) l17 c17 k17
  have F18 := fun_mk (st := s_l_letter) l18 c18 k18
  have F19 := fun_mk (st := s_l_a_word) l19 c19 k19
  have F20 := fun_mk (st := s_l_counter) l20 c20 k20
  have F21 := fun_mk (st := s_l_mouths) l21 c21 k21
  have F22 := fun_mk (st := s_law) l22 c22 k22
  have nb_isinstance := PySem.W.mg_none_of X G z_isinstance
  have nb_bool := PySem.W.mg_none_of X G z_bool
  have nb_int := PySem.W.mg_none_of X G z_int
  have nb_len := PySem.W.mg_none_of X G z_len
  have nb_str := PySem.W.mg_none_of X G z_str
  have nb_all := PySem.W.mg_none_of X G z_all
  have nb_tuple := PySem.W.mg_none_of X G z_tuple
  have nb_range := PySem.W.mg_none_of X G z_range
  have nb_max := PySem.W.mg_none_of X G z_max
  have nb_min := PySem.W.mg_none_of X G z_min
  have nb_sorted := PySem.W.mg_none_of X G z_sorted
  have nb_set := PySem.W.mg_none_of X G z_set
  have nc_SMALL := PySem.W.mg_of X G y_SMALL
  refine ⟨PySem.W.fnOf "law" "law" (defArgs s_law) (defBody s_law) (defScope s_law) .none kV22 dc22 pm22 an22 cd22 ct22, fun s v => .of_eq rfl, fun base _ _ => ?_⟩
  have D_l_draws := ok_l_draws (P := l.prog) (w := w) (base := base) F14 (PySem.W.mg_of X G a14) nb_int nb_range
  have D_l_cell_at := ok_l_cell_at (P := l.prog) (w := w) (base := base) F13 (PySem.W.mg_of X G a13) nb_len
  have D_l_bag := ok_l_bag (P := l.prog) (w := w) (base := base) F15 (PySem.W.mg_of X G a15) D_l_draws D_l_cell_at
  have D_l_bags := ok_l_bags (P := l.prog) (w := w) (base := base) F16 (PySem.W.mg_of X G a16) nb_range nb_max nb_min nb_len D_l_bag
  have D_l_take := ok_l_take (P := l.prog) (w := w) (base := base) F17 (PySem.W.mg_of X G a17) nb_len
  have D_l_counter := ok_l_counter (P := l.prog) (w := w) (base := base) F20 (PySem.W.mg_of X G a20) D_l_take
  have D_l_mouths := ok_l_mouths (P := l.prog) (w := w) (base := base) F21 (PySem.W.mg_of X G a21) nb_range nb_tuple D_l_take D_l_counter
  have D_l_letter := ok_l_letter (P := l.prog) (w := w) (base := base) F18 (PySem.W.mg_of X G a18) D_l_take
  have D_l_a_word := ok_l_a_word (P := l.prog) (w := w) (base := base) F19 (PySem.W.mg_of X G a19) nb_range D_l_take D_l_letter
  have D_is_letter := ok_is_letter (P := l.prog) (w := w) (base := base) F1 (PySem.W.mg_of X G a1) nb_len nb_isinstance nb_str nc_SMALL
  have D_is_within := ok_is_within (P := l.prog) (w := w) (base := base) F0 (PySem.W.mg_of X G a0) nb_isinstance nb_bool nb_int
  have D_is_one := ok_is_one (P := l.prog) (w := w) (base := base) F3 (PySem.W.mg_of X G a3) nb_isinstance nb_str nb_len nb_tuple D_is_letter D_is_within
  have D_is_row := ok_is_row (P := l.prog) (w := w) (base := base) F4 (PySem.W.mg_of X G a4) nb_all nb_len nb_isinstance nb_tuple D_is_one
  have D_need_row := ok_need_row (P := l.prog) (w := w) (base := base) F5 (PySem.W.mg_of X G a5) D_is_row
  have D_is_word := ok_is_word (P := l.prog) (w := w) (base := base) F2 (PySem.W.mg_of X G a2) nb_all nb_len nb_isinstance nb_str nc_SMALL
  have D_need_word := ok_need_word (P := l.prog) (w := w) (base := base) F6 (PySem.W.mg_of X G a6) D_is_word
  have D_said_by := ok_said_by (P := l.prog) (w := w) (base := base) F7 (PySem.W.mg_of X G a7) 
  have D_comes_out := ok_comes_out (P := l.prog) (w := w) (base := base) F8 (PySem.W.mg_of X G a8) D_said_by
  have D_out := ok_out (P := l.prog) (w := w) (base := base) F9 (PySem.W.mg_of X G a9) D_need_row D_need_word D_comes_out
  have D_is_pair := ok_is_pair (P := l.prog) (w := w) (base := base) F11 (PySem.W.mg_of X G a11) nb_len nb_isinstance nb_tuple D_is_word
  have D_all_counters := ok_all_counters (P := l.prog) (w := w) (base := base) F10 (PySem.W.mg_of X G a10) nb_range
  have D_who_can := ok_who_can (P := l.prog) (w := w) (base := base) F12 (PySem.W.mg_of X G a12) nb_len nb_all nb_isinstance nb_tuple D_need_row D_is_within D_is_pair D_all_counters D_comes_out
  exact okF_law (P := l.prog) (w := w) (base := base) F22 nb_len nb_range nb_tuple nb_sorted nb_set D_l_bags D_l_mouths D_l_take D_l_counter D_l_a_word D_out D_who_can
end HH
open PySem PySem.W PyProof.Rows
set_option maxHeartbeats 0 in
theorem PySem.Challenge.cw_halfheard_k11_whole_unknown_ones_holds : PySem.Challenge.rw_halfheard_k11_whole_unknown_ones.Holds := by
  w_on; o_law; k_head; (case hw => w_witness2)
  k_fill
  refine L2.walk_of (l := PySem.Challenge.rw_halfheard_k11_whole_unknown_ones) (n := 63) (k := 6) (x := "script") (CX := fun _ => L2.CX0) (sp := fun w => HH.sp_law _) rfl (by decide) rfl ⟨rfl, by decide, by decide⟩ (fun w h Y => PySem.W.kIn_of Y) ?F (fun _ _ a ns hl _ hS => ⟨a, ns, rfl, hS, hl, fun _ => rfl⟩) (fun _ _ _ _ _ h => h)
  case F =>
    intro w mg fa h KX G hmg
    refine' HH.all_mk KX G hmg ?a0 ?l0 ?c0 ?k0 ?a1 ?l1 ?c1 ?k1 ?a2 ?l2 ?c2 ?k2 ?a3 ?l3 ?c3 ?k3 ?a4 ?l4 ?c4 ?k4 ?a5 ?l5 ?c5 ?k5 ?a6 ?l6 ?c6 ?k6 ?a7 ?l7 ?c7 ?k7 ?a8 ?l8 ?c8 ?k8 ?a9 ?l9 ?c9 ?k9 ?a10 ?l10 ?c10 ?k10 ?a11 ?l11 ?c11 ?k11 ?a12 ?l12 ?c12 ?k12 ?a13 ?l13 ?c13 ?k13 ?a14 ?l14 ?c14 ?k14 ?a15 ?l15 ?c15 ?k15 ?a16 ?l16 ?c16 ?k16 ?a17 ?l17 ?c17 ?k17 ?a18 ?l18 ?c18 ?k18 ?a19 ?l19 ?c19 ?k19 ?a20 ?l20 ?c20 ?k20 ?a21 ?l21 ?c21 ?k21 ?a22 ?l22 ?c22 ?k22 ?z_isinstance ?z_bool ?z_int ?z_len ?z_str ?z_all ?z_tuple ?z_range ?z_max ?z_min ?z_sorted ?z_set ?y_SMALL
    (case a0 => k_is)
    (case l0 => k_is)
    (case c0 => k_is)
    (case k0 => k_is)
    (case a1 => k_is)
    (case l1 => k_is)
    (case c1 => k_is)
    (case k1 => k_is)
    (case a2 => k_is)
    (case l2 => k_is)
    (case c2 => k_is)
    (case k2 => k_is)
    (case a3 => k_is)
    (case l3 => k_is)
    (case c3 => k_is)
    (case k3 => k_is)
    (case a4 => k_is)
    (case l4 => k_is)
    (case c4 => k_is)
    (case k4 => k_is)
    (case a5 => k_is)
    (case l5 => k_is)
    (case c5 => k_is)
    (case k5 => k_is)
    (case a6 => k_is)
    (case l6 => k_is)
    (case c6 => k_is)
    (case k6 => k_is)
    (case a7 => k_is)
    (case l7 => k_is)
    (case c7 => k_is)
    (case k7 => k_is)
    (case a8 => k_is)
    (case l8 => k_is)
    (case c8 => k_is)
    (case k8 => k_is)
    (case a9 => k_is)
    (case l9 => k_is)
    (case c9 => k_is)
    (case k9 => k_is)
    (case a10 => k_is)
    (case l10 => k_is)
    (case c10 => k_is)
    (case k10 => k_is)
    (case a11 => k_is)
    (case l11 => k_is)
    (case c11 => k_is)
    (case k11 => k_is)
    (case a12 => k_is)
    (case l12 => k_is)
    (case c12 => k_is)
    (case k12 => k_is)
    (case a13 => k_is)
    (case l13 => k_is)
    (case c13 => k_is)
    (case k13 => k_is)
    (case a14 => k_is)
    (case l14 => k_is)
    (case c14 => k_is)
    (case k14 => k_is)
    (case a15 => k_is)
    (case l15 => k_is)
    (case c15 => k_is)
    (case k15 => k_is)
    (case a16 => k_is)
    (case l16 => k_is)
    (case c16 => k_is)
    (case k16 => k_is)
    (case a17 => k_is)
    (case l17 => k_is)
    (case c17 => k_is)
    (case k17 => k_is)
    (case a18 => k_is)
    (case l18 => k_is)
    (case c18 => k_is)
    (case k18 => k_is)
    (case a19 => k_is)
    (case l19 => k_is)
    (case c19 => k_is)
    (case k19 => k_is)
    (case a20 => k_is)
    (case l20 => k_is)
    (case c20 => k_is)
    (case k20 => k_is)
    (case a21 => k_is)
    (case l21 => k_is)
    (case c21 => k_is)
    (case k21 => k_is)
    (case a22 => k_is)
    (case l22 => k_is)
    (case c22 => k_is)
    (case k22 => k_is)
    (case z_isinstance => k_is)
    (case z_bool => k_is)
    (case z_int => k_is)
    (case z_len => k_is)
    (case z_str => k_is)
    (case z_all => k_is)
    (case z_tuple => k_is)
    (case z_range => k_is)
    (case z_max => k_is)
    (case z_min => k_is)
    (case z_sorted => k_is)
    (case z_set => k_is)
    (case y_SMALL => k_is)

