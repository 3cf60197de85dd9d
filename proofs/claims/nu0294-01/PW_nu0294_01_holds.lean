import PyProof.Rows.All
import Wide.All
import OpenK.AllK
import KE.KDictIter
import KE.KLam
import KE.KTryDeep
import PyProof.ExcInit
import PyProof.ExcArgsOwn
import PyProof.IsiH_list
import PyProof.AttrMissHeap
import KE.KDictOf
import KE.RegKIsAll
import KE.KDictAnyGet
import KE.KDictObj
import KE.KExtendNil
import KE.KPopAny
import KE.KItem
import KE.KTup
import KE.KDictList
import PyProof.Rows.SortStr
import PyProof.RangeFor
import PyProof.StrWalks
import PyProof.WalksMore
import PyProof.Rows.GenSrcRange
import PyProof.FString
import PyProof.Rows.FStr
import KE.KPar
import Lean
import PySem.Challenge.RW_nu0294_01
open PySem PySem.W PySem.Calls PyProof.Rows
set_option Elab.async false
set_option autoImplicit false
set_option bootstrap.genMatcherCode false
set_option tactic.hygienic false
set_option genInjectivity false
set_option genSizeOfSpec false
set_option genSizeOf false
set_option backward.match.sparseCases false
set_option linter.unusedVariables false
set_option maxRecDepth 100000
namespace Nu.Internal
local macro_rules | `(s! $s:interpolatedStr) => do
  match s.raw.getArgs.toList with
  | [c] => match c.isInterpolatedStrLit? with
    | some str => do
      let xs := str.toList.toArray.map fun ch => Lean.Syntax.mkNumLit (toString ch.toNat)
      `(PySem.Str.mk (Array.mk [$[nat_lit $xs],*]))
    | none => Lean.Macro.throwUnsupported
  | _ => Lean.Macro.throwUnsupported
noncomputable section
noncomputable section
def af:=@wpAny_bind
def az:=@Nat.le_of_ble_eq_true
def aK:=@Nat.eq_of_beq_eq_true
def au:=@wpAny_pure
theorem aG {α}{a b:α}{l}(h:a∈b::l):a=b\/a∈l:=List.mem_cons.mp h
noncomputable def aF:=@Option.casesOn
def a9:=@List.mem_append_right
def aB:=@Exists.imp
noncomputable def aH:=@Bool.casesOn
theorem bg {α}{a b:α}(h:a∈[b]):a=b:=List.mem_singleton.mp h
theorem bn {α}{a:α}{s t:List α}(h:a∈s++t):a∈s\/a∈t:=List.mem_append.mp h
def aP:=@Nat.le_refl
noncomputable def aV:=@List.casesOn
def bS:=@List.mem_append_left
noncomputable def bc:=@Expr.casesOn
def ba:=@Nat.le_trans
theorem cx {x y:Bool}(h:(x||y)=true):x=true\/y=true:=Bool.or_eq_true_iff.mp h
def bI:=@List.not_mem_nil
theorem cL {x y:Bool}(h:(x&&y)=true):x=true/\y=true:=Bool.and_eq_true_iff.mp h
def bo:=@Prod.mk.inj
def cP:=@List.mem_map_of_mem
def bJ:=@Nat.ne_of_lt
def bD:=@Nat.zero_le
def fE:=@List.sublist_append_right
def fS:=@List.perm_append_comm_assoc
theorem eo {m n:Nat}(h:m<n):m∈List.range n:=List.mem_range.mpr h
theorem fT {α}[BEq α][LawfulBEq α]{a b:α}(h:a≠b):(a==b)=false:=beq_eq_false_iff_ne.mpr h
def cM:=@List.cons.inj
def eA:=@Bool.noConfusion
theorem gY {α}{p:α->Bool}{l:List α}(h:l.all p=true):∀x∈l,p x=true:=List.all_eq_true.mp h
def jN:=@List.sublist_append_left
def er:=@Nat.le_succ
def iR:=@Nat.lt_of_lt_of_le
theorem jO {α}{a b:Array α}(h:a.toList=b.toList):a=b:=Array.toList_inj.mp h
def jP:=@Nat.lt_of_le_of_lt
end
theorem ay {Q0 Q1:Prop}{G:Prop}(h:Q0/\Q1)(k:Q0->Q1->G):G:=k  h.1 h.2
theorem bU {Q0 Q1 Q2:Prop}{G:Prop}(h:Q0/\Q1/\Q2)(k:Q0->Q1->Q2->G):G:=k  h.1 h.2.1 h.2.2
theorem mU {Q0 Q1 Q2 Q3:Prop}{G:Prop}(h:Q0/\Q1/\Q2/\Q3)(k:Q0->Q1->Q2->Q3->G):G:=k  h.1 h.2.1 h.2.2.1 h.2.2.2
theorem yZ {Q0 Q1 Q2 Q3 Q4:Prop}{G:Prop}(h:Q0/\Q1/\Q2/\Q3/\Q4)(k:Q0->Q1->Q2->Q3->Q4->G):G:=k  h.1 h.2.1 h.2.2.1 h.2.2.2.1 h.2.2.2.2
theorem y0 {Q0 Q1 Q2 Q3 Q4 Q5:Prop}{G:Prop}(h:Q0/\Q1/\Q2/\Q3/\Q4/\Q5)(k:Q0->Q1->Q2->Q3->Q4->Q5->G):G:=k  h.1 h.2.1 h.2.2.1 h.2.2.2.1 h.2.2.2.2.1 h.2.2.2.2.2
theorem vh {Q0 Q1 Q2 Q3 Q4 Q5 Q6:Prop}{G:Prop}(h:Q0/\Q1/\Q2/\Q3/\Q4/\Q5/\Q6)(k:Q0->Q1->Q2->Q3->Q4->Q5->Q6->G):G:=k  h.1 h.2.1 h.2.2.1 h.2.2.2.1 h.2.2.2.2.1 h.2.2.2.2.2.1 h.2.2.2.2.2.2
theorem av {T0:Sort _}{Q0:T0->Prop}{G:Prop}(h:∃a0,Q0 a0)(k:∀a0,Q0 a0->G):G:=h.elim fun a0 h=>k a0 h
theorem aj {T0:Sort _}{Q0 Q1:T0->Prop}{G:Prop}(h:∃a0,Q0 a0/\Q1 a0)(k:∀a0,Q0 a0->Q1 a0->G):G:=h.elim fun a0 h=>k a0 h.1 h.2
theorem cq {T0:Sort _}{Q0 Q1 Q2:T0->Prop}{G:Prop}(h:∃a0,Q0 a0/\Q1 a0/\Q2 a0)(k:∀a0,Q0 a0->Q1 a0->Q2 a0->G):G:=h.elim fun a0 h=>k a0 h.1 h.2.1 h.2.2
theorem gE {T0:Sort _}{Q0 Q1 Q2 Q3:T0->Prop}{G:Prop}(h:∃a0,Q0 a0/\Q1 a0/\Q2 a0/\Q3 a0)(k:∀a0,Q0 a0->Q1 a0->Q2 a0->Q3 a0->G):G:=h.elim fun a0 h=>k a0 h.1 h.2.1 h.2.2.1 h.2.2.2
theorem Hw {T0:Sort _}{Q0 Q1 Q2 Q3 Q4:T0->Prop}{G:Prop}(h:∃a0,Q0 a0/\Q1 a0/\Q2 a0/\Q3 a0/\Q4 a0)(k:∀a0,Q0 a0->Q1 a0->Q2 a0->Q3 a0->Q4 a0->G):G:=h.elim fun a0 h=>k a0 h.1 h.2.1 h.2.2.1 h.2.2.2.1 h.2.2.2.2
theorem dP {T0 T1:Sort _}{Q0:T0->T1->Prop}{G:Prop}(h:∃a0 a1,Q0 a0 a1)(k:∀a0 a1,Q0 a0 a1->G):G:=h.elim fun a0 h=>h.elim fun a1 h=>k a0 a1 h
theorem aI {T0 T1:Sort _}{Q0 Q1:T0->T1->Prop}{G:Prop}(h:∃a0 a1,Q0 a0 a1/\Q1 a0 a1)(k:∀a0 a1,Q0 a0 a1->Q1 a0 a1->G):G:=h.elim fun a0 h=>h.elim fun a1 h=>k a0 a1 h.1 h.2
theorem aR {T0 T1:Sort _}{Q0 Q1 Q2:T0->T1->Prop}{G:Prop}(h:∃a0 a1,Q0 a0 a1/\Q1 a0 a1/\Q2 a0 a1)(k:∀a0 a1,Q0 a0 a1->Q1 a0 a1->Q2 a0 a1->G):G:=h.elim fun a0 h=>h.elim fun a1 h=>k a0 a1 h.1 h.2.1 h.2.2
theorem bt {T0 T1:Sort _}{Q0 Q1 Q2 Q3:T0->T1->Prop}{G:Prop}(h:∃a0 a1,Q0 a0 a1/\Q1 a0 a1/\Q2 a0 a1/\Q3 a0 a1)(k:∀a0 a1,Q0 a0 a1->Q1 a0 a1->Q2 a0 a1->Q3 a0 a1->G):G:=h.elim fun a0 h=>h.elim fun a1 h=>k a0 a1 h.1 h.2.1 h.2.2.1 h.2.2.2
theorem vj {T0 T1:Sort _}{Q0 Q1 Q2 Q3 Q4:T0->T1->Prop}{G:Prop}(h:∃a0 a1,Q0 a0 a1/\Q1 a0 a1/\Q2 a0 a1/\Q3 a0 a1/\Q4 a0 a1)(k:∀a0 a1,Q0 a0 a1->Q1 a0 a1->Q2 a0 a1->Q3 a0 a1->Q4 a0 a1->G):G:=h.elim fun a0 h=>h.elim fun a1 h=>k a0 a1 h.1 h.2.1 h.2.2.1 h.2.2.2.1 h.2.2.2.2
theorem y3 {T0 T1:Sort _}{Q0 Q1 Q2 Q3 Q4 Q5:T0->T1->Prop}{G:Prop}(h:∃a0 a1,Q0 a0 a1/\Q1 a0 a1/\Q2 a0 a1/\Q3 a0 a1/\Q4 a0 a1/\Q5 a0 a1)(k:∀a0 a1,Q0 a0 a1->Q1 a0 a1->Q2 a0 a1->Q3 a0 a1->Q4 a0 a1->Q5 a0 a1->G):G:=h.elim fun a0 h=>h.elim fun a1 h=>k a0 a1 h.1 h.2.1 h.2.2.1 h.2.2.2.1 h.2.2.2.2.1 h.2.2.2.2.2
theorem vk {T0 T1 T2:Sort _}{Q0:T0->T1->T2->Prop}{G:Prop}(h:∃a0 a1 a2,Q0 a0 a1 a2)(k:∀a0 a1 a2,Q0 a0 a1 a2->G):G:=h.elim fun a0 h=>h.elim fun a1 h=>h.elim fun a2 h=>k a0 a1 a2 h
theorem mV {T0 T1 T2:Sort _}{Q0 Q1:T0->T1->T2->Prop}{G:Prop}(h:∃a0 a1 a2,Q0 a0 a1 a2/\Q1 a0 a1 a2)(k:∀a0 a1 a2,Q0 a0 a1 a2->Q1 a0 a1 a2->G):G:=h.elim fun a0 h=>h.elim fun a1 h=>h.elim fun a2 h=>k a0 a1 a2 h.1 h.2
theorem bu {T0 T1 T2:Sort _}{Q0 Q1 Q2:T0->T1->T2->Prop}{G:Prop}(h:∃a0 a1 a2,Q0 a0 a1 a2/\Q1 a0 a1 a2/\Q2 a0 a1 a2)(k:∀a0 a1 a2,Q0 a0 a1 a2->Q1 a0 a1 a2->Q2 a0 a1 a2->G):G:=h.elim fun a0 h=>h.elim fun a1 h=>h.elim fun a2 h=>k a0 a1 a2 h.1 h.2.1 h.2.2
theorem bZ {T0 T1 T2:Sort _}{Q0 Q1 Q2 Q3:T0->T1->T2->Prop}{G:Prop}(h:∃a0 a1 a2,Q0 a0 a1 a2/\Q1 a0 a1 a2/\Q2 a0 a1 a2/\Q3 a0 a1 a2)(k:∀a0 a1 a2,Q0 a0 a1 a2->Q1 a0 a1 a2->Q2 a0 a1 a2->Q3 a0 a1 a2->G):G:=h.elim fun a0 h=>h.elim fun a1 h=>h.elim fun a2 h=>k a0 a1 a2 h.1 h.2.1 h.2.2.1 h.2.2.2
theorem cK {T0 T1 T2:Sort _}{Q0 Q1 Q2 Q3 Q4:T0->T1->T2->Prop}{G:Prop}(h:∃a0 a1 a2,Q0 a0 a1 a2/\Q1 a0 a1 a2/\Q2 a0 a1 a2/\Q3 a0 a1 a2/\Q4 a0 a1 a2)(k:∀a0 a1 a2,Q0 a0 a1 a2->Q1 a0 a1 a2->Q2 a0 a1 a2->Q3 a0 a1 a2->Q4 a0 a1 a2->G):G:=h.elim fun a0 h=>h.elim fun a1 h=>h.elim fun a2 h=>k a0 a1 a2 h.1 h.2.1 h.2.2.1 h.2.2.2.1 h.2.2.2.2
theorem ir {T0 T1 T2:Sort _}{Q0 Q1 Q2 Q3 Q4 Q5:T0->T1->T2->Prop}{G:Prop}(h:∃a0 a1 a2,Q0 a0 a1 a2/\Q1 a0 a1 a2/\Q2 a0 a1 a2/\Q3 a0 a1 a2/\Q4 a0 a1 a2/\Q5 a0 a1 a2)(k:∀a0 a1 a2,Q0 a0 a1 a2->Q1 a0 a1 a2->Q2 a0 a1 a2->Q3 a0 a1 a2->Q4 a0 a1 a2->Q5 a0 a1 a2->G):G:=h.elim fun a0 h=>h.elim fun a1 h=>h.elim fun a2 h=>k a0 a1 a2 h.1 h.2.1 h.2.2.1 h.2.2.2.1 h.2.2.2.2.1 h.2.2.2.2.2
theorem jE {T0 T1 T2 T3:Sort _}{Q0:T0->T1->T2->T3->Prop}{G:Prop}(h:∃a0 a1 a2 a3,Q0 a0 a1 a2 a3)(k:∀a0 a1 a2 a3,Q0 a0 a1 a2 a3->G):G:=h.elim fun a0 h=>h.elim fun a1 h=>h.elim fun a2 h=>h.elim fun a3 h=>k a0 a1 a2 a3 h
theorem Hx {T0 T1 T2 T3:Sort _}{Q0 Q1:T0->T1->T2->T3->Prop}{G:Prop}(h:∃a0 a1 a2 a3,Q0 a0 a1 a2 a3/\Q1 a0 a1 a2 a3)(k:∀a0 a1 a2 a3,Q0 a0 a1 a2 a3->Q1 a0 a1 a2 a3->G):G:=h.elim fun a0 h=>h.elim fun a1 h=>h.elim fun a2 h=>h.elim fun a3 h=>k a0 a1 a2 a3 h.1 h.2
theorem Hy {T0 T1 T2 T3:Sort _}{Q0 Q1 Q2:T0->T1->T2->T3->Prop}{G:Prop}(h:∃a0 a1 a2 a3,Q0 a0 a1 a2 a3/\Q1 a0 a1 a2 a3/\Q2 a0 a1 a2 a3)(k:∀a0 a1 a2 a3,Q0 a0 a1 a2 a3->Q1 a0 a1 a2 a3->Q2 a0 a1 a2 a3->G):G:=h.elim fun a0 h=>h.elim fun a1 h=>h.elim fun a2 h=>h.elim fun a3 h=>k a0 a1 a2 a3 h.1 h.2.1 h.2.2
theorem iS {T0 T1 T2 T3:Sort _}{Q0 Q1 Q2 Q3:T0->T1->T2->T3->Prop}{G:Prop}(h:∃a0 a1 a2 a3,Q0 a0 a1 a2 a3/\Q1 a0 a1 a2 a3/\Q2 a0 a1 a2 a3/\Q3 a0 a1 a2 a3)(k:∀a0 a1 a2 a3,Q0 a0 a1 a2 a3->Q1 a0 a1 a2 a3->Q2 a0 a1 a2 a3->Q3 a0 a1 a2 a3->G):G:=h.elim fun a0 h=>h.elim fun a1 h=>h.elim fun a2 h=>h.elim fun a3 h=>k a0 a1 a2 a3 h.1 h.2.1 h.2.2.1 h.2.2.2
theorem Hz {T0 T1 T2 T3:Sort _}{Q0 Q1 Q2 Q3 Q4 Q5:T0->T1->T2->T3->Prop}{G:Prop}(h:∃a0 a1 a2 a3,Q0 a0 a1 a2 a3/\Q1 a0 a1 a2 a3/\Q2 a0 a1 a2 a3/\Q3 a0 a1 a2 a3/\Q4 a0 a1 a2 a3/\Q5 a0 a1 a2 a3)(k:∀a0 a1 a2 a3,Q0 a0 a1 a2 a3->Q1 a0 a1 a2 a3->Q2 a0 a1 a2 a3->Q3 a0 a1 a2 a3->Q4 a0 a1 a2 a3->Q5 a0 a1 a2 a3->G):G:=h.elim fun a0 h=>h.elim fun a1 h=>h.elim fun a2 h=>h.elim fun a3 h=>k a0 a1 a2 a3 h.1 h.2.1 h.2.2.1 h.2.2.2.1 h.2.2.2.2.1 h.2.2.2.2.2
theorem HA {T0 T1 T2 T3 T4:Sort _}{Q0 Q1:T0->T1->T2->T3->T4->Prop}{G:Prop}(h:∃a0 a1 a2 a3 a4,Q0 a0 a1 a2 a3 a4/\Q1 a0 a1 a2 a3 a4)(k:∀a0 a1 a2 a3 a4,Q0 a0 a1 a2 a3 a4->Q1 a0 a1 a2 a3 a4->G):G:=h.elim fun a0 h=>h.elim fun a1 h=>h.elim fun a2 h=>h.elim fun a3 h=>h.elim fun a4 h=>k a0 a1 a2 a3 a4 h.1 h.2
theorem vm {T0 T1 T2 T3 T4:Sort _}{Q0 Q1 Q2 Q3:T0->T1->T2->T3->T4->Prop}{G:Prop}(h:∃a0 a1 a2 a3 a4,Q0 a0 a1 a2 a3 a4/\Q1 a0 a1 a2 a3 a4/\Q2 a0 a1 a2 a3 a4/\Q3 a0 a1 a2 a3 a4)(k:∀a0 a1 a2 a3 a4,Q0 a0 a1 a2 a3 a4->Q1 a0 a1 a2 a3 a4->Q2 a0 a1 a2 a3 a4->Q3 a0 a1 a2 a3 a4->G):G:=h.elim fun a0 h=>h.elim fun a1 h=>h.elim fun a2 h=>h.elim fun a3 h=>h.elim fun a4 h=>k a0 a1 a2 a3 a4 h.1 h.2.1 h.2.2.1 h.2.2.2
theorem pS {T0 T1 T2 T3 T4:Sort _}{Q0 Q1 Q2 Q3 Q4:T0->T1->T2->T3->T4->Prop}{G:Prop}(h:∃a0 a1 a2 a3 a4,Q0 a0 a1 a2 a3 a4/\Q1 a0 a1 a2 a3 a4/\Q2 a0 a1 a2 a3 a4/\Q3 a0 a1 a2 a3 a4/\Q4 a0 a1 a2 a3 a4)(k:∀a0 a1 a2 a3 a4,Q0 a0 a1 a2 a3 a4->Q1 a0 a1 a2 a3 a4->Q2 a0 a1 a2 a3 a4->Q3 a0 a1 a2 a3 a4->Q4 a0 a1 a2 a3 a4->G):G:=h.elim fun a0 h=>h.elim fun a1 h=>h.elim fun a2 h=>h.elim fun a3 h=>h.elim fun a4 h=>k a0 a1 a2 a3 a4 h.1 h.2.1 h.2.2.1 h.2.2.2.1 h.2.2.2.2
theorem HC {T0 T1 T2 T3 T4:Sort _}{Q0 Q1 Q2 Q3 Q4 Q5:T0->T1->T2->T3->T4->Prop}{G:Prop}(h:∃a0 a1 a2 a3 a4,Q0 a0 a1 a2 a3 a4/\Q1 a0 a1 a2 a3 a4/\Q2 a0 a1 a2 a3 a4/\Q3 a0 a1 a2 a3 a4/\Q4 a0 a1 a2 a3 a4/\Q5 a0 a1 a2 a3 a4)(k:∀a0 a1 a2 a3 a4,Q0 a0 a1 a2 a3 a4->Q1 a0 a1 a2 a3 a4->Q2 a0 a1 a2 a3 a4->Q3 a0 a1 a2 a3 a4->Q4 a0 a1 a2 a3 a4->Q5 a0 a1 a2 a3 a4->G):G:=h.elim fun a0 h=>h.elim fun a1 h=>h.elim fun a2 h=>h.elim fun a3 h=>h.elim fun a4 h=>k a0 a1 a2 a3 a4 h.1 h.2.1 h.2.2.1 h.2.2.2.1 h.2.2.2.2.1 h.2.2.2.2.2
theorem HD {T0 T1 T2 T3 T4:Sort _}{Q0 Q1 Q2 Q3 Q4 Q5 Q6:T0->T1->T2->T3->T4->Prop}{G:Prop}(h:∃a0 a1 a2 a3 a4,Q0 a0 a1 a2 a3 a4/\Q1 a0 a1 a2 a3 a4/\Q2 a0 a1 a2 a3 a4/\Q3 a0 a1 a2 a3 a4/\Q4 a0 a1 a2 a3 a4/\Q5 a0 a1 a2 a3 a4/\Q6 a0 a1 a2 a3 a4)(k:∀a0 a1 a2 a3 a4,Q0 a0 a1 a2 a3 a4->Q1 a0 a1 a2 a3 a4->Q2 a0 a1 a2 a3 a4->Q3 a0 a1 a2 a3 a4->Q4 a0 a1 a2 a3 a4->Q5 a0 a1 a2 a3 a4->Q6 a0 a1 a2 a3 a4->G):G:=h.elim fun a0 h=>h.elim fun a1 h=>h.elim fun a2 h=>h.elim fun a3 h=>h.elim fun a4 h=>k a0 a1 a2 a3 a4 h.1 h.2.1 h.2.2.1 h.2.2.2.1 h.2.2.2.2.1 h.2.2.2.2.2.1 h.2.2.2.2.2.2
theorem HE {T0 T1 T2 T3 T4 T5:Sort _}{Q0:T0->T1->T2->T3->T4->T5->Prop}{G:Prop}(h:∃a0 a1 a2 a3 a4 a5,Q0 a0 a1 a2 a3 a4 a5)(k:∀a0 a1 a2 a3 a4 a5,Q0 a0 a1 a2 a3 a4 a5->G):G:=h.elim fun a0 h=>h.elim fun a1 h=>h.elim fun a2 h=>h.elim fun a3 h=>h.elim fun a4 h=>h.elim fun a5 h=>k a0 a1 a2 a3 a4 a5 h
theorem HF {T0 T1 T2 T3 T4 T5:Sort _}{Q0 Q1:T0->T1->T2->T3->T4->T5->Prop}{G:Prop}(h:∃a0 a1 a2 a3 a4 a5,Q0 a0 a1 a2 a3 a4 a5/\Q1 a0 a1 a2 a3 a4 a5)(k:∀a0 a1 a2 a3 a4 a5,Q0 a0 a1 a2 a3 a4 a5->Q1 a0 a1 a2 a3 a4 a5->G):G:=h.elim fun a0 h=>h.elim fun a1 h=>h.elim fun a2 h=>h.elim fun a3 h=>h.elim fun a4 h=>h.elim fun a5 h=>k a0 a1 a2 a3 a4 a5 h.1 h.2
theorem DJ {T0 T1 T2 T3 T4 T5:Sort _}{Q0 Q1 Q2 Q3:T0->T1->T2->T3->T4->T5->Prop}{G:Prop}(h:∃a0 a1 a2 a3 a4 a5,Q0 a0 a1 a2 a3 a4 a5/\Q1 a0 a1 a2 a3 a4 a5/\Q2 a0 a1 a2 a3 a4 a5/\Q3 a0 a1 a2 a3 a4 a5)(k:∀a0 a1 a2 a3 a4 a5,Q0 a0 a1 a2 a3 a4 a5->Q1 a0 a1 a2 a3 a4 a5->Q2 a0 a1 a2 a3 a4 a5->Q3 a0 a1 a2 a3 a4 a5->G):G:=h.elim fun a0 h=>h.elim fun a1 h=>h.elim fun a2 h=>h.elim fun a3 h=>h.elim fun a4 h=>h.elim fun a5 h=>k a0 a1 a2 a3 a4 a5 h.1 h.2.1 h.2.2.1 h.2.2.2
theorem mX {T0 T1 T2 T3 T4 T5:Sort _}{Q0 Q1 Q2 Q3 Q4 Q5 Q6:T0->T1->T2->T3->T4->T5->Prop}{G:Prop}(h:∃a0 a1 a2 a3 a4 a5,Q0 a0 a1 a2 a3 a4 a5/\Q1 a0 a1 a2 a3 a4 a5/\Q2 a0 a1 a2 a3 a4 a5/\Q3 a0 a1 a2 a3 a4 a5/\Q4 a0 a1 a2 a3 a4 a5/\Q5 a0 a1 a2 a3 a4 a5/\Q6 a0 a1 a2 a3 a4 a5)(k:∀a0 a1 a2 a3 a4 a5,Q0 a0 a1 a2 a3 a4 a5->Q1 a0 a1 a2 a3 a4 a5->Q2 a0 a1 a2 a3 a4 a5->Q3 a0 a1 a2 a3 a4 a5->Q4 a0 a1 a2 a3 a4 a5->Q5 a0 a1 a2 a3 a4 a5->Q6 a0 a1 a2 a3 a4 a5->G):G:=h.elim fun a0 h=>h.elim fun a1 h=>h.elim fun a2 h=>h.elim fun a3 h=>h.elim fun a4 h=>h.elim fun a5 h=>k a0 a1 a2 a3 a4 a5 h.1 h.2.1 h.2.2.1 h.2.2.2.1 h.2.2.2.2.1 h.2.2.2.2.2.1 h.2.2.2.2.2.2
theorem HG {T0 T1 T2 T3 T4 T5 T6 T7:Sort _}{Q0 Q1:T0->T1->T2->T3->T4->T5->T6->T7->Prop}{G:Prop}(h:∃a0 a1 a2 a3 a4 a5 a6 a7,Q0 a0 a1 a2 a3 a4 a5 a6 a7/\Q1 a0 a1 a2 a3 a4 a5 a6 a7)(k:∀a0 a1 a2 a3 a4 a5 a6 a7,Q0 a0 a1 a2 a3 a4 a5 a6 a7->Q1 a0 a1 a2 a3 a4 a5 a6 a7->G):G:=h.elim fun a0 h=>h.elim fun a1 h=>h.elim fun a2 h=>h.elim fun a3 h=>h.elim fun a4 h=>h.elim fun a5 h=>h.elim fun a6 h=>h.elim fun a7 h=>k a0 a1 a2 a3 a4 a5 a6 a7 h.1 h.2
theorem y4 {T0 T1 T2 T3 T4 T5 T6 T7:Sort _}{Q0 Q1 Q2 Q3 Q4:T0->T1->T2->T3->T4->T5->T6->T7->Prop}{G:Prop}(h:∃a0 a1 a2 a3 a4 a5 a6 a7,Q0 a0 a1 a2 a3 a4 a5 a6 a7/\Q1 a0 a1 a2 a3 a4 a5 a6 a7/\Q2 a0 a1 a2 a3 a4 a5 a6 a7/\Q3 a0 a1 a2 a3 a4 a5 a6 a7/\Q4 a0 a1 a2 a3 a4 a5 a6 a7)(k:∀a0 a1 a2 a3 a4 a5 a6 a7,Q0 a0 a1 a2 a3 a4 a5 a6 a7->Q1 a0 a1 a2 a3 a4 a5 a6 a7->Q2 a0 a1 a2 a3 a4 a5 a6 a7->Q3 a0 a1 a2 a3 a4 a5 a6 a7->Q4 a0 a1 a2 a3 a4 a5 a6 a7->G):G:=h.elim fun a0 h=>h.elim fun a1 h=>h.elim fun a2 h=>h.elim fun a3 h=>h.elim fun a4 h=>h.elim fun a5 h=>h.elim fun a6 h=>h.elim fun a7 h=>k a0 a1 a2 a3 a4 a5 a6 a7 h.1 h.2.1 h.2.2.1 h.2.2.2.1 h.2.2.2.2
theorem an1 {a b:Bool}(h:(a&&b)=true):a=true:=(cL h).1
theorem an2 {a b:Bool}(h:(a&&b)=true):b=true:=(cL h).2
theorem y5 {P:Prop}(h:∀G:Prop,(P->G)->G):P:=h P id
inductive Cd where
 |non|boo (b:Bool)|int (i:Int)|str (l:List Nat)|uv (k:Nat)
 |nil|cons (a r:Cd)|lst (l:Cd)
inductive Ae where
 |v (k:Nat)|c (i:Int)|add (a b:Ae)|mul (a b:Ae)|md (a:Ae) (m:Int)|dv (a:Ae) (m:Int)
noncomputable def Ae.val (ι:Nat->Int):Ae->Int
 |.v k=>ι k
 |.c i=>i
 |.add a b=>a.val ι+b.val ι
 |.mul a b=>a.val ι*b.val ι
 |.md a m=>Int.fmod (a.val ι) m
 |.dv a m=>Int.fdiv (a.val ι) m
inductive AV where
 |non|boo (b:Bool)|int (i:Int)|str (l:List Nat)
 |obj (i:Nat)|st (a:Addr)|bi (n:Nat)|ty (n:Nat)
 |si (k:Nat) (o:Int)
 |ss (p:List Nat) (k:Nat) (q:List Nat)
 |uv (k:Nat)
 |rp (c:Cd)
 |ut (n:Nat)
 |lo (n:Nat)
 |hi (k:Nat) (o:Int)
 |nm (k:Nat)
 |ar (e:Ae)
 |ge (n:Int)
 |opt (k:Nat)
 |opn (k:Nat)
 |rn
 |ai
noncomputable def bnm:Nat->String
 |0=>"len"|1=>"isinstance"|2=>"repr"|3=>"sorted"|4=>"abs"|5=>"min"|6=>"ord"|7=>"chr"|_=>"print"
noncomputable def tnm:Nat->String
 |0=>"int"|1=>"bool"|2=>"str"|3=>"list"|4=>"dict"|5=>"tuple"|6=>"range"|7=>"ValueError"|_=>"object"
structure Vl where
 ρ:Nat->Option Addr
 δ:Nat->Option Addr
 ι:Nat->Int
 τ:Nat->Option (List Nat)
structure Vl.le (V W:Vl):Prop where
 ρ:∀i a,V.ρ i=some a->W.ρ i=some a
 δ:∀i a,V.δ i=some a->W.δ i=some a
 ι:W.ι=V.ι
 τ:∀i l,V.τ i=some l->W.τ i=some l
theorem Vl.le.refl (V:Vl):V.le V:=⟨fun zz zz h=>h,fun zz zz h=>h,rfl,fun zz zz h=>h⟩
theorem Vl.le.trans {U V W:Vl}(a:U.le V)(b:V.le W):U.le W:=⟨fun i x h=>b.ρ i x (a.ρ i x h),fun i x h=>b.δ i x (a.δ i x h),b.ι.trans a.ι,fun i x h=>b.τ i x (a.τ i x h)⟩
mutual
noncomputable def Cd.dat (V:Vl):Cd->PyData
 |.non=>.none
 |.boo b=>.bool b
 |.int i=>.int i
 |.str l=>.str ⟨l.toArray⟩
 |.uv k=>if V.ι k=-1 then .none else .int (V.ι k)
 |.lst l=>.list (Cd.dats V l)
 |.nil=>.none
 |.cons _ _=>.none
noncomputable def Cd.dats (V:Vl):Cd->List PyData
 |.cons a r=>Cd.dat V a::Cd.dats V r
 |_=>[]
end
theorem Cd.ι_eq {V W:Vl}(h:W.ι=V.ι):∀c:Cd,Cd.dat W c=Cd.dat V c/\Cd.dats W c=Cd.dats V c
 |.non|.boo _|.int _|.str _|.nil=>⟨rfl,rfl⟩
 |.uv k=>⟨by unfold Cd.dat;rw[h],rfl⟩
 |.lst l=>⟨by unfold Cd.dat;rw[(Cd.ι_eq h l).2],rfl⟩
 |.cons a r=>⟨rfl,by unfold Cd.dats;rw[(Cd.ι_eq h a).1,(Cd.ι_eq h r).2]⟩
def Den (V:Vl):AV->Value->Prop
 |.non,v=>v=.none
 |.boo b,v=>v=.bool b
 |.int i,v=>∃t,v=.int i t
 |.str l,v=>∃t,v=.str ⟨l.toArray⟩ t
 |.obj i,v=>∃a,V.ρ i=some a/\v=.ref a
 |.st a,v=>v=.ref a
 |.bi n,v=>v=.builtin (bnm n)
 |.ty n,v=>v=.type (tnm n)
 |.si k o,v=>∃t,v=.int (V.ι k+o) t
 |.ss p k q,v=>∃l t,V.τ k=some l/\v=.str ⟨(p++l++q).toArray⟩ t
 |.uv k,v=>1000<=k/\((V.ι k=-1/\v=.none)\/(V.ι k≠-1/\∃t,v=.int (V.ι k) t))
 |.rp c,v=>∃t,v=.str (PyData.shown (Cd.dat V c)) t
 |.ut n,v=>∃x t,v=.str x t/\x.length<=n
 |.lo n,v=>∃(i:Nat) (t:Tok),v=.int i t/\i<=n
 |.hi k o,v=>∃(i:Int) (t:Tok),v=.int i t/\V.ι k+o<=i
 |.nm k,v=>∃(z:Nat) (t:Tok),V.δ k=some z/\v=.int (z:Int) t
 |.ar e,v=>∃t,v=.int (e.val V.ι) t
 |.ge n,v=>∃(i:Int) (t:Tok),v=.int i t/\n<=i
 |.opt k,v=>(V.ι k=-1/\v=.none)\/(V.ι k≠-1/\v=.ref (V.ι k).toNat)
 |.opn k,v=>V.ι k=-1->v=.none
 |.rn,v=>v=.none\/∃a,v=.ref a
 |.ai,v=>∃(i:Int) (t:Tok),v=.int i t
theorem Den.mono {V W:Vl}(h:V.le W):∀{a:AV} {v:Value},Den V a v->Den W a v
 |.non,_,d|.boo _,_,d|.int _,_,d|.str _,_,d|.st _,_,d|.bi _,_,d|.ty _,_,d|.ut _,_,d|.lo _,_,d|.ge _,_,d|.rn,_,d|.ai,_,d=>d
 |.obj _,_,⟨a,h1,h2⟩=>⟨a,h.ρ _ _ h1,h2⟩
 |.si _ _,_,d=>by unfold Den at *;rw[h.ι];exact d
 |.uv _,_,d=>by unfold Den at *;rw[h.ι];exact d
 |.rp c,_,⟨t,e⟩=>⟨t,by rw[(Cd.ι_eq h.ι c).1];exact e⟩
 |.ss _ _ _,_,⟨l,t,h1,h2⟩=>⟨l,t,h.τ _ _ h1,h2⟩
 |.hi _ _,_,d|.ar _,_,d|.opt _,_,d|.opn _,_,d=>by unfold Den at *;rw[h.ι];exact d
 |.nm _,_,⟨z,t,h1,h2⟩=>⟨z,t,h.δ _ _ h1,h2⟩
def Dens (V:Vl):List AV->List Value->Prop
 |[],[]=>True
 |a::r,v::s=>Den V a v/\Dens V r s
 |_,_=>False
theorem Dens.mono {V W:Vl}(h:V.le W):∀{a:List AV} {v:List Value},Dens V a v->Dens W a v
 |[],[],_=>trivial
 |_::_,_::_,⟨a,b⟩=>⟨a.mono h,Dens.mono h b⟩
 |[],_::_,d|_::_,[],d=>d
theorem Dens.length {V:Vl}:∀{a:List AV} {v:List Value},Dens V a v->v.length=a.length
 |[],[],_=>rfl
 |_::_,_::_,⟨_,b⟩=>by rw[List.length_cons,List.length_cons,b.length]
 |[],_::_,d|_::_,[],d=>d.elim
def sq (a b:Str):Bool:=Fast.lEq a.cps.toList b.cps.toList
theorem bh {a b:Str}:sq a b=true ↔ a=b:=by
 obtain ⟨⟨a⟩⟩:=a;obtain ⟨⟨b⟩⟩:=b;refine Fast.lEq_iff.trans ⟨fun e=>?_,fun e=>?_⟩
 ·obtain rfl:a=b:=e;rfl
 ·injection e with e;injection e with e
def aw {α:Type} (l:List (Str×α)) (x:Str):Option α:=@List.rec (Str×α) (fun zz=>Option α) none (fun p zz ih=>@Bool.rec (fun zz=>Option α) ih (some p.2) (sq p.1 x)) l
theorem qV {α:Type}(x:Str):aw ([]:List (Str×α)) x=none:=rfl
theorem aY {α:Type}(p:Str×α)(r:List (Str×α))(x:Str):aw (p::r) x=if p.1=x then some p.2 else aw r x:=by
 show @Bool.rec (fun zz=>Option α) (aw r x) (some p.2) (sq p.1 x)=_;generalize h:sq p.1 x=x';induction x' using aH with
 |true=>rw[if_pos (bh.mp h)]
 |false=>rw[if_neg fun e=>by rw[bh.mpr e]at h;cases h]
theorem aQ {α:Type}(x:Str):∀l:List (Str×α),aw l x=l.lookup x
 |[]=>rfl
 |p::r=>by
  rw[aY,List.lookup_cons,aQ x r];by_cases h:p.1=x
  ·rw[if_pos h,h,beq_self_eq_true]
  ·rw[if_neg h];have:(x==p.1)=false:=fT fun e=>h e.symm;rw[this]
def put {α:Type} (l:List (Str×α)) (x:Str) (v:α):List (Str×α):=@List.rec (Str×α) (fun zz=>List (Str×α)) [(x,v)] (fun p r ih=>@Bool.rec (fun zz=>List (Str×α)) (p::ih) ((x,v)::r) (sq p.1 x)) l
theorem eB {α:Type}(p:Str×α)(r:List (Str×α))(x:Str)(v:α):put (p::r) x v=if p.1=x then (x,v)::r else p::put r x v:=by
 show @Bool.rec (fun zz=>List (Str×α)) (p::put r x v) ((x,v)::r) (sq p.1 x)=_;generalize h:sq p.1 x=x';induction x' using aH with
 |true=>rw[if_pos (bh.mp h)]
 |false=>rw[if_neg fun e=>by rw[bh.mpr e]at h;cases h]
theorem fU {α:Type}(x:Str)(v:α)(y:Str):∀l:List (Str×α),aw (put l x v) y=if x=y then some v else aw l y
 |[]=>by show aw [(x,v)] y=_;rw[aY,qV]
 |p::r=>by
  rw[eB];by_cases h:p.1=x
  ·rw[if_pos h,aY,aY,h];by_cases q:x=y
   ·rw[if_pos q,if_pos q]
   ·rw[if_neg q,if_neg q,if_neg q]
  ·rw[if_neg h,aY,aY,fU x v y r];by_cases q:p.1=y
   ·rw[if_pos q,if_pos q,if_neg fun e=>h (q.trans e.symm)]
   ·rw[if_neg q,if_neg q]
structure Lm where
 params:Arguments
 body:Expr
 scope:Scope
 qual:Str
structure OpP where
 wi:Nat
 js:List Nat
 t:Nat
inductive AO where
 |inst (C:Addr) (n:Nat) (fs:List (Str×AV))
 |lst (es:List AV)
 |tup (es:List AV)
 |dic (kvs:List (Str×AV))
 |cel (v:Option AV)
 |nsp (fs:List (Str×AV))
 |itr (i:Nat) (k:Nat)
 |gone
 |jnk
 |itu (t:AV) (k:Nat)
 |itg (es:List AV) (k:Nat)
 |dit (kvs:List (Str×AV)) (k:Nat) (j:Nat)
 |dkt (j:Nat)
 |rng (n:Nat)
 |rws (j:Nat) (ks:List Str) (v:AV)
 |vws (i:Nat)
 |rit (b:Bool) (e:Option (Nat×List Str×AV)) (k:Nat) (j:Nat)
 |clo (lm:Lm) (cs:List (Str×Nat)) (t:Nat)
 |ctb (P:Addr) (q:Str) (js:List Nat)
 |bx (b:Nat) (ds:List (Nat×AV))
 |opm (k:Nat) (fs:List (Str×AV))
 |opq (p:OpP)
 |tie (k c:Nat)
 |fdc (kvs:List (Str×AV))
 |lsu (pre:List Value) (ap:List AV)
 |lsx (o:Obj) (pre:List Value)
 |ex0 (C:Addr)
 |exd (C:Addr) (fr:Bool) (j:Nat) (n:Nat) (fs:List (Str×AV))
 |xdc (C:Addr) (j:Nat) (n:Nat) (fs:List (Str×AV))
noncomputable section
noncomputable def aA:=@AV.casesOn
noncomputable def aN:=@AO.casesOn
end
def aa {α:Type} (l:List (Nat×α)) (i:Nat):Option α:=@List.rec (Nat×α) (fun zz=>Option α) none (fun p zz ih=>@Bool.rec (fun zz=>Option α) ih (some p.2) (Nat.beq p.1 i)) l
theorem aM {α:Type}(p:Nat×α)(r:List (Nat×α))(i:Nat):aa (p::r) i=if p.1=i then some p.2 else aa r i:=by
 show @Bool.rec (fun zz=>Option α) (aa r i) (some p.2) (Nat.beq p.1 i)=_;rw[BT.beq_eq];by_cases h:p.1=i<;>simp [h]
def bf {α:Type} (l:List (Nat×α)) (i:Nat) (v:α):List (Nat×α):=@List.rec (Nat×α) (fun zz=>List (Nat×α)) [] (fun p r ih=>@Bool.rec (fun zz=>List (Nat×α)) (p::ih) ((i,v)::r) (Nat.beq p.1 i)) l
theorem bv {α:Type}(p:Nat×α)(r:List (Nat×α))(i:Nat)(v:α):bf (p::r) i v=if p.1=i then (i,v)::r else p::bf r i v:=by
 show @Bool.rec (fun zz=>List (Nat×α)) (p::bf r i v) ((i,v)::r) (Nat.beq p.1 i)=_;rw[BT.beq_eq];by_cases h:p.1=i<;>simp [h]
structure Ents (V:Vl) (fl:List Str) (n:Nat) (fs:List (Str×AV)) (es:List DictEntry):Prop where
 keys:∀e∈es,∃x t,e.key=.str x t/\x∈fl
 len:es.length<=n
 known:∀x v,aw fs x=some v->∃u,getL x es=some (some u)/\Den V v u
theorem Ents.mono {V W:Vl}{fl:List Str}{n:Nat}{fs:List (Str×AV)}{es:List DictEntry}(E:Ents V fl n fs es)(h:V.le W):Ents W fl n fs es:=
 ⟨E.keys,E.len,fun x v e=>let ⟨u,a,b⟩:=E.known x v e;⟨u,a,b.mono h⟩⟩
theorem mZ {e:DictEntry}{x:Str}{t:Tok}(h:e.key=.str x t):e.refKey=false:=by
 unfold DictEntry.refKey;rw[h]
theorem eV {e:DictEntry}{x y:Str}{t:Tok}(h:e.key=.str x t):e.key.isStr y=decide (x=y):=by
 rw[h];show (x==y)=_;by_cases q:x=y<;>simp [q]
def eW (es:List DictEntry):Prop:=∀e∈es,∃x t,e.key=.str x t
theorem cA {e:DictEntry}{r:List DictEntry}{x y:Str}{t:Tok}(h:e.key=.str x t)(_:eW r):getL y (e::r)=if x=y then some (some e.val) else getL y r:=by
 unfold getL;rw[List.find?_cons,eV h];by_cases q:x=y
 ·simp [q]
 ·simp only[q,decide_false,if_false];generalize hf:(r.find? (fun d=>d.key.isStr y))=x';induction x' using aF with
  |some d=>rfl
  |none=>rw[List.any_cons,mZ h,Bool.false_or]
theorem pT {es:List DictEntry}(K:eW es){y:Str}(h:∀e∈es,∀x t,e.key=.str x t->x≠y):getL y es=some none:=by
 induction es with
 |nil=>rfl
 |cons e r ih=>
  refine dP (K e (.head _)) fun x t hx=>?_;rw[cA hx (fun e' m=>K e' (.tail _ m)),if_neg (h e (.head _) x t hx)];exact ih (fun e' m=>K e' (.tail _ m)) fun e' m=>h e' (.tail _ m)
theorem jQ {es:List DictEntry}(K:eW es)(y:Str):(getL y es).isSome=true:=by
 induction es with
 |nil=>rfl
 |cons e r ih=>
  refine dP (K e (.head _)) fun x t hx=>?_;rw[cA hx (fun e' m=>K e' (.tail _ m))]
  split
  ·rfl
  ·exact ih fun e' m=>K e' (.tail _ m)
theorem jR {es:List DictEntry}{x:Str}{h:Int}{t:Tok}{v:Value}{P:Str->Prop}(hx:P x)(K:∀e∈es,∃x t,e.key=.str x t/\P x):∀e∈putL x h (.str x t) v es,∃x t,e.key=.str x t/\P x:=by
 induction es with
 |nil=>intro e m;cases m with|head=>exact ⟨x,t,rfl,hx⟩|tail _ m=>cases m
 |cons e r ih=>
  intro e' m;unfold putL at m
  split at m
  ·cases m with
   |head=>refine aI (K e (.head _)) fun y u a b=>?_;exact ⟨y,u,a,b⟩
   |tail _ m=>exact K e' (.tail _ m)
  ·cases m with
   |head=>exact K e (.head _)
   |tail _ m=>exact ih (fun e' m=>K e' (.tail _ m)) e' m
theorem qW {es:List DictEntry}{x:Str}{h:Int}{k v:Value}:(putL x h k v es).length<=es.length+1:=by
 induction es with
 |nil=>exact aP _
 |cons e r ih=>
  unfold putL
  split
  ·rw[List.length_cons,List.length_cons];lia
  ·rw[List.length_cons,List.length_cons];lia
theorem pU {es:List DictEntry}(K:eW es)(x:Str)(h:Int)(t:Tok)(v:Value)(y:Str):getL y (putL x h (.str x t) v es)=if x=y then some (some v) else getL y es:=by
 induction es with
 |nil=>show getL y [⟨h,.str x t,v⟩]=_;rw[cA (x:=x) (t:=t) rfl (fun e m=>absurd m List.not_mem_nil)]
 |cons e r ih=>
  refine dP (K e (.head _)) fun z u hz=>?_;have Kr:eW r:=fun e' m=>K e' (.tail _ m);unfold putL;rw[eV hz];by_cases q:z=x
  ·subst q;simp only[decide_true,if_true];rw[cA (e:=⟨e.hash,e.key,v⟩) (x:=z) (t:=u) hz Kr,cA hz Kr];by_cases q:z=y<;>simp [q]
  ·simp only[q,decide_false,Bool.false_eq_true,if_false];rw[cA hz (fun e' m=>let ⟨a,b,c,_⟩:=jR (P:=fun zz=>True) trivial (fun e m=>let ⟨a,b,c⟩:=Kr e m;⟨a,b,c,trivial⟩) e' m;⟨a,b,c⟩),cA hz Kr,ih Kr];by_cases q1:z=y
   ·rw[if_pos q1,if_pos q1,if_neg fun e=>q (q1.trans e.symm)]
   ·rw[if_neg q1,if_neg q1]
def Zs (V:Vl):List (Str×AV)->List (Str×Value)->Prop
 |[],[]=>True
 |a::r,b::q=>a.1=b.1/\Den V a.2 b.2/\Zs V r q
 |_,_=>False
theorem Zs.mono {V W:Vl}(le:V.le W):∀{a:List (Str×AV)} {b:List (Str×Value)},Zs V a b->Zs W a b
 |[],[],_=>trivial
 |_::_,_::_,⟨h1,h2,h3⟩=>⟨h1,h2.mono le,Zs.mono le h3⟩
 |[],_::_,h|_::_,[],h=>h.elim
structure WkOk (w:World) (V:Vl) (x:Addr) (o:Obj) (es:List AV) (k:Nat):Prop where
 ex:∃(St:Nat->Heap->Prop) (P:Nat->Value->Prop) (N:Nat),(∀prog A,A.handled=none->Walks prog w A x [x] [x] N P St)/\N=es.length/\(∀h:Heap,h.get? x=some o->St k h)/\(∀i h,St i h->∃o',h.get? x=some o')/\
  ∀i v,P i v->∃a,es[i]? = some a/\Den V a v
def RowIs (w:World) (V:Vl):Option (Nat×List Str×AV)->Array DictEntry->Prop
 |none,es=>es = #[]
 |some (j,ks,v),es=>∃ka u,es = #[⟨tupleKeyHash (strKind default w) ks,.ref ka,u⟩]/\V.ρ j=some ka/\Den V v u
theorem RowIs.mono {w:World}{V W:Vl}(h:V.le W):∀{e:Option (Nat×List Str×AV)} {es:Array DictEntry},RowIs w V e es->RowIs w W e es
 |none,_,e=>e
 |some (_,_,_),_,⟨ka,u,h1,h2,h3⟩=>⟨ka,u,h1,h.ρ _ _ h2,h3.mono h⟩
def RowAt (w:World) (V:Vl) (e:Option (Nat×List Str×AV)) (o:Obj) (n:Nat) (ep:Nat):Prop:=∃es,o.ExactDict/\o.data=.dict es ep/\RowIs w V e es/\es.size=n
noncomputable def fV (b:Bool):String:=match b with|true=>"dict_keyiterator"|false=>"dict_valueiterator"
def Cz (V:Vl):List (Str×Nat)->List (Str×Addr)->Prop
 |[],[]=>True
 |a::r,b::q=>a.1=b.1/\V.ρ a.2=some b.2/\Cz V r q
 |_,_=>False
theorem Cz.mono {V W:Vl}(h:V.le W):∀{a:List (Str×Nat)} {b:List (Str×Addr)},Cz V a b->Cz W a b
 |[],[],_=>trivial
 |_::_,_::_,⟨h1,h2,h3⟩=>⟨h1,h.ρ _ _ h2,Cz.mono h h3⟩
 |[],_::_,h|_::_,[],h=>h.elim
def CodeOf (cs:List (Addr×Obj)) (c:Addr) (q:Str):Prop:=∃oc vs t,(c,oc)∈cs/\oc.data=.fields vs/\vs[1]? = some (.str q t)
def x9 (ps:List Value) (cs:List (Addr×Obj)) (q:Str):Prop:=TriplesOk ps/\∀pos cv,codeAmong pos ps=some cv->∃c,cv=.ref c/\CodeOf cs c q
noncomputable def tkN (n k m:Nat):Nat×Nat:=if n=0 then ((7*(k+1)*(k+1)+5*(k+1)+3) % 101 % m,0) else (n % m,n / m)
def Tks (V:Vl):Nat->Nat->List (Nat×AV)->Prop
 |_,_,[]=>True
 |n,k,(m,a)::r=>(0 < m/\k < 64)/\(∀t,Den V a (.int ((tkN n k m).1:Nat) t))/\Tks V (tkN n k m).2 (k+1) r
theorem Tks.mono {V W:Vl}(h:V.le W):∀{ds:List (Nat×AV)} {n k:Nat},Tks V n k ds->Tks W n k ds
 |[],_,_,_=>trivial
 |(_,_)::_,_,_,⟨h1,h2,h3⟩=>⟨h1,fun t=>(h2 t).mono h,Tks.mono h h3⟩
noncomputable def vn:Addr:=228
structure FL where
 f:Addr->List Str
 pi:World->Vl->OpP->List (Addr×Obj)->Prop
structure FdcOk (V:Vl) (kvs:List (Str×AV)) (us:List (Str×Value)):Prop where
 ks:∀e∈us,e.1∈kvs.map (·.1)
 at_:∀y a,aw kvs y=some a->Den V a ((valueAt us y).getD .none)
theorem FdcOk.mono {V W:Vl}(h:V.le W){kvs:List (Str×AV)}{us:List (Str×Value)}(m:FdcOk V kvs us):FdcOk W kvs us:=
 ⟨m.ks,fun y a e=>(m.at_ y a e).mono h⟩
theorem nY {α:Type} [DecidableEq α] :∀{l m:List α},l.Nodup->(∀x∈l,x∈m)->l.length<=m.length
 |[],_=>fun zz zz=>bD _
 |x::r,m=>fun n h=>by
  rw[List.nodup_cons]at n;have hx:=h x (.head _);have:=nY (l:=r) (m:=m.erase x) n.2 fun y hy=>(List.mem_erase_of_ne (fun e=>n.1 (by rw[<-e];exact hy))).mpr (h y (.tail _ hy));rw[List.length_erase_of_mem hx]at this;exact jP this (Nat.sub_lt (List.length_pos_of_mem hx) Nat.one_pos)
theorem FdcOk.len {V:Vl}{kvs:List (Str×AV)}{us:List (Str×Value)}(m:FdcOk V kvs us)(nd:(us.map (·.1)).Nodup):us.length<=kvs.length:=by
 have:=nY nd fun x hx=>by refine aj (List.mem_map.mp hx) fun e he z'2=>?_;obtain rfl:=z'2;exact m.ks e he
 rwa [List.length_map,List.length_map]at this
structure vo (C:Addr) (fr:Bool) (d:Option Addr) (o:Obj):Prop where
 cls:o.cls=.ref C
 dict:o.dict=d
 dat:∃vs a0,o.data=.fields vs/\vs[0]? = some (.ref a0)/\∃t,vs[1]? = some t/\(fr=true->t=.none)
def Is (w:World) (V:Vl) (fl:FL) (i:Nat):AO->List (Addr×Obj)->Prop
 |.inst C n fs,l=>∃x d es k,V.ρ i=some x/\V.δ i=some d/\Ents V (fl.f C) n fs es/\l=[(x,instObj C d),(d,dictOf es k)]
 |.lst es,l=>∃x vs k,V.ρ i=some x/\Dens V es vs/\l=[(x,{ cls:=.type "list",data:=.seq vs.toArray k })]
 |.tup es,l=>∃x vs k,V.ρ i=some x/\Dens V es vs/\l=[(x,{ cls:=.type "tuple",data:=.seq vs.toArray k })]
 |.dic kvs,l=>∃x o us,V.ρ i=some x/\(x==sysModules)=false/\(∀prog,o.IsDictOf (strKind prog w) us)/\Zs V kvs us/\l=[(x,o)]
 |.cel (some a),l=>∃x v o,V.ρ i=some x/\o.data=.cell (some v)/\Den V a v/\l=[(x,o)]
 |.cel none,l=>∃x o,V.ρ i=some x/\o.data=.cell none/\l=[(x,o)]
 |.nsp fs,l=>∃x o m,V.ρ i=some x/\(∀h:Heap,h.get? x=some o->h.Ns x m)/\(∀y v,aw fs y=some v->∃u,m y=some u/\Den V v u)/\l=[(x,o)]
 |.itr j k,ll=>∃x o l,V.ρ i=some x/\V.ρ j=some l/\(∀h:Heap,h.get? x=some o->h.IsListIter x l k)/\ll=[(x,o)]
 |.gone,l=>l=[]
 |.jnk,l=>∃x o,V.ρ i=some x/\l=[(x,o)]
 |.itu t k,l=>∃x o tx,V.ρ i=some x/\Den V t (.ref tx)/\(∀h:Heap,h.get? x=some o->h.IsTupleIter x tx k)/\l=[(x,o)]
 |.itg es k,l=>∃x o,V.ρ i=some x/\WkOk w V x o es k/\l=[(x,o)]
 |.dit kvs k j,l=>∃x o us y oi ep,V.ρ i=some x/\(x==sysModules)=false/\(∀prog,KdkAt (strKind prog w) o us ep)/\Zs V kvs us/\V.ρ j=some y/\KdkIter oi x k us.length ep/\l=[(x,o),(y,oi)]
 |.dkt j,l=>l=[]
 |.rng n,l=>∃x o,V.ρ i=some x/\(∀h:Heap,h.get? x=some o->∃t u v,IsRange h x 0 (n:Nat) 1 t u v)/\l=[(x,o)]
 |.rws j ks v,l=>∃x o ep,V.ρ i=some x/\(x==sysModules)=false/\RowAt w V (some (j,ks,v)) o 1 ep/\l=[(x,o)]
 |.vws j,l=>∃x o d,V.ρ i=some x/\V.ρ j=some d/\o.cls=.type "dict_values"/\o.data=.fields #[.ref d]/\l=[(x,o)]
 |.rit b e k j,l=>∃x o y oi n ep,V.ρ i=some x/\(x==sysModules)=false/\RowAt w V e o n ep/\V.ρ j=some y/\oi.cls=.type (fV b)/\oi.data=.fields #[.ref x,.int (k:Nat) 0,.int (n:Nat) 0,.int (ep:Nat) 0]/\l=[(x,o),(y,oi)]
 |.clo lm cs t,l=>∃x c pm ctv cl,V.ρ i=some x/\V.δ i=some c/\Cz V cs cl/\l=[(x,kla_obj "<lambda>" lm.qual lm.params lm.body lm.scope cl pm c ctv)]
 |.ctb P q js,l=>∃(ps:Array Value) (cs:List (Addr×Obj)),x9 ps.toList cs q/\(∀j∈js,∃c,V.δ j=some c/\CodeOf cs c q)/\l=((P,tabObj ps)::cs)
 |.bx b ds,l=>∃x o vs k1 n k t1 t2,V.ρ i=some x/\o={ cls:=.type "list",data:=.seq vs k1 }/\vs = #[.int (n:Nat) t1,.int (k:Nat) t2]/\(k<=b/\Tks V n k ds)/\l=[(x,o)]
 |.opm k fs,l=>(V.ι k=-1/\l=[])\/(V.ι k≠-1/\∃d es kk,(∀W,Ents W (fl.f vn) 100 fs es)/\l=[((V.ι k).toNat,instObj vn d),(d,dictOf es kk)])
 |.opq p,l=>∀W,V.le W->fl.pi w W p l
 |.tie k c,l=>l=[]/\(V.ι k≠-1->V.ρ c=some (V.ι k).toNat)
 |.fdc kvs,l=>∃x o us,V.ρ i=some x/\(x==sysModules)=false/\(∀prog,o.IsDictOf (strKind prog w) us)/\FdcOk V kvs us/\l=[(x,o)]
 |.lsu pre ap,l=>∃x vs k,V.ρ i=some x/\Dens V ap vs/\pre.length<=100/\l=[(x,{ cls:=.type "list",data:=.seq (pre++vs).toArray k })]
 |.lsx o pre,l=>∃x,V.ρ i=some x/\(o.cls=.type "list"/\∃k,o.data=.seq pre.toArray k)/\(pre.length<=63/\∀v∈pre,∃j t,v=.int j t)/\l=[(x,o)]
 |.ex0 C,l=>∃x o,V.ρ i=some x/\vo C true none o/\l=[(x,o)]
 |.exd C fr j n fs,l=>∃x o d es k,V.ρ i=some x/\V.δ j=some d/\vo C fr (some d) o/\Ents V (fs.map (·.1)) n fs es/\l=[(x,o),(d,dictOf es k)]
 |.xdc C j n fs,l=>∃d es k,V.δ j=some d/\Ents V (fs.map (·.1)) n fs es/\l=[(d,dictOf es k)]
section
set_option autoImplicit true
variable {w:World}{V:Vl}{fl:FL}
theorem Is.inst {i}{C}{n}{fs}{x}{d}{es}{k}:V.ρ i=some x->V.δ i=some d->Ents V (fl.f C) n fs es->Is w V fl i (.inst C n fs) [(x,instObj C d),(d,dictOf es k)]:=fun h0 h1 h2=>⟨_,_,_,_,h0,h1,h2,rfl⟩
theorem Is.lst {i}{es}{x}{vs}{k}:V.ρ i=some x->Dens V es vs->Is w V fl i (.lst es) [(x,{ cls:=.type "list",data:=.seq vs.toArray k })]:=fun h0 h1=>⟨_,_,_,h0,h1,rfl⟩
theorem Is.tup {i}{es}{x}{vs}{k}:V.ρ i=some x->Dens V es vs->Is w V fl i (.tup es) [(x,{ cls:=.type "tuple",data:=.seq vs.toArray k })]:=fun h0 h1=>⟨_,_,_,h0,h1,rfl⟩
theorem Is.dic {i}{x}{o}{kvs}{us}:V.ρ i=some x->(x==sysModules)=false->(∀prog,o.IsDictOf (strKind prog w) us)->Zs V kvs us->Is w V fl i (.dic kvs) [(x,o)]:=fun h0 h1 h2 h3=>⟨_,_,_,h0,h1,h2,h3,rfl⟩
theorem Is.cel {i}{x}{v}{o}{a}:V.ρ i=some x->o.data=.cell (some v)->Den V a v->Is w V fl i (.cel (some a)) [(x,o)]:=fun h0 h1 h2=>⟨_,_,_,h0,h1,h2,rfl⟩
theorem Is.cel0 {i}{x}{o}:V.ρ i=some x->o.data=.cell none->Is w V fl i (.cel none) [(x,o)]:=fun h0 h1=>⟨_,_,h0,h1,rfl⟩
theorem Is.nsp {i}{x}{o}{fs}{m}:V.ρ i=some x->(∀h:Heap,h.get? x=some o->h.Ns x m)->(∀y v,aw fs y=some v->∃u,m y=some u/\Den V v u)->Is w V fl i (.nsp fs) [(x,o)]:=fun h0 h1 h2=>⟨_,_,_,h0,h1,h2,rfl⟩
theorem Is.itr {i}{x}{o}{j}{l}{k}:V.ρ i=some x->V.ρ j=some l->(∀h:Heap,h.get? x=some o->h.IsListIter x l k)->Is w V fl i (.itr j k) [(x,o)]:=fun h0 h1 h2=>⟨_,_,_,h0,h1,h2,rfl⟩
theorem Is.gone {i}:Is w V fl i .gone []:=rfl
theorem Is.itu {i}{x}{o}{t}{tx}{k}:V.ρ i=some x->Den V t (.ref tx)->(∀h:Heap,h.get? x=some o->h.IsTupleIter x tx k)->Is w V fl i (.itu t k) [(x,o)]:=fun h0 h1 h2=>⟨_,_,_,h0,h1,h2,rfl⟩
theorem Is.itg {i}{x}{o}{es}{k}:V.ρ i=some x->WkOk w V x o es k->Is w V fl i (.itg es k) [(x,o)]:=fun h0 h1=>⟨_,_,h0,h1,rfl⟩
theorem Is.dit {i}{x}{o}{kvs}{us}{j}{y}{oi}{k}{ep}:V.ρ i=some x->(x==sysModules)=false->(∀prog,KdkAt (strKind prog w) o us ep)->Zs V kvs us->V.ρ j=some y->KdkIter oi x k us.length ep->Is w V fl i (.dit kvs k j) [(x,o),(y,oi)]:=fun h0 h1 h2 h3 h4 h5=>⟨_,_,_,_,_,_,h0,h1,h2,h3,h4,h5,rfl⟩
theorem Is.dkt {i}{j}:Is w V fl i (.dkt j) []:=rfl
theorem Is.rng {i}{x}{o}{n}:V.ρ i=some x->(∀h:Heap,h.get? x=some o->∃t u v,IsRange h x 0 (n:Nat) 1 t u v)->Is w V fl i (.rng n) [(x,o)]:=fun h0 h1=>⟨_,_,h0,h1,rfl⟩
theorem Is.rws {i}{x}{o}{j}{ks}{v}{ep}:V.ρ i=some x->(x==sysModules)=false->RowAt w V (some (j,ks,v)) o 1 ep->Is w V fl i (.rws j ks v) [(x,o)]:=fun h0 h1 h2=>⟨_,_,_,h0,h1,h2,rfl⟩
theorem Is.vws {i}{x}{o}{j}{d}:V.ρ i=some x->V.ρ j=some d->o.cls=.type "dict_values"->o.data=.fields #[.ref d]->Is w V fl i (.vws j) [(x,o)]:=fun h0 h1 h2 h3=>⟨_,_,_,h0,h1,h2,h3,rfl⟩
theorem Is.rit {i}{x}{o}{b}{e}{k}{j}{y}{oi}{n}{ep}:V.ρ i=some x->(x==sysModules)=false->RowAt w V e o n ep->V.ρ j=some y->oi.cls=.type (fV b)->oi.data=.fields #[.ref x,.int (k:Nat) 0,.int (n:Nat) 0,.int (ep:Nat) 0]->Is w V fl i (.rit b e k j) [(x,o),(y,oi)]:=fun h0 h1 h2 h3 h4 h5=>⟨_,_,_,_,_,_,h0,h1,h2,h3,h4,h5,rfl⟩
theorem Is.clo {i}{lm}{cs}{t}{x}{c}{pm}{ctv}{cl}:V.ρ i=some x->V.δ i=some c->Cz V cs cl->Is w V fl i (.clo lm cs t) [(x,kla_obj "<lambda>" lm.qual lm.params lm.body lm.scope cl pm c ctv)]:=fun h0 h1 h2=>⟨_,_,_,_,_,h0,h1,h2,rfl⟩
theorem Is.ctb {w:World}{i:Nat}{P}{q}{js}{ps:Array Value}{cs}:x9 ps.toList cs q->(∀j∈js,∃c,V.δ j=some c/\CodeOf cs c q)->Is w V fl i (.ctb P q js) ((P,tabObj ps)::cs):=fun h0 h1=>⟨_,_,h0,h1,rfl⟩
theorem Is.bx {i b}{ds}{x}{o}{vs}{k1}{n}{k}{t1}{t2}:V.ρ i=some x->o={ cls:=.type "list",data:=.seq vs k1 }->vs = #[.int (n:Nat) t1,.int (k:Nat) t2]->k<=b/\Tks V n k ds->Is w V fl i (.bx b ds) [(x,o)]:=fun h0 h1 h2 h3=>⟨_,_,_,_,_,_,_,_,h0,h1,h2,h3,rfl⟩
theorem Is.fdc {i}{x}{o}{kvs}{us}:V.ρ i=some x->(x==sysModules)=false->(∀prog,o.IsDictOf (strKind prog w) us)->FdcOk V kvs us->Is w V fl i (.fdc kvs) [(x,o)]:=fun h0 h1 h2 h3=>⟨_,_,_,h0,h1,h2,h3,rfl⟩
theorem Is.lsu {i}{x}{pre}{ap}{vs}{k}:V.ρ i=some x->Dens V ap vs->pre.length<=100->Is w V fl i (.lsu pre ap) [(x,{ cls:=.type "list",data:=.seq (pre++vs).toArray k })]:=fun h0 h1 h2=>⟨_,_,_,h0,h1,h2,rfl⟩
theorem Is.ex0 {i}{x}{o}{C}:V.ρ i=some x->vo C true none o->Is w V fl i (.ex0 C) [(x,o)]:=fun h0 h1=>⟨_,_,h0,h1,rfl⟩
theorem Is.exd {i}{x}{o}{C}{fr}{j}{n}{fs}{d}{es}{k}:V.ρ i=some x->V.δ j=some d->vo C fr (some d) o->Ents V (fs.map (·.1)) n fs es->Is w V fl i (.exd C fr j n fs) [(x,o),(d,dictOf es k)]:=fun h0 h1 h2 h3=>⟨_,_,_,_,_,h0,h1,h2,h3,rfl⟩
theorem Is.xdc {i}{C}{j}{n}{fs}{d}{es}{k}:V.δ j=some d->Ents V (fs.map (·.1)) n fs es->Is w V fl i (.xdc C j n fs) [(d,dictOf es k)]:=fun h0 h1=>⟨_,_,_,h0,h1,rfl⟩
end
theorem RowAt.mono {w:World}{V W:Vl}(h:V.le W){e:Option (Nat×List Str×AV)}{o:Obj}{n ep:Nat}:RowAt w V e o n ep->RowAt w W e o n ep
 |⟨es,h1,h2,h3,h4⟩=>⟨es,h1,h2,h3.mono h,h4⟩
theorem WkOk.mono {w:World}{V W:Vl}(le:V.le W){x:Addr}{o:Obj}{es:List AV}{k:Nat}(h:WkOk w V x o es k):WkOk w W x o es k:=by
 refine cK h.ex fun St P N h1 h2 h3 h4 h5=>?_;exact ⟨St,P,N,h1,h2,h3,h4,fun i v hp=>let ⟨a,q1,q2⟩:=h5 i v hp;⟨a,q1,q2.mono le⟩⟩
theorem Is.mono {w:World}{V W:Vl}{fl:FL}(h:V.le W){i:Nat}{o:AO}{l:List (Addr×Obj)}:Is w V fl i o l->Is w W fl i o l:=by
 induction o using aN with
 |inst=>exact aB fun zz=>aB fun zz=>aB fun zz=>aB fun zz=>fun q=>⟨(h.ρ _ _ q.1),(h.δ _ _ q.2.1),(q.2.2.1.mono h),q.2.2.2⟩
 |lst=>exact aB fun zz=>aB fun zz=>aB fun zz=>fun q=>⟨(h.ρ _ _ q.1),(q.2.1.mono h),q.2.2⟩
 |tup=>exact aB fun zz=>aB fun zz=>aB fun zz=>fun q=>⟨(h.ρ _ _ q.1),(q.2.1.mono h),q.2.2⟩
 |dic=>exact aB fun zz=>aB fun zz=>aB fun zz=>fun q=>⟨(h.ρ _ _ q.1),q.2.1,q.2.2.1,(q.2.2.2.1.mono h),q.2.2.2.2⟩
 |cel v=>induction v using aF with
  |some=>exact aB fun zz=>aB fun zz=>aB fun zz=>fun q=>⟨(h.ρ _ _ q.1),q.2.1,(q.2.2.1.mono h),q.2.2.2⟩
  |none=>exact aB fun zz=>aB fun zz=>fun q=>⟨(h.ρ _ _ q.1),q.2.1,q.2.2⟩
 |nsp=>exact aB fun zz=>aB fun zz=>aB fun zz=>fun q=>⟨(h.ρ _ _ q.1),q.2.1,(fun y v e=>let ⟨u,p,q⟩:=q.2.2.1 y v e;⟨u,p,q.mono h⟩),q.2.2.2⟩
 |itr=>exact aB fun zz=>aB fun zz=>aB fun zz=>fun q=>⟨(h.ρ _ _ q.1),(h.ρ _ _ q.2.1),q.2.2.1,q.2.2.2⟩
 |gone=>exact id
 |jnk=>exact aB fun zz=>aB fun zz=>fun q=>⟨(h.ρ _ _ q.1),q.2⟩
 |itu=>exact aB fun zz=>aB fun zz=>aB fun zz=>fun q=>⟨(h.ρ _ _ q.1),(q.2.1.mono h),q.2.2.1,q.2.2.2⟩
 |itg=>exact aB fun zz=>aB fun zz=>fun q=>⟨(h.ρ _ _ q.1),(q.2.1.mono h),q.2.2⟩
 |dit=>exact aB fun zz=>aB fun zz=>aB fun zz=>aB fun zz=>aB fun zz=>aB fun zz=>fun q=>⟨(h.ρ _ _ q.1),q.2.1,q.2.2.1,(q.2.2.2.1.mono h),(h.ρ _ _ q.2.2.2.2.1),q.2.2.2.2.2.1,q.2.2.2.2.2.2⟩
 |dkt=>exact id
 |rng=>exact aB fun zz=>aB fun zz=>fun q=>⟨(h.ρ _ _ q.1),q.2.1,q.2.2⟩
 |rws=>exact aB fun zz=>aB fun zz=>aB fun zz=>fun q=>⟨(h.ρ _ _ q.1),q.2.1,(q.2.2.1.mono h),q.2.2.2⟩
 |vws=>exact aB fun zz=>aB fun zz=>aB fun zz=>fun q=>⟨(h.ρ _ _ q.1),(h.ρ _ _ q.2.1),q.2.2.1,q.2.2.2.1,q.2.2.2.2⟩
 |rit=>exact aB fun zz=>aB fun zz=>aB fun zz=>aB fun zz=>aB fun zz=>aB fun zz=>fun q=>⟨(h.ρ _ _ q.1),q.2.1,(q.2.2.1.mono h),(h.ρ _ _ q.2.2.2.1),q.2.2.2.2.1,q.2.2.2.2.2.1,q.2.2.2.2.2.2⟩
 |clo=>exact aB fun zz=>aB fun zz=>aB fun zz=>aB fun zz=>aB fun zz=>fun q=>⟨(h.ρ _ _ q.1),(h.δ _ _ q.2.1),(q.2.2.1.mono h),q.2.2.2⟩
 |ctb=>exact aB fun zz=>aB fun zz=>fun q=>⟨q.1,(fun j m=>let ⟨c,p,q⟩:=q.2.1 j m;⟨c,h.δ _ _ p,q⟩),q.2.2⟩
 |bx=>exact aB fun zz=>aB fun zz=>aB fun zz=>aB fun zz=>aB fun zz=>aB fun zz=>aB fun zz=>aB fun zz=>fun q=>⟨(h.ρ _ _ q.1),q.2.1,q.2.2.1,⟨q.2.2.2.1.1,q.2.2.2.1.2.mono h⟩,q.2.2.2.2⟩
 |opm=>intro q;unfold Is at *;rw[h.ι];exact q
 |opq=>exact fun q U le=>q U (h.trans le)
 |tie=>exact fun q=>⟨q.1,fun z=>by rw[h.ι]at z ⊢;exact h.ρ _ _ (q.2 z)⟩
 |fdc=>exact aB fun zz=>aB fun zz=>aB fun zz=>fun q=>⟨(h.ρ _ _ q.1),q.2.1,q.2.2.1,(q.2.2.2.1.mono h),q.2.2.2.2⟩
 |lsu=>exact aB fun zz=>aB fun zz=>aB fun zz=>fun q=>⟨(h.ρ _ _ q.1),(q.2.1.mono h),q.2.2.1,q.2.2.2⟩
 |lsx=>exact aB fun zz=>fun q=>⟨h.ρ _ _ q.1,q.2⟩
 |ex0=>exact aB fun zz=>aB fun zz=>fun q=>⟨(h.ρ _ _ q.1),q.2.1,q.2.2⟩
 |exd=>exact aB fun zz=>aB fun zz=>aB fun zz=>aB fun zz=>aB fun zz=>fun q=>⟨(h.ρ _ _ q.1),(h.δ _ _ q.2.1),q.2.2.1,(q.2.2.2.1.mono h),q.2.2.2.2⟩
 |xdc=>exact aB fun zz=>aB fun zz=>aB fun zz=>fun q=>⟨(h.δ _ _ q.1),(q.2.1.mono h),q.2.2⟩
inductive Led (w:World) (V:Vl) (fl:FL) (tl:List (Addr×Obj)):List (Nat×AO)->List (Addr×Obj)->Prop
 |nil:Led w V fl tl [] tl
 |cons {i o l r news}:Is w V fl i o l->Led w V fl tl r news->Led w V fl tl ((i,o)::r) (l++news)
section
variable {w:World}{V:Vl}{fl:FL}{tl:List (Addr×Obj)}
theorem Led.cs {i:Nat}{o:AO}{r:List (Nat×AO)}{motive:(n:List (Addr×Obj))->Led w V fl tl ((i,o)::r) n->Prop}(cons:∀{l news:List (Addr×Obj)} (a:Is w V fl i o l) (b:Led w V fl tl r news),motive (l++news) (.cons a b)){n:List (Addr×Obj)}(t:Led w V fl tl ((i,o)::r) n):motive n t:=by rcases t with _|⟨a,b⟩;exact cons a b
theorem Led.ns {motive:(n:List (Addr×Obj))->Led w V fl tl [] n->Prop}(nil:motive tl .nil){n:List (Addr×Obj)}(t:Led w V fl tl [] n):motive n t:=by rcases t with _|_;exact nil
theorem Led.mono {W:Vl}(h:V.le W){σ:List (Nat×AO)}{news:List (Addr×Obj)}:Led w V fl tl σ news->Led w W fl tl σ news
 |.nil=>.nil
 |.cons a b=>.cons (a.mono h) (b.mono h)
theorem Led.split {σ:List (Nat×AO)}{news:List (Addr×Obj)}(D:Led w V fl tl σ news){i:Nat}{o:AO}(e:aa σ i=some o) :
  ∃pre l post,news=pre++(l++post)/\Is w V fl i o l/\∀o' l',Is w V fl i o' l'->Led w V fl tl (bf σ i o') (pre++(l'++post)):=by
 induction D with
 |nil=>cases e
 |@cons j oj l r news hj D ih=>
  rw[aM]at e;by_cases q:j=i
  ·rw[if_pos q]at e;cases e;subst q;exact ⟨[],l,news,rfl,hj,fun o' l' h'=>by rw[bv,if_pos rfl];show Led w V fl tl _ (l'++news);exact .cons h' D⟩
  ·rw[if_neg q]at e;refine bu (ih e) fun pre l' post e1 e2 e3=>?_;refine ⟨l++pre,l',post,by rw[e1,List.append_assoc],e2,fun o' l'' h'=>?_⟩;rw[bv,if_neg q,List.append_assoc];exact .cons hj (e3 o' l'' h')
theorem Led.splitM {σ:List (Nat×AO)}{news:List (Addr×Obj)}(D:Led w V fl tl σ news){i:Nat}{o:AO}(e:aa σ i=some o) :
  ∃pre l post,news=pre++(l++post)/\Is w V fl i o l/\∀W,V.le W->∀o' l',Is w W fl i o' l'->Led w W fl tl (bf σ i o') (pre++(l'++post)):=by
 induction D with
 |nil=>cases e
 |@cons j oj l r news hj D ih=>
  rw[aM]at e;by_cases q:j=i
  ·rw[if_pos q]at e;cases e;subst q;exact ⟨[],l,news,rfl,hj,fun W le o' l' h'=>by rw[bv,if_pos rfl];show Led w W fl tl _ (l'++news);exact .cons h' (D.mono le)⟩
  ·rw[if_neg q]at e;refine bu (ih e) fun pre l' post e1 e2 e3=>?_;refine ⟨l++pre,l',post,by rw[e1,List.append_assoc],e2,fun W le o' l'' h'=>?_⟩;rw[bv,if_neg q,List.append_assoc];exact .cons (hj.mono le) (e3 W le o' l'' h')
theorem Led.mem {σ:List (Nat×AO)}{news:List (Addr×Obj)}(D:Led w V fl tl σ news){i:Nat}{o:AO}(e:aa σ i=some o):∃l,Is w V fl i o l/\∀p∈l,p∈news:=by
 refine bu (D.split e) fun pre l post e1 e2 zy=>?_;exact ⟨l,e2,fun p hp=>by rw[e1];exact a9 _ (bS _ hp)⟩
end
theorem Upd.of {d:Addr}{o o':Obj}:∀{pre post:List (Addr×Obj)},((pre++(d,o)::post).map (·.1)).Nodup->Upd d o o' (pre++(d,o)::post) (pre++(d,o')::post)
 |[],post=>fun h=>by
  rw[List.nil_append,List.map_cons,List.nodup_cons]at h;exact .head fun p hp e=>h.1 (by have:=cP (f:=(·.1)) hp;rw[e]at this;exact this)
 |q::pre,post=>fun h=>by
  rw[List.cons_append,List.map_cons,List.nodup_cons]at h;exact .tail (fun e=>h.1 (by rw[e,List.map_append,List.map_cons];exact a9 _ (.head _))) (Upd.of h.2)
section
open PySem.Builtin PySem.Builtin.ObjectAttr
noncomputable def HH (bm:List Value):Bool:=bm.contains (.type "ValueError")&&(bm.contains (.type "BaseException")&&(bm.contains (.type "object")&&(!bm.contains (.type "AttributeError")&&!bm.contains (.type "NameError"))))
def exD (C:Addr) (d:Data):Bool:=match d with
 |.cls cd=>cd.mro.head? == some (.ref C)&&((!cd.hasDel&&cd.hasDict)&&HH cd.mro.tail)
 |_=>false
def jF (K:Frag) (C:Addr):Bool:=@Option.rec Obj (fun zz=>Bool) false (fun o=>o.cls==.type "type"&&(exD C o.data&&(o.slots.size==6&&o.slots[4]? == some (some (.builtin "ValueError.__new__"))))) (K.lookup C)
structure ExCls (h:Heap) (C:Addr) (bm:List Value):Prop where
 ob:∃nm qn N bs hdct sn sub ab col dd k0 k1 k2 k3 k5,h.get? C=some (excClassObj nm qn C N bs bm hdct sn sub ab col dd k0 k1 k2 k3 k5 "ValueError.__new__")
 hv:bm.contains (.type "ValueError")=true
 hb:bm.contains (.type "BaseException")=true
 ho:bm.contains (.type "object")=true
 na:bm.contains (.type "AttributeError")=false
 nn:bm.contains (.type "NameError")=false
theorem ExCls.k {h:Heap}{C:Addr}{bm:List Value}(Y:ExCls h C bm){G:Prop}(f:∀nm qn N bs hdct sn sub ab col dd k0 k1 k2 k3 k5,h.get? C=some (excClassObj nm qn C N bs bm hdct sn sub ab col dd k0 k1 k2 k3 k5 "ValueError.__new__")->G):G:=by
 obtain ⟨nm,qn,N,bs,hdct,sn,sub,ab,col,dd,k0,k1,k2,k3,k5,hC⟩:=Y.ob;exact f nm qn N bs hdct sn sub ab col dd k0 k1 k2 k3 k5 hC
theorem six {α:Type}:∀{l:List α},l.length=6->∃a b c d e f,l=[a,b,c,d,e,f]
 |[a,b,c,d,e,f],_=>⟨a,b,c,d,e,f,rfl⟩
set_option tactic.hygienic true in
theorem fX {K:Frag}{h:Heap}{C:Addr}(X:K.In h)(q:jF K C=true):∃bm,ExCls h C bm:=by
 unfold jF at q;generalize ho:K.lookup C=x';induction x' using aF with
 |none=>rw[ho]at q;exact eA q
 |some o=>
  rw[ho]at q;have hg:=X _ _ ho;obtain ⟨cl,dd,dt,sl⟩:=o;have q1:=an1 q;have q2:=an2 q;have q3:=an1 q2;have q4:=an2 q2;have q5:=an1 q4;have q6:=an2 q4;have e1:cl=.type "type":=beq_iff_eq.mp q1;have e2:sl.toList.length=6:=beq_iff_eq.mp q5;have e3:sl[4]? = some (some (.builtin "ValueError.__new__")):=beq_iff_eq.mp q6;clear q q1 q2 q4 q5 q6;subst e1;obtain ⟨ls⟩:=sl;refine HE (six e2) fun k0 k1 k2 k3 k4 k5 z'6=>?_;obtain rfl:=z'6;obtain rfl:k4=some (.builtin "ValueError.__new__"):=Option.some.inj e3
  induction dt using Data.casesOn<;>first|exact eA q3|skip
  rename_i cd;obtain ⟨nm,bs,mro,ns,qn,hd,sn,sub,ab,col,del⟩:=cd;have c1:=an1 q3;have c2:=an2 q3;have c3:=an1 c2;have c4:=an2 c2;have c5:=an1 c3;have c6:=an2 c3;have b1:=an1 c4;have c7:=an2 c4;have b2:=an1 c7;have c8:=an2 c7;have b3:=an1 c8;have c9:=an2 c8;have b4:=an1 c9;have b5:=an2 c9;have c1:mro.head? = some (.ref C):=beq_iff_eq.mp c1;clear q3 c2 c3 c4 c7 c8 c9;dsimp only at c5 c6 b1 b2 b3 b4 b5
  induction mro using aV with
  |nil=>exact nomatch c1
  |cons c bm=>
   obtain rfl:c=.ref C:=Option.some.inj c1
   induction del using aH with
   |true=>exact eA c5
   |false=>
    subst c6;exact ⟨bm,⟨nm,qn,ns,bs,true,sn,sub,ab,col,dd,k0,k1,k2,k3,k5,hg⟩,b1,b2,b3,by simpa using b4,by simpa using b5⟩
section
variable {M:Model}{prog:Program}{w:World}{A:Around}{E:Value->Shared->Prop}{h:Heap}{g:Array GenState}{d:Drawn}{t:Nat}{os:OsState}{K:Frag}
variable {nm q:Str}{C N:Addr}{bs bm:List Value}{hdct:Bool}{sn:List Str}{sub:List Value}{ab:Bool}{col:Option Bool}{dd:Option Addr}{k0 k1 k2 k3 k5:Option Value}
theorem fv:ExcBaseFacts "ValueError" "ValueError.__new__" "ValueError.__init__" [.type "ValueError",.type "Exception",.type "BaseException",.type "object"]:=PySem.F.excBase_ValueError
theorem kh {rest:List Value}{Q:Unit->Shared->Prop}(hv:bm.contains (.type "ValueError")=true) (hC:h.get? C=some (excClassObj nm q C N bs bm hdct sn sub ab col dd k0 k1 k2 k3 k5 "ValueError.__new__"))
  (hq:Q () ⟨h,g,d,t,os⟩):wpAny M A (checkBuiltinCall "ValueError.__new__" ⟨.ref C::rest,[]⟩) Q E ⟨h,g,d,t,os⟩:=by
 have hcont:(Value.ref C::bm).contains (.type "ValueError")=true:=by rw[List.contains_cons,hv,Bool.or_true]
 have hstar:=fv.noStar;simp only[checkBuiltinCall,fv.newKind,fv.newSplit,fv.newRow]
 repeat (first|refine wpAny_loadPart_at hC ?_|(refine wpAny_isSubtype_exc hC ?_;rw[hcont])|refine wpAny_staticBase_exc hC ?_|refine wpAny_madeBy_exc hC ?_|simp only[bne_self_eq_false,Bool.false_eq_true,if_false]|wp_step)
 exact hq
theorem y6 {rest:List Value}{R:Result->Shared->Prop}(X:ExCls h C bm)(hC:h.get? C=some (excClassObj nm q C N bs bm hdct sn sub ab col dd k0 k1 k2 k3 k5 "ValueError.__new__"))
  (hq:R (.ok (.ret (.ref (h.objs.size+1)))) ⟨(h.push { cls:=.type "tuple",data:=.seq rest.toArray }).push
   { cls:=.ref C,data:=.fields #[.ref h.objs.size,.none,.none,.none,.bool false,.none] },g,d,t,os⟩) (hrest:rest.length<=sizeLine:=by size_fits) :
  codeAny (model prog w) A (.builtin "ValueError.__new__" ⟨.ref C::rest,[]⟩) R ⟨h,g,d,t,os⟩:=by
 have hends:=fv.ends;have hcB:(Value.ref C::bm).contains (.type "ValueError")=true:=by rw[List.contains_cons,X.hv,Bool.or_true]
 have hcA:(Value.ref C::bm).contains (.type "AttributeError")=false:=by rw[List.contains_cons,X.na];rfl
 have hcN:(Value.ref C::bm).contains (.type "NameError")=false:=by rw[List.contains_cons,X.nn];rfl
 refine codeAny_builtinAt fv.entry ?_;unfold Builtin.«BaseException.__new__»;refine PySem.wpAt_bind ?_;show PySem.wpAt _ _ _ (stack >>= _) _ _ _;refine PySem.wpAt_bind (PySem.wpAt_stack fun p below=>PySem.wpAt_of_wpAny ?_)
 wp_walk
 refine PySem.wpAt_of_wpAny ?_;rw[fv.owner]
 repeat (first|with_reducible refine wpAny_madeHere_exc fv.canon hC ?_|with_reducible refine wpAny_loadPart_at hC ?_|(with_reducible refine wpAny_isSubtype_exc hC ?_;first|rw[hcB]|rw[hcA]|rw[hcN])|wp_step)
 show R _ _;rw[Heap.size_push];exact hq
theorem kj {rest:List Value}{fI:Addr}{Q:Fin->Shared->Prop}(X:K.In h)(hx:jF K C=true)(hi:findIn K (.ref C) "__init__" = some (some (.ref fI))) (hf:isFn K (.ref fI)=true)
  (hq:∀h',h'=(h.push { cls:=.type "tuple",data:=.seq rest.toArray }).push { cls:=.ref C,data:=.fields #[.ref h.objs.size,.none,.none,.none,.bool false,.none] }->
   wpAny (model prog w) A (call (.ref fI) (.ref (h.objs.size+1)::rest)) (fun r s'=>r=.none/\Q (.done (.ret (.ref (h.objs.size+1)))) s') E ⟨h',g,d,t,os⟩) (hrest:rest.length<=sizeLine:=by size_fits) :
  wpAny (model prog w) A (Builtin.«type.__call__» ⟨.ref C::rest,[]⟩) Q E ⟨h,g,d,t,os⟩:=by
 refine av (fX X hx) fun bm Y=>?_;refine Y.k fun nm qn N bs hdct sn sub ab col dd k0 k1 k2 k3 k5 hC=>?_
 repeat (first|with_reducible refine wpAny_loadPart_at hC ?_|with_reducible refine wpAny_madeBy_exc hC ?_|wp_step)
 refine codeAny_call_builtin_code (Code.quiet_builtin _ fv.quiet) (kh Y.hv hC ?_);refine y6 Y hC ?_ hrest;show wpAny _ _ _ _ _ _;have hC₁:=Heap.get?_push_of_some { cls:=.ref C,data:=.fields #[.ref h.objs.size,.none,.none,.none,.bool false,.none] }
  (Heap.get?_push_of_some { cls:=.type "tuple",data:=.seq rest.toArray } hC)
 have hget:((h.push { cls:=.type "tuple",data:=.seq rest.toArray }).push
   { cls:=.ref C,data:=.fields #[.ref h.objs.size,.none,.none,.none,.bool false,.none] }).get? (h.objs.size+1)=some
   { cls:=.ref C,data:=.fields #[.ref h.objs.size,.none,.none,.none,.bool false,.none] }:=by heap_get
 have hcC:(Value.ref C::bm).contains (.ref C)=true:=by simp
 have X₁:K.In ((h.push { cls:=.type "tuple",data:=.seq rest.toArray }).push { cls:=.ref C,data:=.fields #[.ref h.objs.size,.none,.none,.none,.bool false,.none] }):=
  X.keeps fun b o e=>Heap.get?_push_of_some _ (Heap.get?_push_of_some _ e)
 unfold isInstance
 repeat (first|with_reducible refine wpAny_loadPart_at hget ?_|(with_reducible refine wpAny_isSubtype_exc hC₁ ?_;rw[hcC])|wp_step)
 show wpAny _ _ (typeLookup (.ref C) _) _ _ _;refine (looks_findIn X₁ hi).here ?_;refine wpAny_holding (af ((bind_fn X₁ _ (beq_iff_eq.mp hf)).here ?_));refine af (wpAny_mono (hq _ rfl) (fun r s' hr=>?_) fun zz zz x=>x);refine ay hr fun hr'0 hQ=>?_;clear hr;obtain rfl:=hr'0
 wp_walk
 exact hQ
theorem vq {rest:List Value}{fI:Addr}{Q:Value->Shared->Prop}(X:K.In h)(hx:jF K C=true)(hi:findIn K (.ref C) "__init__" = some (some (.ref fI))) (hf:isFn K (.ref fI)=true)
  (hq:∀h',h'=(h.push { cls:=.type "tuple",data:=.seq rest.toArray }).push { cls:=.ref C,data:=.fields #[.ref h.objs.size,.none,.none,.none,.bool false,.none] }->
   wpAny (model prog w) (A.under (.builtin "type.__call__" ⟨.ref C::rest,[]⟩)) (call (.ref fI) (.ref (h.objs.size+1)::rest)) (fun r s'=>r=.none/\Q (.ref (h.objs.size+1)) s') E ⟨h',g,d,t,os⟩) (hrest:rest.length<=sizeLine:=by size_fits) :
  wpAny (model prog w) A (call (.ref C) rest) Q E ⟨h,g,d,t,os⟩:=by
 refine av (fX X hx) fun bm Y=>?_;refine Y.k fun nm qn N bs hdct sn sub ab col dd k0 k1 k2 k3 k5 hC=>?_;have f1:=tc_lookup;have f2:=tc_bind (.ref C);have hT:(⟨h,g,d,t,os⟩:Shared).TypeIs (.ref C) "type":=⟨_,hC,rfl⟩
 refine wpAny_call (codeAny_of_tree ?_);show wpAny _ _ (callAny (.ref C) _) _ _ _
 repeat (any_goals (first|assumption|with_reducible refine wpAny_loadPart_at hC ?_|wp_step))
 refine ⟨rfl,?_⟩;refine codeAny_call_builtin_at (Code.quiet_builtin _ (by decide +kernel)) entry_typeCall (wpAny_check_type_call_sub hC (kj (hrest:=hrest) X hx hi hf fun h' e=>?_));exact hq h' e
theorem jG {e:Addr}{oe:Obj}{rest:List Value}{Q:Unit->Shared->Prop}(Y:ExCls h C bm)
  (he:h.get? e=some oe) (hcls:oe.cls=.ref C) (hq:Q () ⟨h,g,d,t,os⟩) :
  wpAny M A (checkBuiltinCall "ValueError.__init__" ⟨.ref e::rest,[]⟩) Q E ⟨h,g,d,t,os⟩:=by
 refine Y.k fun nm qn N bs hdct sn sub ab col dd k0 k1 k2 k3 k5 hC=>?_;have hcB:(Value.ref C::bm).contains (.type "ValueError")=true:=by rw[List.contains_cons,Y.hv,Bool.or_true]
 have hshort:=fv.noStar;simp only[checkBuiltinCall,fv.initKind,fv.initSplit,fv.initRow]
 repeat (first|(with_reducible refine wpAny_loadPart_at he ?_;rw[hcls])|with_reducible refine wpAny_loadPart_at hC ?_|(with_reducible refine wpAny_isSubtype_exc hC ?_;rw[hcB])|wp_step)
 refine wpAny_onRaise ?_;rw[show∀(a b:String) (n:Nat),Bind.check ⟨.positional,"*","ValueError",.self,[⟨"args",.varPos,false⟩]⟩ a b n (List.map (fun x=>x.fst) ({ pos:=Value.ref e::rest }:Args).kw)=pure () from
  fun a b n=>check_star_args _ _ _ _ _ _]
 exact au hq
theorem vr {e t0:Addr}{oe:Obj}{vs:Array Value}{rest:List Value}{Q:Value->Shared->Prop}(X:K.In h)(hx:jF K C=true)
  (he:h.get? e=some oe) (hcls:oe.cls=.ref C) (hd:oe.data=.fields vs) (h0:vs[0]? = some (.ref t0)) (hrest:rest.length<=sizeLine)
  (hq:∀h',h'=(h.push { cls:=.type "tuple",data:=.seq rest.toArray }).update e (Obj.mapFields (·.setIfInBounds 0 (.ref h.objs.size)))->Q .none ⟨h',g,d,t,os⟩) :
  wpAny (model prog w) A (call (.builtin "ValueError.__init__") (.ref e::rest)) Q E ⟨h,g,d,t,os⟩:=by
 refine av (fX X hx) fun bm Y=>?_;refine wpAny_call (codeAny_call_builtin fv.init.plain fv.initEntry (jG Y he hcls ?_));have he₁:(h.push { cls:=.type "tuple",data:=.seq rest.toArray }).get? e=some oe:=Heap.get?_push_of_some _ he
 wp_walk
 rw[hd];refine au ?_;rw[h0];refine au (af (wpAny_setField he₁ hd (Array.getElem?_eq_some_iff.mp h0).1 ?_));refine wpAny_letGo (au ?_);exact hq _ rfl
end
end
section
open PySem.Builtin PySem.Builtin.ObjectAttr
noncomputable def iT:List Value->List Value
 |.ref _::r=>iT r
 |l=>l
def jH (K:Frag) (C:Addr):Bool:=jF K C&&(findIn K (.ref C) "__setattr__" == some (some (.builtin "object.__setattr__")))&&(match clsIn K C with
 |some cd=>cd.hasDict&&!cd.mro.isEmpty&&(iT cd.mro==[.type "ValueError",.type "Exception",.type "BaseException",.type "object"])&&cd.mro.contains (.type "object")
 |none=>false)
theorem gZ (self:Value)(what:Str):∀l,refuseLoop self what l=refuseLoop self what (iT l)
 |[]=>rfl
 |.ref C::r=>(refuseLoop_ref self what C r).trans (gZ self what r)
 |.type _::_|.none::_|.bool _::_|.int _ _::_|.str _ _::_|.builtin _::_|.ellipsis::_|.notImplemented::_|.float _ _::_|.bytes _ _::_=>rfl
section
variable {M:Model}{prog:Program}{w:World}{A:Around}{E:Value->Shared->Prop}{s:Shared}{K:Frag}{R:Result->Shared->Prop}{x C:Addr}
set_option tactic.hygienic true in
theorem jS {ox:Obj}{od:Option Obj}{name:Str}{tk:Tok}{v:Value}{r:Option Value}(X:K.In s.heap)(I:InstAt s.heap x ox C od)(hp:jH K C=true)(ht:takerIn K C name=some r)
  (h:∀b,wpAny (model prog w) A.in1 (match r with|some a=>setByDescriptor a (.ref x) v|none=>storeInOwnDict (.ref x) (.ref C) (.str name tk) name v b)
   (fun fin s'=>match fin with|.done f=>R (.ok f) s'|.again c'=>c'.quiet=true/\codeAny (model prog w) A c' R s') (fun e s'=>R (.error e) s') s) :
  codeAny (model prog w) A (.call (.builtin "object.__setattr__") ⟨[.ref x,.str name tk,v],[]⟩) R s:=by
 have SF:=PySem.F.store_object;unfold jH at hp;simp only[Bool.and_eq_true]at hp;refine ay hp fun hp'0 h3=>?_;clear hp;refine ay hp'0 fun h1 h2=>?_;clear hp'0
 split at h3
 ·rename_i cd hc;simp only[Bool.and_eq_true,Bool.not_eq_true']at h3;refine ay h3 fun h3'0 ho=>?_;clear h3;refine ay h3'0 fun h3'0'0 hdr=>?_;clear h3'0;refine ay h3'0'0 fun hd ne=>?_;clear h3'0'0;have hdr:=eq_of_beq hdr;have sub:Looks (model prog w) s.heap (isInstance (.ref x) (.type "object")) true:=I.type.andThen (looks_mroIn X (by unfold mroIn;rw[hc,Option.bind_some,if_neg (by rw[ne];decide),ho]));refine codeAny_call_builtin SF.slot.plain SF.entry (@check_slot (model prog w) _ _ s "object.__setattr__" "object" "__setattr__" (.ref x) [.str name tk,v] [] _ SF.kind SF.split sub (SF.args (.ref x) (.str name tk) v) ?_);refine aj (Option.bind_eq_some_iff.mp ht) fun attr ha hr=>?_;have hm:Looks (model prog w) s.heap (mroOf (.ref C)) cd.mro:=(looks_clsIn X hc).andThen .now;have L3:Looks (model prog w) s.heap (storeTaker? attr) r:=by
   induction attr using aF with
   |none=>cases hr;exact .now
   |some a=>
    refine aj (Option.map_eq_some_iff.mp hr) fun b hb z'2=>?_;obtain rfl:=z'2;refine (looks_takesIn X hb).andThen ?_
    induction b using aH<;>exact .now
  rw[osa_eq,refuse_eq];refine af (af (I.type.here (af (hm.here ?_))));rw[gZ,hdr,PySem.F.store_ValueError.passes];refine au (af (I.type.here (af ((looks_findIn X ha).here (af (L3.here ?_))))));exact h _
 ·cases h3
theorem lF (h:jH K C=true):findIn K (.ref C) "__setattr__" = some (some (.builtin "object.__setattr__")):=by
 unfold jH at h;simp only[Bool.and_eq_true]at h;exact beq_iff_eq.mp h.1.2
set_option tactic.hygienic true in
theorem lG (h:jH K C=true):∃cd,clsIn K C=some cd/\cd.hasDict=true:=by
 unfold jH at h;simp only[Bool.and_eq_true]at h;have h3:=h.2
 split at h3
 ·rename_i cd hc;simp only[Bool.and_eq_true]at h3;exact ⟨cd,hc,h3.1.1.1⟩
 ·cases h3
set_option tactic.hygienic true in
theorem qX {d:Addr}{es:List DictEntry}{n:Nat}{name:Str}{tk:Tok}{v:Value}{Q:PySem.Fin->Shared->Prop}(D:s.heap.get? d=some (dictOf es n))(hl:(getL name es).isSome=true)
  (D':(s.heap.update d (Obj.putName name (PyData.keyHash w.params name) (.str name s.toks) v)).get? d=some (dictOf (putL name (PyData.keyHash w.params name) (.str name s.toks) v es) (PySem.W.putN name es n)))
  (hz:(putL name (PyData.keyHash w.params name) (.str name s.toks) v es).length<=1000)
  (h:Q (.done (.ret .none)) { s with heap:=s.heap.update d (Obj.putName name (PyData.keyHash w.params name) (.str name s.toks) v),toks:=s.toks+1 }) :
  wpAny (model prog w) A (storeInDict d (.str name tk) name v) Q E s:=by
 unfold storeInDict;refine af (au (af ?_));unfold nsSet;refine af (af (wpAny_askSetting (au (af (wpAny_mkText (af (wpAny_loadPart D ?_)))))));unfold getL at hl;dsimp only;have c:(!es.toArray.any (·.key.isStr name)&&es.toArray.any (·.refKey))=false:=by
  rw[List.any_toArray,List.any_toArray]
  split at hl
  ·rename_i en he;rw[List.any_eq_true.mpr ⟨en,List.mem_of_find?_eq_some he,List.find?_some he⟩];rfl
  ·split at hl
   ·cases hl
   ·rename_i z;rw[Bool.not_eq_true]at z;rw[z,Bool.and_false]
 rw[aRefKeyMayBeTheName_at,c];refine wpAny_updatePart D ?_;refine af (wpAny_lookBehind D' (by exact pastItsLine_dict (by rw[List.size_toArray,sizeLine_eq];omega)) ?_);exact au h
theorem pV {h₀:Heap}{L:Addr}{m:Str->Option Value}{pre post:List (Addr×Obj)}{ox:Obj}{name:Str}{v:Value}{Q:Unit->Shared->Prop}(F:Fr h₀ L s.heap m)(N:News h₀ L s.heap (pre++(x,ox)::post))
  (nd:((pre++(x,ox)::post).map (·.1)).Nodup) (X:K.In h₀) (hx:jH K C=true) (ht:takerIn K C name=some none) (hc:ox.cls=.ref C) (hd:ox.dict=none) (hn:∃vs,ox.data=.fields vs)
  (h:∀h' d tk,d=s.heap.objs.size->Fr h₀ L h' m->News h₀ L h' ((d,dictOf (putL name (PyData.keyHash w.params name) (.str name (s.toks+1)) v []) (PySem.W.putN name [] 0))::(pre++(x,{ ox with dict:=some d })::post))->Q () { s with heap:=h',toks:=tk }) :
  wpAny (model prog w) A (setAttr (.ref x) name v) Q E s:=by
 have hox:=(N (x,ox) (by simp)).1;have hX:=X.keeps F.keep;refine av hn fun vs hv=>?_;clear hn;have I:InstAt s.heap x ox C none:=⟨hox,hc,by unfold notCls;rw[hv],by rw[hd];trivial⟩
 refine set_plain hX I (lF hx) ?_;refine jS (s:={ s with toks:=s.toks+1 }) hX I hx ht fun b=>?_;refine aj (lG hx) fun cd hcc hdict=>?_;obtain ⟨oc,odi,oda,osl⟩:=ox;dsimp only at hc hd hv;subst hc hd hv;refine af (au (af (af (wpAny_loadPart hox (af (Looks.here (s:={ s with toks:=s.toks+1 }) (looks_clsIn hX hcc) ?_))))));rw[hdict];have n1:=News.push F N (dictOf [] 0);have F1:=F.push (dictOf [] 0);have hds:s.heap.objs.size ∉ (pre++(x,(⟨.ref C,none,.fields vs,osl⟩:Obj))::post).map (·.1):=fun hm=>by
  refine aj (List.mem_map.mp hm) fun q hq e=>?_;exact absurd (Heap.lt_size (N q hq).1) (by rw[e];exact Nat.lt_irrefl _)
 have hxd:x≠s.heap.objs.size:=fun e=>hds (by rw[<-e];simp);refine ay (news_upd (pre:=(s.heap.objs.size,dictOf [] 0)::pre) (d:=x) (o:=⟨.ref C,none,.fields vs,osl⟩) (o':=⟨.ref C,some s.heap.objs.size,.fields vs,osl⟩) (f:=fun o=>{ o with dict:=some s.heap.objs.size }) F1 n1
  (fun p hp=>by
   rcases aG hp with rfl|hp
   ·exact hxd.symm
   ·intro e;rw[List.map_append,List.map_cons]at nd;exact (List.nodup_append.mp nd).2.2 _ (cP (f:=(·.1)) hp) x (.head _) e)
  (fun p hp e=>by
   rw[List.map_append,List.map_cons]at nd;exact (List.nodup_cons.mp (List.nodup_append.mp nd).2.1).1 (by rw[<-e];exact cP (f:=(·.1)) hp)) rfl rfl) fun F2 N2=>?_
 refine ay (news_upd (pre:=[]) (d:=s.heap.objs.size) (o:=dictOf [] 0) (o':=dictOf (putL name (PyData.keyHash w.params name) (.str name (s.toks+1)) v []) (PySem.W.putN name [] 0)) (f:=Obj.putName name (PyData.keyHash w.params name) (.str name (s.toks+1)) v) F2 N2
  (fun p hp=>nomatch hp) (fun p hp e=>by
   refine hds ?_;rw[<-e];have:=cP (f:=(·.1)) hp;simpa using this) (by rw[putName_dict]) rfl) fun F3 N3=>?_
 show wpAny _ _ (alloc _ >>= _) _ _ _;refine af (wpAny_alloc ?_);refine af (wpAny_update (Heap.get?_push_of_some _ hox) ?_);refine au ?_;refine qX (es:=[]) (n:=0) (s:={ s with heap:=(s.heap.push (dictOf [] 0)).update x fun o=>{ o with dict:=some s.heap.objs.size },toks:=s.toks+1 }) (N2 (s.heap.objs.size,dictOf [] 0) (.head _)).1 rfl (N3 (s.heap.objs.size,_) (.head _)).1 (by show 1<=1000;omega) ?_;exact h _ _ _ rfl F3 N3
theorem pW {h₀:Heap}{L d:Addr}{m:Str->Option Value}{pre post:List (Addr×Obj)}{ox:Obj}{es:List DictEntry}{n:Nat}{name:Str}{v:Value}{Q:Unit->Shared->Prop}(F:Fr h₀ L s.heap m)(N:News h₀ L s.heap (pre++(d,dictOf es n)::post))
  (nd:((pre++(d,dictOf es n)::post).map (·.1)).Nodup) (X:K.In h₀) (hx:jH K C=true) (ht:takerIn K C name=some none) (hm:(x,ox)∈pre++(d,dictOf es n)::post) (hc:ox.cls=.ref C) (hd:ox.dict=some d) (hn:∃vs,ox.data=.fields vs)
  (hl:(getL name es).isSome=true) (hz:(putL name (PyData.keyHash w.params name) (.str name (s.toks+1)) v es).length<=1000)
  (h:∀h' tk,Fr h₀ L h' m->News h₀ L h' (pre++(d,dictOf (putL name (PyData.keyHash w.params name) (.str name (s.toks+1)) v es) (PySem.W.putN name es n))::post)->Q () { s with heap:=h',toks:=tk }) :
  wpAny (model prog w) A (setAttr (.ref x) name v) Q E s:=by
 have hox:=(N (x,ox) hm).1;have hod:=(N (d,dictOf es n) (by simp)).1;have hX:=X.keeps F.keep;refine av hn fun vs hv=>?_;clear hn;have I:InstAt s.heap x ox C (some (dictOf es n)):=⟨hox,hc,by unfold notCls;rw[hv],by rw[hd];exact hod⟩
 refine set_plain hX I (lF hx) ?_;refine jS (s:={ s with toks:=s.toks+1 }) hX I hx ht fun b=>?_;refine aj (lG hx) fun cd hcc hdict=>?_;obtain ⟨oc,odi,oda,osl⟩:=ox;dsimp only at hc hd hv;subst hc hd hv;refine ay (news_upd (d:=d) (o:=dictOf es n) (o':=dictOf (putL name (PyData.keyHash w.params name) (.str name (s.toks+1)) v es) (PySem.W.putN name es n)) (f:=Obj.putName name (PyData.keyHash w.params name) (.str name (s.toks+1)) v) F N
  (fun p hp e=>by
   rw[List.map_append,List.map_cons]at nd;exact (List.nodup_append.mp nd).2.2 _ (cP (f:=(·.1)) hp) d (.head _) e)
  (fun p hp e=>by
   rw[List.map_append,List.map_cons]at nd;exact (List.nodup_cons.mp (List.nodup_append.mp nd).2.1).1 (by rw[<-e];exact cP (f:=(·.1)) hp)) (by rw[putName_dict]) rfl) fun F3 N3=>?_
 refine af (au (af (af (wpAny_loadPart hox (af (Looks.here (s:={ s with toks:=s.toks+1 }) (looks_clsIn hX hcc) ?_))))));rw[hdict];refine au (a:=some d) ?_;refine qX (s:={ s with toks:=s.toks+1 }) hod hl (N3 (d,_) (by simp)).1 hz ?_;exact h _ _ F3 N3
noncomputable def vw (K:Frag)(C:Addr):Bool:=(findIn K (.ref C) "__getattribute__" == some (some (.builtin "BaseException.__getattribute__")))&&(findIn K (.ref C) "__getattr__" == some none)&&hasDictIn K C&&(mroIn K C (.type "BaseException")==some true)
theorem DK {ox od:Obj}{name:Str}{v:Value}{expr:Bool}{Q:Value->Shared->Prop}(X:K.In s.heap)(I:InstAt s.heap x ox C (some od))(hg:vw K C=true)(ha:findIn K (.ref C) name=some none)
  (hl:lookIn name od=some (some v)) (hv:handedIn v=true) (h:Q v { s with toks:=s.toks+1 }):wpAny (model prog w) A (getAttr (.ref x) name expr) Q E s:=by
 unfold vw at hg;simp only[Bool.and_eq_true,beq_iff_eq]at hg;refine ay hg fun hg'0 g4=>?_;clear hg;refine ay hg'0 fun hg'0'0 g3=>?_;clear hg'0;refine ay hg'0'0 fun g1 g2=>?_;clear hg'0'0;obtain ⟨hh',g,d,t,os⟩:=s;have L0:=I.type (M:=model prog w);have L1:=looks_find (M:=model prog w) X I (findObj_own g3 ha rfl hl);have L2:=looks_findIn (M:=model prog w) X g1;have L3:=looks_findIn (M:=model prog w) X g2;have hk:builtinKind "BaseException.__getattribute__" = some .slot:=by decide +kernel
 have hsplit:splitId "BaseException.__getattribute__" = some ("BaseException","__getattribute__"):=by decide +kernel
 unfold getAttr;refine af (wpAny_mkText ?_);unfold getAttrBy;refine wpAny_holding (af (L0.at (af (L2.at ?_))));have hx1:(onTheHeap (Value.ref C)&&Value.builtin "BaseException.__getattribute__" == Value.builtin "object.__getattribute__")=false:=by
  rw[show (Value.builtin "BaseException.__getattribute__" == Value.builtin "object.__getattribute__")=false from by decide +kernel];rfl
 dsimp only;rw[hx1];refine af (L3.at ?_);refine af (wpAny_attempt ?_);refine wpAny_holding ?_;have hb:=PySem.F.excAttr_ValueError.ga.bind (.ref x);have hx0:(expr&&onTheHeap (Value.builtin "BaseException.__getattribute__"))=false:=by induction expr using aH<;>rfl
 unfold callGetattribute;rw[hx0];show wpAny _ _ (boundAndCalled _ _ _) _ _ _;unfold boundAndCalled;rw[hb];refine af (au ?_);have hi:Looks (model prog w) hh' (isInstance (.ref x) (.type "BaseException")) true:=L0.andThen (looks_mroIn X g4);refine wpAny_call (codeAny_call_builtin PySem.F.excAttr_ValueError.ga.plain PySem.F.entry_bexc_ga (@check_slot (model prog w) _ _ _ "BaseException.__getattribute__" "BaseException" "__getattribute__" (.ref x) [.str name t] [] _ hk hsplit hi (PySem.F.args_bexc_ga (.ref x) (.str name t)) ?_));unfold Builtin.«object.__getattribute__»;refine af (au (af (au (af (L0.at (af (L1.at ?_)))))));refine au ?_;show wpAny _ _ (handedOut v) _ _ _;rw[handedOut_of hv];exact au h
end
abbrev Xs:=List (Nat×(Addr×List Str))
structure HI (K:Frag) (xs:Xs):Prop where
 ok:∀C fI l,aa xs C=some (fI,l)->jF K C=true/\jH K C=true/\vw K C=true/\findIn K (.ref C) "__init__" = some (some (.ref fI))/\isFn K (.ref fI)=true/\keepIn K (.ref C)=true/\∀x∈l,takerIn K C x=some none/\findIn K (.ref C) x=some none
end
structure ST where
 os:List (Nat×AO)
 nx:Nat
structure AF where
 sc:Scope
 loc:List (Str×AV)
 cel:List (Str×Nat)
 md:Option Nat:=none
 fa:Option Addr:=none
inductive R (α:Type) where
 |ok (a:α) (σ:ST)
 |no
theorem ag {α:Type}{a:α}{G:Prop}(e:(none:Option α)=some a):G:=nomatch e
theorem cI {α:Type}{a:α}{σ:ST}{G:Prop}(e:(R.no:R α)=.ok a σ):G:=nomatch e
theorem ak {G:Prop}(e:false=true):G:=nomatch e
theorem soo {α:Type}{a b:α}(e:some a=some b):a=b:=Option.some.inj e
theorem roo {α:Type}{a b:α}{σ σ':ST}(e:R.ok a σ=R.ok b σ'):a=b/\σ=σ':=by injection e with h1 h2;exact ⟨h1,h2⟩
theorem aoo {i j:Nat}(e:AV.obj i=AV.obj j):i=j:=by injection e
section
variable {α β:Type}
def R.bind (r:R α) (k:α->ST->R β):R β:=@R.rec α (fun zz=>R β) k .no r
def aE (o:Option α) (k:α->R β):R β:=@Option.rec α (fun zz=>R β) .no k o
def gd (b:Bool) (r:R β):R β:=@Bool.rec (fun zz=>R β) .no r b
def itR (b:Bool) (r q:R β):R β:=@Bool.rec (fun zz=>R β) q r b
def R.or (r q:R α):R α:=@R.rec α (fun zz=>R α) (fun a σ=>.ok a σ) q r
def Snd (r:R α) (Φ:α->ST->Prop):Prop:=∀a σ',r=.ok a σ'->Φ a σ'
theorem Snd.no {Φ:α->ST->Prop}:Snd .no Φ:=fun zz zz e=>cI e
theorem Snd.ok {a:α}{σ:ST}{Φ:α->ST->Prop}(h:Φ a σ):Snd (.ok a σ) Φ:=fun zz zz e=>by cases e;exact h
theorem Snd.bind {r:R α}{k:α->ST->R β}{Φ:β->ST->Prop}(h:∀a σ',r=.ok a σ'->Snd (k a σ') Φ):Snd (r.bind k) Φ:=by
 induction r using R.casesOn with
 |ok a σ=>exact h a σ rfl
 |no=>exact Snd.no
theorem Snd.opt {o:Option α}{k:α->R β}{Φ:β->ST->Prop}(h:∀a,o=some a->Snd (k a) Φ):Snd (aE o k) Φ:=by
 induction o using aF with
 |some a=>exact h a rfl
 |none=>exact Snd.no
theorem Snd.gd {b:Bool}{r:R β}{Φ:β->ST->Prop}(h:b=true->Snd r Φ):Snd (gd b r) Φ:=by
 induction b using aH with
 |true=>exact h rfl
 |false=>exact Snd.no
theorem Snd.it {b:Bool}{r q:R β}{Φ:β->ST->Prop}(h:b=true->Snd r Φ)(h':b=false->Snd q Φ):Snd (itR b r q) Φ:=by
 induction b using aH with
 |true=>exact h rfl
 |false=>exact h' rfl
theorem Snd.or {r q:R α}{Φ:α->ST->Prop}(h:Snd r Φ)(h':Snd q Φ):Snd (r.or q) Φ:=by
 induction r using R.casesOn with
 |ok a σ=>exact h
 |no=>exact h'
theorem Snd.of {r:R α}{a:α}{σ:ST}(e:r=.ok a σ){Φ:α->ST->Prop}(h:Snd r Φ):Φ a σ:=h a σ e
end
inductive AFl where
 |next|ret (v:AV)|brk|cont
abbrev RS:=R (AFl×AF)
structure CI where
 fl:List Str
 ini:Option Addr
 ms:List (Str×Addr)
structure FI where
 name:Str
 qual:Str
 params:Arguments
 body:List Stmt
 scope:Scope
 ps:List Str
 df:List AV
structure Tb where
 cls:List (Nat×CI)
 glob:List (Str×AV)
 fns:List (Nat×FI)
 sat:List (Nat×List (Str×Addr))
 lam:List (Nat×(Nat×Addr×Str))
 exs:Xs
 dcs:List (Nat×List (Str×AV))
 tps:List (Nat×List AV)
 isi:List (Nat×List (Nat×Bool))
 pi:World->Vl->OpP->List (Addr×Obj)->Prop
def Tb.fld (tb:Tb) (C:Addr):List Str:=match aa tb.cls C with|some c=>c.fl|none=>[]
def Tb.flds (tb:Tb):FL:=⟨tb.fld,tb.pi⟩
noncomputable def y7:AV->Bool
 |.bi _=>false
 |.opn _=>false
 |_=>true
theorem eC {V:Vl}{u:Value}{a:AV}(h:y7 a=true)(d:Den V a u):handedIn u=true:=by
 induction a using aA with
 |bi|opn=>cases h
 |non|boo|st|ty=>cases d;rfl
 |int|str|si|rp|ar=>refine av d fun zy d'1=>?_;clear d;obtain rfl:=d'1;rfl
 |obj|ai=>(first|refine aj d fun zy zy d'2=>?_|refine dP d fun zy zy d'2=>?_);clear d;obtain rfl:=d'2;rfl
 |uv=>rcases d with ⟨_,⟨_,rfl⟩|⟨_,_,rfl⟩⟩<;>rfl
 |opt=>rcases d with ⟨_,rfl⟩|⟨_,rfl⟩<;>rfl
 |rn=>rcases d with rfl|⟨_,rfl⟩<;>rfl
 |ss=>refine aI d fun zy zy zy d'3=>?_;clear d;obtain rfl:=d'3;rfl
 |ut|lo|hi|ge=>refine aI d fun zy zy d'2 zy=>?_;clear d;obtain rfl:=d'2;rfl
 |nm=>refine aI d fun zy zy zy d'3=>?_;clear d;obtain rfl:=d'3;rfl
def fJ (l:List Str) (x:Str):Bool:=@List.rec Str (fun zz=>Bool) false (fun a zz ih=>@Bool.rec (fun zz=>Bool) ih true (sq a x)) l
theorem eD {x:Str}:∀{l:List Str},fJ l x=true->x∈l
 |[]=>fun h=>by cases h
 |a::r=>fun h=>by
  change @Bool.rec (fun zz=>Bool) (fJ r x) true (sq a x)=true at h;generalize q:sq a x=x';induction x' using aH with
  |true=>rw[bh.mp q];exact .head _
  |false=>rw[q]at h;exact .tail _ (eD h)
noncomputable def gF:Expr->Bool
 |.Call g as _ _=>match as with
  |_::_=>true
  |[]=>match g with
   |.Name ..=>false
   |_=>true
 |_=>true
section
variable {β:Type}
noncomputable def fY (v:AV)(k:Nat->R β):R β:=match v with|.obj i=>k i|_=>.no
def eE (v:AV) (σ:ST) (k:Nat->AO->R β):R β:=fY v fun i=>aE (aa σ.os i) (k i)
def eF (v:AV) (σ:ST) (k:Nat->Addr->Nat->List (Str×AV)->R β):R β:=eE v σ fun i o=>match o with|.inst C n fs=>k i C n fs|_=>.no
def bz (v:AV) (σ:ST) (k:Nat->List AV->R β):R β:=eE v σ fun i o=>match o with|.lst es=>k i es|_=>.no
def et (v:AV) (σ:ST) (k:Nat->List AV->R β):R β:=eE v σ fun i o=>match o with|.tup es=>k i es|_=>.no
def eu (v:AV) (σ:ST) (k:Nat->List (Str×AV)->R β):R β:=eE v σ fun i o=>match o with|.dic es=>k i es|_=>.no
def nZ (v:AV) (σ:ST) (k:Nat->List (Str×AV)->R β):R β:=eE v σ fun i o=>match o with|.fdc es=>k i es|_=>.no
noncomputable def bV (v:AV)(k:Int->R β):R β:=match v with|.int i=>k i|_=>.no
noncomputable def cQ (v:AV)(k:List Nat->R β):R β:=match v with|.str i=>k i|_=>.no
noncomputable def lH (v:AV)(k:Addr->R β):R β:=match v with|.st i=>k i|_=>.no
variable {v:AV}{σ:ST}{Φ:β->ST->Prop}
theorem Snd.obj {k:Nat->R β}(h:∀i,v=.obj i->Snd (k i) Φ):Snd (fY v k) Φ:=by
 induction v using aA<;>first|exact Snd.no|exact h _ rfl
theorem Snd.ao {k:Nat->AO->R β}(h:∀i o,v=.obj i->aa σ.os i=some o->Snd (k i o) Φ):Snd (eE v σ k) Φ:=Snd.obj fun i hv=>Snd.opt fun o ho=>h i o hv ho
theorem Snd.inst {k:Nat->Addr->Nat->List (Str×AV)->R β}(h:∀i C n fs,v=.obj i->aa σ.os i=some (.inst C n fs)->Snd (k i C n fs) Φ):Snd (eF v σ k) Φ:=
 Snd.ao fun i o hv ho=>by induction o using aN<;>first|exact Snd.no|exact h i _ _ _ hv ho
theorem Snd.lst {k:Nat->List AV->R β}(h:∀i es,v=.obj i->aa σ.os i=some (.lst es)->Snd (k i es) Φ):Snd (bz v σ k) Φ:=
 Snd.ao fun i o hv ho=>by induction o using aN<;>first|exact Snd.no|exact h i _ hv ho
theorem Snd.tup {k:Nat->List AV->R β}(h:∀i es,v=.obj i->aa σ.os i=some (.tup es)->Snd (k i es) Φ):Snd (et v σ k) Φ:=
 Snd.ao fun i o hv ho=>by induction o using aN<;>first|exact Snd.no|exact h i _ hv ho
theorem Snd.dic {k:Nat->List (Str×AV)->R β}(h:∀i es,v=.obj i->aa σ.os i=some (.dic es)->Snd (k i es) Φ):Snd (eu v σ k) Φ:=
 Snd.ao fun i o hv ho=>by induction o using aN<;>first|exact Snd.no|exact h i _ hv ho
theorem Snd.fdc {k:Nat->List (Str×AV)->R β}(h:∀i es,v=.obj i->aa σ.os i=some (.fdc es)->Snd (k i es) Φ):Snd (nZ v σ k) Φ:=
 Snd.ao fun i o hv ho=>by induction o using aN<;>first|exact Snd.no|exact h i _ hv ho
theorem Snd.int {k:Int->R β}(h:∀i,v=.int i->Snd (k i) Φ):Snd (bV v k) Φ:=by
 induction v using aA<;>first|exact Snd.no|exact h _ rfl
theorem Snd.str {k:List Nat->R β}(h:∀i,v=.str i->Snd (k i) Φ):Snd (cQ v k) Φ:=by
 induction v using aA<;>first|exact Snd.no|exact h _ rfl
theorem Snd.st {k:Addr->R β}(h:∀i,v=.st i->Snd (k i) Φ):Snd (lH v k) Φ:=by
 induction v using aA<;>first|exact Snd.no|exact h _ rfl
end
def rdA (v:AV) (x:Str) (σ:ST):R AV:=eF v σ fun zz zz zz fs=>aE (aw fs x) fun a=>gd (y7 a) (.ok a σ)
def upN (n:Nat) (o:Option AV):Nat:=@Option.rec _ (fun zz=>Nat) (n+1) (fun zz=>n) o
def wrX (tb:Tb) (v:AV) (x:Str) (a:AV) (σ:ST):R Unit:=eE v σ fun i o=>match o with
 |.ex0 C=>aE (aa tb.exs C) fun c=>gd (fJ c.2 x) (.ok () ⟨bf σ.os i (.exd C true σ.nx 1 [(x,a)]),σ.nx+1⟩)
 |.exd C fr j n fs=>aE (aa tb.exs C) fun c=>gd (fJ c.2 x) (gd (Nat.blt n 900) (.ok () ⟨bf σ.os i (.exd C fr j (n+1) (put fs x a)),σ.nx⟩))
 |_=>.no
def wrA (tb:Tb) (v:AV) (x:Str) (a:AV) (σ:ST):R Unit:=
 (eF v σ fun i C n fs=>gd (fJ (tb.fld C) x) (gd (Nat.blt n 900) (.ok () ⟨bf σ.os i (.inst C (upN n (aw fs x)) (put fs x a)),σ.nx⟩))).or (wrX tb v x a σ)
structure FnOk (K:Frag) (a:Addr) (fi:FI):Prop where
 ob:∃oc od dV kV doc pm an cdv ct osl dvs,K.lookup a=some ⟨oc,od,.func (fnOf fi.name fi.qual fi.params fi.body fi.scope dV kV doc pm an cdv ct),osl⟩/\codeIn K cdv fi.qual=true/\(∀V,Dens V fi.df dvs)/\
  ∀(s:Shared) (us:List Value),K.In s.heap->us.length<=fi.ps.length->fi.ps.length<=us.length+dvs.length->BindsTo s (fnOf fi.name fi.qual fi.params fi.body fi.scope dV kV doc pm an cdv ct) ⟨us,[]⟩ (fi.ps.zip (us++dvs.drop (us.length+dvs.length - fi.ps.length)))
 keep:keepIn K (.ref a)=true
 isf:isFn K (.ref a)=true
 co:fi.scope.isCoroutine=false
 gen:fi.scope.isGenerator=false
 kind:fi.scope.kind=.function
 cell:(∀x∈fi.ps,fi.scope.names.lookup x=some .local\/(fi.scope.names.lookup x=some .cell/\((cellsFrom 0 fi.scope.names []).lookup x).isSome=true))/\((cellsFrom 0 fi.scope.names []).map (·.1)).Nodup/\∀x i,(cellsFrom 0 fi.scope.names []).lookup x=some i->fi.scope.names.lookup x=some .cell
theorem FnOk.k {K:Frag}{a:Addr}{fi:FI}(F:FnOk K a fi){G:Prop}(f:∀oc od dV kV doc pm an cdv ct osl dvs,K.lookup a=some ⟨oc,od,.func (fnOf fi.name fi.qual fi.params fi.body fi.scope dV kV doc pm an cdv ct),osl⟩->codeIn K cdv fi.qual=true->(∀V,Dens V fi.df dvs)->
  (∀(s:Shared) (us:List Value),K.In s.heap->us.length<=fi.ps.length->fi.ps.length<=us.length+dvs.length->BindsTo s (fnOf fi.name fi.qual fi.params fi.body fi.scope dV kV doc pm an cdv ct) ⟨us,[]⟩ (fi.ps.zip (us++dvs.drop (us.length+dvs.length - fi.ps.length))))->G):G:=by
 obtain ⟨oc,od,dV,kV,doc,pm,an,cdv,ct,osl,dvs,hK,hcd,hdf,hbind⟩:=F.ob;exact f oc od dV kV doc pm an cdv ct osl dvs hK hcd hdf hbind
structure ya (K:Frag) (C:Addr) (x:Str):Prop where
 g:plainGet K C x=true
 h:hasDictIn K C=true
 a:∃attr,findIn K (.ref C) x=some attr/\noGet K attr=true
 t:takerIn K C x=some none
 p:plainOver K C=true
 s:findIn K (.ref C) "__setattr__" = some (some (.builtin "object.__setattr__"))
noncomputable def DM:Nat->String
 |0=>"NoneType"|1=>"bool"|2=>"int"|3=>"str"|4=>"list"|5=>"tuple"|_=>"dict"
def hF (n:Nat):Value:=@Bool.rec (fun zz=>Value) (.ref (n - 1000)) (.type (DM n)) (Nat.blt n 1000)
theorem pX (C:Nat):hF (C+1000)=.ref C:=by
 have:Nat.blt (C+1000) 1000=false:=by
  generalize h:(Nat.blt (C+1000) 1000)=x';induction x' using aH with
  |false=>rfl
  |true=>have:=az h;lia
 unfold hF;rw[this];show Value.ref (C+1000 - 1000)=_;rw[Nat.add_sub_cancel]
structure HJ (K:Frag) (is:List (Nat×List (Nat×Bool))):Prop where
 ty:∀t l n b,aa is t=some l->aa l n=some b->n < 1000->kitOne K (hF t) (.type (tnm n))=some b
 cl:∀t l n b,aa is t=some l->aa l (n+1000)=some b->kitOne K (hF t) (.ref n)=some b
 own:∀D l,aa is (D+1000)=some l->plainGet K D "__class__" = true/\hasDictIn K D=true/\findIn K (.ref D) "__class__" = some (some (.builtin "object.__class__"))/\
  specialIn K (.builtin "object.__class__") "__get__" = some (some (.builtin "getset_descriptor.__get__"))/\takesIn K (.builtin "object.__class__")=some true/\mroIn K D (.type "object")=some true
structure dB (w:World) (K:Frag) (tb:Tb):Prop where
 fld:∀C x,x∈tb.fld C->ya K C x
 glob:∀x v,aw tb.glob x=some v->(x==("__debug__" : Str))=false/\∃u,(∀V,Den V v u)/\(nsIn K mainGlobals x=some (some u)\/(nsIn K mainGlobals x=some none/\bootBuiltins x=some u/\x≠"__name__"))
 ini:∀C c fI,aa tb.cls C=some c->c.ini=some fI->makesIn K C=true/\findIn K (.ref C) "__init__" = some (some (.ref fI))/\isFn K (.ref fI)=true/\keepIn K (.ref C)=true
 ms:∀C c x fI,aa tb.cls C=some c->aw c.ms x=some fI->x ∉ c.fl/\plainGet K C x=true/\findIn K (.ref C) x=some (some (.ref fI))/\isFn K (.ref fI)=true/\keepIn K (.ref fI)=true
 fn:∀a fi,aa tb.fns a=some fi->FnOk K a fi
 sat:∀C l x fI,aa tb.sat C=some l->aw l x=some fI->specialIn K (.ref C) "__getattribute__" = some (some (.builtin "type.__getattribute__"))/\(∃mc,typeIn K (.ref C)=some mc/\readsIn K C mc=true/\findCls K (.ref C) mc x=some (.val (.ref fI)))/\keepIn K (.ref fI)=true
 lam:∀g t P q,aa tb.lam g=some (t,P,q)->∃oc od fd sl c,K.lookup g=some ⟨oc,od,.func fd,sl⟩/\fd.code=.ref c/\q=fd.qualname++".<locals>."++"<lambda>"/\∀h,K.In h->CodeHd h c P
 exs:HI K tb.exs
 dcs:∀a kvs,aa tb.dcs a=some kvs->(a==sysModules)=false/\∃o us,K.lookup a=some o/\(∀prog,o.IsDictOf (strKind prog w) us)/\∀V,Zs V kvs us
 ti:HJ K tb.isi
 tps:∀a es,aa tb.tps a=some es->∃us n,K.lookup a=some { cls:=.type "tuple",data:=.seq us n }/\∀V,Dens V es us.toList
structure Fx where
 cn:Str
 cs:Scope
 L:Addr
 a:Addr
 ccd:Value
 cl:List (Str×Addr)
 cm:Option (Scope×Addr×List (Str×Addr)):=none
noncomputable abbrev Fx.env (f:Fx):Env:=envX f.cn f.cs f.L f.a f.ccd f.cl
noncomputable def Fx.ev (f:Fx):Env:=match f.cm with
 |none=>f.env
 |some c=>{ scope:=c.1,locals:=c.2.1,globals:=mainGlobals,cells:=c.2.2,qual:=f.cn++".<locals>.",func:=none,code:=f.ccd,frame:=some f.L,builtins:=builtinsNs }
def MdOk (V:Vl):Option (Scope×Addr×List (Str×Addr))->Option Nat->Prop
 |none,none=>True
 |some c,some i=>V.ρ i=some c.2.1
 |_,_=>False
theorem MdOk.mono {V W:Vl}(h:V.le W):∀{c:Option (Scope×Addr×List (Str×Addr))} {i:Option Nat},MdOk V c i->MdOk W c i
 |none,none,_=>trivial
 |some _,some _,e=>h.ρ _ _ e
 |none,some _,e|some _,none,e=>e.elim
def HK (K:Frag) (f:Fx):Option Addr->Prop
 |none=>True
 |some g=>∃oc od fd sl,K.lookup g=some ⟨oc,od,.func fd,sl⟩/\fd.code=f.ccd/\fd.qualname=f.cn
theorem Fx.ev_none {f:Fx}{V:Vl}{fr:AF}(h:MdOk V f.cm fr.md)(e:fr.md=none):f.ev=f.env:=by
 unfold Fx.ev;generalize q:f.cm=x';induction x' using aF with
 |none=>rfl
 |some c=>rw[e,q]at h;exact h.elim
noncomputable def txt (i m j:Nat):List Nat:=List.replicate i 100++([97,98].take m++List.replicate j 99)
def OkTx (l:List Nat):Prop:=∃i m j,i+j<=12/\m<=2/\l=txt i m j
theorem OkTx.len {l:List Nat}(h:OkTx l):l.length<=1000:=by
 refine bu h fun i m j h1 zy h'5=>?_;clear h;obtain rfl:=h'5;have:([97,98].take m).length<=2:=List.length_take_le' ..;unfold txt;rw[List.length_append,List.length_append,List.length_replicate,List.length_replicate];lia
def bK (ι:Nat->Int):Prop:=(∀k,k < 100->ι k<=ι 0)/\(∀k,1000<=k->-1<=ι k/\ι k < 5)/\∀k,200<=k->k < 300->1<=ι k
structure Dx where
 prog:Program
 w:World
 K:Frag
 p:Program
 loose:List Str
 mean:ExcName->Option Value
 mg:Str->Option Value
 mb:Str->Option Value
 tb:Tb
 A:Around
 base:Heap
 outer:List Env
 f:Fx
 h₀:Heap
 tl:List (Addr×Obj)
noncomputable abbrev Dx.M (d:Dx):Model:=model d.prog d.w
noncomputable abbrev Dx.ev (d:Dx):Env:=d.f.ev
structure Cx (d:Dx):Prop where
 O:dB d.w d.K d.tb
 B:∃A₀,Below A₀ d.base d.outer d.h₀
 hA:d.A.frames=some (d.f.env::d.outer)
 hh:d.A.handled=none
 hg:d.A.guards=some []
 hk:d.f.ev.scope.kind=.function
 hf:d.f.cs.kind=.function
 T:Top d.p d.loose d.mean d.mg d.mb d.h₀
 X:d.K.In d.h₀
structure Lx (d:Dx) (V:Vl) (fr:AF):Prop where
 md:MdOk V d.f.cm fr.md
 fa:HK d.K d.f fr.fa
 sc:fr.sc=d.f.ev.scope
 cel:∀x i,aw fr.cel x=some i->∃c,V.ρ i=some c/\d.f.ev.cells.lookup x=some c
theorem Lx.mono {d:Dx}{V W:Vl}{fr:AF}(h:V.le W)(l:Lx d V fr):Lx d W fr:=⟨l.md.mono h,l.fa,l.sc,fun x i e=>(l.cel x i e).imp fun c q=>⟨h.ρ _ _ q.1,q.2⟩⟩
structure Sx (d:Dx) (V:Vl) (fr:AF) (os:List (Nat×AO)) (h:Heap) (m:Str->Option Value) (news:List (Addr×Obj)):Prop where
 F:Fr d.h₀ d.f.L h m
 N:News d.h₀ d.f.L h news
 D:Led d.w V d.tb.flds d.tl os news
 nd:(news.map (·.1)).Nodup
 lc:∀x v,aw fr.loc x=some v->∃u,m x=some u/\Den V v u
structure Vx (V:Vl) (n:Nat):Prop where
 fresh:∀i,n<=i->V.ρ i=none/\V.δ i=none/\V.τ i=none
 num:bK V.ι
 txt:∀k l,V.τ k=some l->OkTx l
structure At (d:Dx) (V:Vl) (fr:AF) (σ:ST) (s:Shared):Prop where
 c:Cx d
 l:Lx d V fr
 v:Vx V σ.nx
 st:∃m news,Sx d V fr σ.os s.heap m news
noncomputable abbrev Shared.to (s:Shared) (h:Heap) (tk:Nat):Shared:={ s with heap:=h,toks:=tk }
def Po (d:Dx) (V:Vl) (fr:AF) (σ:ST) (s:Shared) {β:Type} (D:Vl->β->Prop) (Q:β->Shared->Prop):Prop:=
 ∀u h tk W,V.le W->D W u->At d W fr σ (Shared.to s h tk)->Q u (Shared.to s h tk)
def Tr (d:Dx) (V:Vl) (fr:AF) (σ:ST) {β:Type} (t:Sem β) (fr':AF) (σ':ST) (D:Vl->β->Prop):Prop:=
 ∀s Q E,At d V fr σ s->Po d V fr' σ' s D Q->wpAny d.M d.A t Q E s
def DE (v:AV) (W:Vl) (u:Value):Prop:=Den W v u
def DL (vs:List AV) (W:Vl) (us:List Value):Prop:=Dens W vs us
def DU {β:Type} (_:Vl) (_:β):Prop:=True
def DB {β:Type} (b:β) (_:Vl) (c:β):Prop:=c=b
abbrev TE (d:Dx) (V:Vl) (fr:AF) (σ:ST) (t:Sem Value) (v:AV) (σ':ST):Prop:=Tr d V fr σ t fr σ' (DE v)
abbrev TU (d:Dx) (V:Vl) (fr:AF) (σ:ST) (t:Sem Unit) (_:Unit) (σ':ST):Prop:=Tr d V fr σ t fr σ' DU
def Room (A:Around) (n:Nat):Prop:=A.depth+3*n < recursionLimit/\A.units+10*n+10 < cLine
theorem Room.mono {A:Around}{n m:Nat}(h:Room A n)(l:m<=n):Room A m:=⟨jP (Nat.add_le_add_left (Nat.mul_le_mul_left 3 l) _) h.1,jP (Nat.add_le_add_right (Nat.add_le_add_left (Nat.mul_le_mul_left 10 l) _) _) h.2⟩
theorem ro {a b c k:Nat}(h:k<=c):a+k+b<=a+(b+c):=by rw[Nat.add_assoc,Nat.add_comm k];exact Nat.add_le_add_left (Nat.add_le_add_left h b) a
abbrev EX:=Expr->AF->ST->R AV
def EOk (tb:Tb) (n:Nat) (ex:EX):Prop:=∀{e fr σ v σ'},ex e fr σ=.ok v σ'->∀{d V},d.tb=tb->Room d.A n->TE d V fr σ (eval e d.ev) v σ'
section
variable {d:Dx}{V W:Vl}{fr fr':AF}{σ σ':ST}{s:Shared}{E:Value->Shared->Prop}{β γ:Type}
theorem At.tok (a:At d V fr σ s)(tk:Nat):At d V fr σ { s with toks:=tk }:=⟨a.c,a.l,a.v,a.st⟩
theorem Po.here {D:Vl->β->Prop}{Q:β->Shared->Prop}(P:Po d V fr σ s D Q)(a:At d V fr σ s){u:β}(h:D V u):Q u s:=P u s.heap s.toks V (.refl V) h a
theorem Po.tok {D:Vl->β->Prop}{Q:β->Shared->Prop}(P:Po d V fr σ s D Q)(a:At d V fr σ s){u:β}(h:D V u)(tk:Nat):Q u { s with toks:=tk }:=P u s.heap tk V (.refl V) h (a.tok tk)
theorem Po.from {D:Vl->β->Prop}{Q:β->Shared->Prop}{h:Heap}{tk:Nat}(P:Po d V fr σ s D Q)(l:V.le W):Po d W fr σ (Shared.to s h tk) D Q:=fun u h' tk' U l' q a=>P u h' tk' U (l.trans l') q a
theorem At.stK (a:At d V fr σ s){G:Prop}(k:∀m news,Sx d V fr σ.os s.heap m news->G):G:=a.st.elim fun m h=>h.elim fun news x=>k m news x
theorem At.Xs (a:At d V fr σ s):d.K.In s.heap:=a.stK fun zz zz x=>a.c.X.keeps x.F.keep
theorem At.put (a:At d V fr σ s)(le:V.le W){σ₁:ST}{h':Heap}{tk:Nat}{m:Str->Option Value}{news news':List (Addr×Obj)}(x:Sx d V fr σ.os s.heap m news)(F:Fr d.h₀ d.f.L h' m)(N:News d.h₀ d.f.L h' news')(D:Led d.w W d.tb.flds d.tl σ₁.os news')
  (nd:(news'.map (·.1)).Nodup) (v:Vx W σ₁.nx):At d W fr σ₁ (Shared.to s h' tk):=
 ⟨a.c,a.l.mono le,v,m,news',F,N,D,nd,fun y z e=>(x.lc y z e).imp fun u q=>⟨q.1,q.2.mono le⟩⟩
theorem At.putV (a:At d V fr σ s){os:List (Nat×AO)}{h':Heap}{tk:Nat}{m:Str->Option Value}{news news':List (Addr×Obj)}(x:Sx d V fr σ.os s.heap m news)(F:Fr d.h₀ d.f.L h' m)(N:News d.h₀ d.f.L h' news')(D:Led d.w V d.tb.flds d.tl os news')
  (nd:(news'.map (·.1)).Nodup):At d V fr ⟨os,σ.nx⟩ (Shared.to s h' tk):=⟨a.c,a.l,a.v,m,news',F,N,D,nd,x.lc⟩
theorem Tr.seq {t:Sem β}{t':Sem γ}{k:β->Sem γ}{fr₁ fr₂:AF}{σ₁ σ₂:ST}{D:Vl->β->Prop}{D₂:Vl->γ->Prop}(h:Tr d V fr σ t fr₁ σ₁ D)
  (c:∀{s Q E},wpAny d.M d.A t (fun u s₁=>wpAny d.M d.A (k u) Q E s₁) E s->wpAny d.M d.A t' Q E s) (g:∀W u,V.le W->D W u->Tr d W fr₁ σ₁ (k u) fr₂ σ₂ D₂):Tr d V fr σ t' fr₂ σ₂ D₂:=
 fun s Q E a P=>c (h s _ E a fun u h tk W le q a₁=>g W u le q _ Q E a₁ (P.from le))
theorem Tr.map {t:Sem β}{t':Sem γ}{g:β->γ}{fr₁:AF}{σ₁:ST}{D:Vl->β->Prop}{D₂:Vl->γ->Prop}(h:Tr d V fr σ t fr₁ σ₁ D)
  (c:∀{s Q E},wpAny d.M d.A t (fun u s₁=>Q (g u) s₁) E s->wpAny d.M d.A t' Q E s) (q:∀W u,V.le W->D W u->D₂ W (g u)):Tr d V fr σ t' fr₁ σ₁ D₂:=
 fun s Q E a P=>c (h s _ E a fun u h tk W le z a₁=>P (g u) h tk W le (q W u le z) a₁)
theorem At.inst (a:At d V fr σ s){v:AV}{i C n:Nat}{fs:List (Str×AV)}{u:Value}(hv:v=.obj i)(ho:aa σ.os i=some (.inst C n fs))(du:Den V v u){G:Prop}
  (k:∀m news y dx es k,Sx d V fr σ.os s.heap m news->u=.ref y->V.ρ i=some y->Ents V (d.tb.fld C) n fs es->InstAt s.heap y (instObj C dx) C (some (dictOf es k))->G):G:=by
 rw[hv]at du;refine a.stK fun m news x=>?_;refine aj du fun ax hρ hu=>?_;clear du;refine aj (x.D.mem ho) fun l hi hm=>?_;refine iS hi fun y dx es kk h1 h2 h3 hl=>?_;clear hi;obtain rfl:=soo (hρ.symm.trans h1);rw[hl]at hm;exact k m news ax dx es kk x hu hρ h3 (InstAt.of_news x.N (hm _ (.head _)) (hm _ (.tail _ (.head _))))
theorem Ents.mem {fl:List Str}{n:Nat}{fs:List (Str×AV)}{es:List DictEntry}(h:Ents V fl n fs es){x:Str}{u:Value}(g:getL x es=some (some u)):x∈fl:=by
 unfold getL at g;generalize he:(es.find? (fun d=>d.key.isStr x))=x';induction x' using aF with
 |none=>rw[he]at g;dsimp only at g;split at g<;>cases g
 |some en=>
  refine aI (h.keys en (List.mem_of_find?_eq_some he)) fun z t hz hzf=>?_;have:=List.find?_some he;rw[eV hz]at this;rw[<-of_decide_eq_true this];exact hzf
theorem qY {v:AV}{x:Str}{u:Value}{expr:Bool}(du:Den V v u):Snd (rdA v x σ) (TE d V fr σ (getAttr u x expr)):=
 Snd.inst fun i C n fs hv ho=>Snd.opt fun b hb=>Snd.gd fun hf=>Snd.ok fun s Q E a P=>a.inst hv ho du fun m news y dx es k X hu zz En I=>by
  refine aj (En.known x b hb) fun w g1 g2=>?_;have c:=a.c.O.fld C x (En.mem g1);refine aj c.a fun zy c3 c4=>?_;exact hu▸get_own X.F a.c.X I c.g c.h c3 c4 g1 (eC hf g2) (P.tok a g2 _)
end
section
set_option genInjectivity true
set_option genSizeOfSpec true
noncomputable def Vl.addD (V:Vl)(i:Nat)(d:Addr):Vl:={ V with δ:=fun k=>if k=i then some d else V.δ k }
theorem Vl.addD_le {V:Vl}{i:Nat}{d:Addr}(h:V.δ i=none):V.le (V.addD i d):=by
 refine ⟨fun zz zz e=>e,fun k x e=>?_,rfl,fun zz zz e=>e⟩;show (if k=i then some d else V.δ k)=_;by_cases q:k=i
 ·subst q;rw[h]at e;cases e
 ·rw[if_neg q];exact e
theorem Vl.addD_at {V:Vl}{i:Nat}{d:Addr}:(V.addD i d).δ i=some d:=by show (if i=i then some d else V.δ i)=_;rw[if_pos rfl]
theorem Vl.addD_off {V:Vl}{i j:Nat}{d:Addr}(h:j≠i):(V.addD i d).δ j=V.δ j:=by show (if j=i then some d else V.δ j)=_;rw[if_neg h]
theorem Vx.addD {V:Vl}{n:Nat}{d:Addr}(v:Vx V n):Vx (V.addD n d) (n+1):=⟨fun i hi=>by
 refine bU (v.fresh i (by lia)) fun f1 f2 f3=>?_;exact ⟨f1,by rw[Vl.addD_off (by lia)];exact f2,f3⟩,v.num,v.txt⟩
theorem og (x:Str)(a:AV):∀fs:List (Str×AV),x∈(put fs x a).map (·.1)
 |[]=>.head _
 |p::r=>by
  rw[eB]
  split
  ·exact .head _
  ·exact .tail _ (og x a r)
set_option tactic.hygienic true in
theorem jT (x:Str)(a:AV){z:Str}:∀{fs:List (Str×AV)},z∈fs.map (·.1)->z∈(put fs x a).map (·.1)
 |[]=>fun h=>nomatch h
 |p::r=>fun h=>by
  rw[eB];rcases aG h with rfl|h
  ·split
   ·rename_i q;show p.1∈_;rw[q];exact .head _
   ·exact .head _
  ·split
   ·exact .tail _ h
   ·exact .tail _ (jT x a h)
abbrev L2:=List (Addr×Obj)
theorem eX (pre post:L2)(p q:Addr×Obj):pre++([p,q]++post)=(pre++[p])++q::post:=by simp
theorem f7 {pre l l' post:L2}(h:((pre++(l++post)).map (·.1)).Nodup)(e:l'.map (·.1)=l.map (·.1)):((pre++(l'++post)).map (·.1)).Nodup:=by
 rw[List.map_append,List.map_append,e,<-List.map_append,<-List.map_append];exact h
theorem qZ {pre post:L2}{p:Addr×Obj}{q:Addr×Obj}{o:Obj}(h:((pre++([p]++post)).map (·.1)).Nodup)(n:q.1 ∉ (pre++([p]++post)).map (·.1)):((pre++([(p.1,o),q]++post)).map (·.1)).Nodup:=by
 have pm:((pre++([(p.1,o),q]++post)).map (·.1)).Perm (q.1::(pre++([p]++post)).map (·.1)):=by
  simp only[List.map_append,List.map_cons,List.cons_append,List.nil_append];exact (List.Perm.append_left _ (List.Perm.swap _ _ _)).trans List.perm_middle
 rw[pm.nodup_iff,List.nodup_cons];exact ⟨n,h⟩
section
variable {V:Vl}{fl:List Str}{n:Nat}{fs:List (Str×AV)}{es:List DictEntry}
theorem Ents.sk (h:Ents V fl n fs es):eW es:=fun e he=>let ⟨x,t,hk,_⟩:=h.keys e he;⟨x,t,hk⟩
theorem Ents.put (h:Ents V fl n fs es){x:Str}{i:Int}{t:Tok}{a:AV}{u:Value}(hx:x∈fl)(du:Den V a u):Ents V fl (n+1) (Nu.Internal.put fs x a) (putL x i (.str x t) u es):=
 ⟨jR hx h.keys,ba qW (Nat.add_le_add_right h.len 1),fun z b hb=>by
  rw[fU]at hb;rw[pU h.sk];by_cases q:x=z
  ·rw[if_pos q]at hb ⊢;cases hb;exact ⟨u,rfl,du⟩
  ·rw[if_neg q]at hb ⊢;exact h.known z b hb⟩
set_option tactic.hygienic true in
theorem jU {h:Int}{x:Str}{k v:Value}:∀{es:List DictEntry},(∃e∈es,e.key.isStr x=true)->(putL x h k v es).length=es.length
 |[],⟨_,m,_⟩=>absurd m bI
 |e::r,⟨e',m,q⟩=>by
  unfold putL
  split
  ·rfl
  ·rename_i hn;rw[List.length_cons,List.length_cons,jU];cases m with
   |head=>exact absurd q hn
   |tail _ m=>exact ⟨e',m,q⟩
set_option tactic.hygienic true in
theorem m6 {x:Str}{u:Value}{es:List DictEntry}(g:getL x es=some (some u)):∃e∈es,e.key.isStr x=true:=by
 unfold getL at g
 split at g
 ·rename_i en he;have q:=List.find?_some he;exact ⟨en,List.mem_of_find?_eq_some he,q⟩
 ·split at g
  ·exact ag g
  ·exact ag (soo g)
theorem y8 (n:Nat)(o:Option AV):upN n o<=n+1:=by induction o using aF<;>first|exact aP _|exact er _
theorem Ents.putU (h:Ents V fl n fs es){x:Str}{i:Int}{t:Tok}{a:AV}{u:Value}(hx:x∈fl)(du:Den V a u):Ents V fl (upN n (aw fs x)) (Nu.Internal.put fs x a) (putL x i (.str x t) u es):=by
 have E:=h.put (i:=i) (t:=t) hx du;generalize hl:aw fs x=x';induction x' using aF with
 |none=>exact E
 |some v=>
  refine aj (h.known x v hl) fun w g zy=>?_;exact ⟨E.keys,by rw[jU (m6 g)];exact h.len,E.known⟩
theorem Ents.put' (h:Ents V (fs.map (·.1)) n fs es){x:Str}{i:Int}{t:Tok}{a:AV}{u:Value}(du:Den V a u):Ents V ((Nu.Internal.put fs x a).map (·.1)) (n+1) (Nu.Internal.put fs x a) (putL x i (.str x t) u es):=
 Ents.put ⟨fun e he=>let ⟨z,tt,q1,q2⟩:=h.keys e he;⟨z,tt,q1,jT x a q2⟩,h.len,h.known⟩ (og x a fs) du
end
theorem Ents.nil {V:Vl}{fl:List Str}:Ents V fl 0 [] []:=⟨fun e he=>(nomatch he),aP _,fun z b hb=>(nomatch hb)⟩
section
variable {d:Dx}{V W:Vl}{fr fr':AF}{σ σ':ST}{s:Shared}{E:Value->Shared->Prop}{β γ:Type}
theorem At.swapK (a:At d V fr σ s){i:Nat}{ao:AO}(ho:aa σ.os i=some ao){G:Prop}
  (k:∀m pre l post,Sx d V fr σ.os s.heap m (pre++(l++post))->Is d.w V d.tb.flds i ao l->(∀W,V.le W->∀ao' l',Is d.w W d.tb.flds i ao' l'->Led d.w W d.tb.flds d.tl (bf σ.os i ao') (pre++(l'++post)))->G):G:=
 a.stK fun m news x=>by
  refine bu (x.D.splitM ho) fun pre l post h1 h2 h3=>?_;subst h1;exact k m pre l post x h2 h3
theorem At.turn (a:At d V fr σ s){i:Nat}{ao:AO}(ho:aa σ.os i=some ao){G:Prop}(k:∀l,Is d.w V d.tb.flds i ao l->(∀p∈l,s.heap.get? p.1=some p.2/\p.1≠d.f.L)->
  (∀ao' l' h' tk,Is d.w V d.tb.flds i ao' l'->(∀p∈l',h'.get? p.1=some p.2)->(l'.map (·.1)).Sublist (l.map (·.1))->(∀b o,b ∉ l.map (·.1)->s.heap.get? b=some o->h'.get? b=some o)->
   At d V fr ⟨bf σ.os i ao',σ.nx⟩ (Shared.to s h' tk))->G):G:=
 a.swapK ho fun m pre l post x hl up=>by
  have ml:∀p∈l,p∈pre++(l++post):=fun p hp=>a9 _ (bS _ hp);have ofl:∀b,b∈l.map (·.1)->b≠d.f.L/\d.h₀.get? b=none:=fun b hb=>by
   refine aj (List.mem_map.mp hb) fun q hq z'2=>?_;obtain rfl:=z'2;exact (x.N q (ml q hq)).2
  refine k l hl (fun p hp=>⟨(x.N p (ml p hp)).1,(x.N p (ml p hp)).2.1⟩) fun ao' l' h' tk is' g1 sub kk=>?_;refine mV x.F.ns fun oL a1 a2 hL a3=>?_;have nd:=x.nd;rw[List.map_append,List.map_append,List.nodup_append]at nd;refine bU nd fun zy n2 n3=>?_;clear nd;rw[List.nodup_append]at n2;refine bU n2 fun zy zy n6=>?_;clear n2;refine a.putV x ⟨⟨oL,a1,a2,kk _ _ (fun q=>(ofl _ q).1 rfl) hL,a3⟩,fun b o e=>kk b o (fun q=>by rw[(ofl b q).2]at e;cases e) (x.F.keep b o e),x.F.above⟩ (fun p hp=>?_) (up V (.refl V) ao' l' is') ?_
  ·rcases bn hp with h1|h1
   ·have:=x.N p (bS _ h1);exact ⟨kk _ _ (fun q=>n3 p.1 (List.mem_map.mpr ⟨p,h1,rfl⟩) p.1 (bS _ q) rfl) this.1,this.2⟩
   ·rcases bn h1 with h2|h2
    ·exact ⟨g1 p h2,ofl p.1 (sub.subset (List.mem_map.mpr ⟨p,h2,rfl⟩))⟩
    ·have:=x.N p (a9 _ (a9 _ h2));exact ⟨kk _ _ (fun q=>n6 p.1 q p.1 (List.mem_map.mpr ⟨p,h2,rfl⟩) rfl) this.1,this.2⟩
  ·refine x.nd.sublist ?_;rw[List.map_append,List.map_append,List.map_append,List.map_append];exact (List.Sublist.refl _).append (sub.append (.refl _))
theorem y9 {v a:AV}{x:Str}{u ua:Value}(du:Den V v u)(da:Den V a ua) :
  Snd (eF v σ fun i C n fs=>gd (fJ (d.tb.fld C) x) (gd (Nat.blt n 900) (.ok () ⟨bf σ.os i (.inst C (upN n (aw fs x)) (put fs x a)),σ.nx⟩))) (TU d V fr σ (setAttr u x ua)):=
 Snd.inst fun i C n fs hv ho=>Snd.gd fun hx=>Snd.gd fun hn=>Snd.ok fun s Q E at_ P=>at_.swapK ho fun m pre l post X hi up=>by
  rw[hv]at du;refine aj du fun ax hρ hu=>?_;clear du;refine iS hi fun y dx es k h1 h2 h3 hi'7=>?_;clear hi;obtain rfl:=hi'7;obtain rfl:=soo (hρ.symm.trans h1);have hx:=eD hx;have c:=at_.c.O.fld C x hx;have I:InstAt s.heap ax (instObj C dx) C (some (dictOf es k)):=InstAt.of_news X.N (a9 _ (.head _)) (a9 _ (.tail _ (.head _)));have hlen:=h3.len;have hn':n < 900:=az hn;have E':=h3.putU (i:=PyData.keyHash d.w.params x) (t:=s.toks+1) hx da;have N:=X.N;have nd:=X.nd;rw[eX]at N nd;rw[hu];refine set_dict (prog:=d.prog) X.F at_.c.X N I rfl c.s c.p c.t c.h (jQ h3.sk x) rfl (Upd.of nd) (by have:=E'.len;have:=y8 n (aw fs x);lia) fun h' F' N'=>?_;rw[<-eX]at N';exact P () h' _ V (.refl V) trivial (at_.putV X F' N' (up V (.refl V) _ _ (.inst h1 h2 E')) (f7 X.nd rfl))
theorem za {v a:AV}{x:Str}{u ua:Value}{i C:Nat}(hv:v=.obj i)(ho:aa σ.os i=some (.ex0 C))(du:Den V v u)(da:Den V a ua) :
  Snd (aE (aa d.tb.exs C) fun c=>gd (fJ c.2 x) (.ok () ⟨bf σ.os i (.exd C true σ.nx 1 [(x,a)]),σ.nx+1⟩)) (TU d V fr σ (setAttr u x ua)):=
 Snd.opt fun c hl=>Snd.gd fun hx=>Snd.ok fun s Q E at_ P=>at_.swapK ho fun m pre l post X hi up=>by
  rw[hv]at du;refine aj du fun ax hρ hu=>?_;clear du;refine aR hi fun y o h1 h2 hi'4=>?_;clear hi;obtain rfl:=hi'4;obtain rfl:=soo (hρ.symm.trans h1);obtain ⟨fI,ls⟩:=c;refine vh (at_.c.O.exs.ok _ _ _ hl) fun zy x2 zy zy zy zy x7=>?_;obtain ⟨vs,b1,d1,d2,t,d3,d4⟩:=h2.dat;rw[hu];refine pV (pre:=pre) (post:=post) X.F X.N X.nd at_.c.X x2 (x7 x (eD hx)).1 h2.cls h2.dict ⟨vs,d1⟩ fun h' dd tk hdd F' N'=>?_;have le:=Vl.addD_le (d:=dd) (at_.v.fresh σ.nx (aP _)).2.1;refine P () h' tk _ le trivial (at_.put le X F' (fun q hq=>N' q ?_) (up _ le _ _ (.exd (o:={ o with dict:=some dd }) (es:=putL x (PyData.keyHash d.w.params x) (.str x (s.toks+1)) ua []) (k:=PySem.W.putN x [] 0) (le.ρ _ _ h1) Vl.addD_at ⟨h2.cls,rfl,vs,b1,d1,d2,t,d3,d4⟩
   (show Ents _ ([(x,a)].map (·.1)) 1 [(x,a)] _ from Ents.put' (fs:=[]) Ents.nil (da.mono le)))) (qZ X.nd ?_) at_.v.addD)
  ·rcases bn hq with h|h
   ·exact .tail _ (bS _ h)
   ·rcases aG h with h|h
    ·exact .tail _ (a9 _ (by rw[h];exact .head _))
    ·rcases aG h with h|h
     ·rw[h];exact .head _
     ·exact .tail _ (a9 _ (.tail _ h))
  ·intro hm;refine aj (List.mem_map.mp hm) fun q hq e=>?_;exact absurd (Heap.lt_size (X.N q hq).1) (by rw[e];show ¬ dd < _;rw[hdd];exact Nat.lt_irrefl _)
theorem zb {v a:AV}{x:Str}{u ua:Value}{i C j n:Nat}{fx:Bool}{fs:List (Str×AV)}(hv:v=.obj i)(ho:aa σ.os i=some (.exd C fx j n fs))(du:Den V v u)(da:Den V a ua) :
  Snd (aE (aa d.tb.exs C) fun c=>gd (fJ c.2 x) (gd (Nat.blt n 900) (.ok () ⟨bf σ.os i (.exd C fx j (n+1) (put fs x a)),σ.nx⟩))) (TU d V fr σ (setAttr u x ua)):=
 Snd.opt fun c hl=>Snd.gd fun hx=>Snd.gd fun hn=>Snd.ok fun s Q E at_ P=>at_.swapK ho fun m pre l post X hi up=>by
  rw[hv]at du;refine aj du fun ax hρ hu=>?_;clear du;refine pS hi fun y o dx es k h1 h2 h3 h4 hi'9=>?_;clear hi;obtain rfl:=hi'9;obtain rfl:=soo (hρ.symm.trans h1);obtain ⟨fI,ls⟩:=c;refine vh (at_.c.O.exs.ok _ _ _ hl) fun zy x2 zy zy zy zy x7=>?_;obtain ⟨vs,b1,d1,d2,t,d3,d4⟩:=h3.dat;have hlen:=h4.len;have hn':n < 900:=az hn;have E':=h4.put' (x:=x) (i:=PyData.keyHash d.w.params x) (t:=s.toks+1) da;have N:=X.N;have nd:=X.nd;rw[eX]at N nd;rw[hu];refine pW (pre:=pre++[(ax,o)]) (post:=post) (x:=ax) (ox:=o) (d:=dx) X.F N nd at_.c.X x2 (x7 x (eD hx)).1 (bS _ (a9 _ (.head _))) h3.cls h3.dict ⟨vs,d1⟩ (jQ h4.sk x) (by have:=E'.len;lia) fun h' tk F' N'=>?_;rw[<-eX]at N';exact P () h' tk V (.refl V) trivial (at_.putV X F' N' (up V (.refl V) _ _ (.exd h1 h2 h3 E')) (f7 X.nd rfl))
theorem q8 {v a:AV}{x:Str}{u ua:Value}(du:Den V v u)(da:Den V a ua):Snd (wrA d.tb v x a σ) (TU d V fr σ (setAttr u x ua)):=
 (y9 du da).or (Snd.ao fun i o hv ho=>by
  induction o using aN<;>first|exact Snd.no|exact za hv ho du da|exact zb hv ho du da)
def dQ (x:Str):Bool:=match sq x (Str.mk ⟨[95,95,100,101,98,117,103,95,95]⟩) with|true=>false|false=>true
theorem zc:("__debug__" : Str)=Str.mk ⟨[95,95,100,101,98,117,103,95,95]⟩:=by decide +kernel
theorem bP {x:Str}(h:dQ x=true):(x==("__debug__" : Str))=false:=by
 unfold dQ at h;rw[zc];generalize q:(sq x (Str.mk ⟨[95,95,100,101,98,117,103,95,95]⟩))=x';induction x' using aH with
 |true=>rw[q]at h;cases h
 |false=>exact fT fun e=>by rw[bh.mpr e]at q;cases q
def oh (x:Str):Bool:=match sq x (Str.mk ⟨[95,95,99,108,97,115,115,100,105,99,116,95,95]⟩) with|true=>false|false=>true
theorem DN:("__classdict__" : Str)=Str.mk ⟨[95,95,99,108,97,115,115,100,105,99,116,95,95]⟩:=by decide +kernel
theorem q9 {x:Str}(h:oh x=true):(x==("__classdict__" : Str))=false:=by
 unfold oh at h;rw[DN];generalize q:(sq x (Str.mk ⟨[95,95,99,108,97,115,115,100,105,99,116,95,95]⟩))=x';induction x' using aH with
 |true=>rw[q]at h;cases h
 |false=>exact fT fun e=>by rw[bh.mpr e]at q;cases q
noncomputable def iy:Option NameKind->Bool|some .local=>true|_=>false
noncomputable def vy:Option NameKind->Bool|some .globalImplicit=>true|_=>false
noncomputable def m7:Option NameKind->Bool|some .cell=>true|_=>false
noncomputable def vz:Option NameKind->Bool|some .free=>true|_=>false
theorem eY {o:Option NameKind}(h:iy o=true):o=some .local:=by unfold iy at h;split at h<;>first|rfl|cases h
theorem ol {o:Option NameKind}(h:vy o=true):o=some .globalImplicit:=by unfold vy at h;split at h<;>first|rfl|cases h
theorem km {o:Option NameKind}(h:m7 o=true):o=some .cell:=by unfold m7 at h;split at h<;>first|rfl|cases h
theorem vA {o:Option NameKind}(h:vz o=true):o=some .free:=by unfold vz at h;split at h<;>first|rfl|cases h
def lI {β:Type} (i:Nat) (σ:ST) (k:List (Str×AV)->R β):R β:=aE (aa σ.os i) fun o=>match o with|.nsp fs=>k fs|_=>.no
def om {β:Type} (i:Nat) (σ:ST) (k:Option AV->R β):R β:=aE (aa σ.os i) fun o=>match o with|.cel v=>k v|_=>.no
theorem Snd.nsp {β:Type}{Φ:β->ST->Prop}{i:Nat}{k:List (Str×AV)->R β}(h:∀fs,aa σ.os i=some (.nsp fs)->Snd (k fs) Φ):Snd (lI i σ k) Φ:=Snd.opt fun o ho=>by induction o using aN<;>first|exact Snd.no|exact h _ ho
theorem Snd.cel {β:Type}{Φ:β->ST->Prop}{i:Nat}{k:Option AV->R β}(h:∀v,aa σ.os i=some (.cel v)->Snd (k v) Φ):Snd (om i σ k) Φ:=Snd.opt fun o ho=>by induction o using aN<;>first|exact Snd.no|exact h _ ho
def mdR {β:Type} (o:Option Nat) (r:R β) (k:Nat->R β):R β:=@Option.rec Nat (fun zz=>R β) r k o
theorem Snd.md {β:Type}{Φ:β->ST->Prop}{o:Option Nat}{r:R β}{k:Nat->R β}(h:o=none->Snd r Φ)(h' :∀i,o=some i->Snd (k i) Φ):Snd (mdR o r k) Φ:=by
 induction o using aF with
 |none=>exact h rfl
 |some i=>exact h' i rfl
def rdL (x:Str) (fr:AF) (σ:ST):R AV:=mdR fr.md (aE (aw fr.loc x) fun v=>.ok v σ) fun i=>lI i σ fun fs=>aE (aw fs x) fun v=>.ok v σ
def rdC (x:Str) (fr:AF) (σ:ST):R AV:=aE (aw fr.cel x) fun i=>om i σ fun o=>aE o fun v=>.ok v σ
def rdN (tb:Tb) (x:Str) (fr:AF) (σ:ST):R AV:=gd (dQ x) ((gd (iy (aw fr.sc.names x)) (rdL x fr σ)).or ((gd (vy (aw fr.sc.names x)) (aE (aw tb.glob x) fun v=>.ok v σ)).or
 ((gd (m7 (aw fr.sc.names x)) (rdC x fr σ)).or (gd (vz (aw fr.sc.names x)) (gd (oh x) (rdC x fr σ))))))
noncomputable def cst (c:Const)(σ:ST):R AV:=match c with
 |.none=>.ok .non σ
 |.bool b=>.ok (.boo b) σ
 |.int i=>.ok (.int i) σ
 |.str s=>.ok (.str s.cps.toList) σ
 |_=>.no
theorem Fx.ev_globals {f:Fx}:f.ev.globals=mainGlobals:=by unfold Fx.ev;split<;>rfl
theorem Fx.ev_builtins {f:Fx}:f.ev.builtins=builtinsNs:=by unfold Fx.ev;split<;>rfl
theorem Fx.ev_some {f:Fx}{c:Scope×Addr×List (Str×Addr)}(h:f.cm=some c):f.ev.locals=c.2.1:=by unfold Fx.ev;rw[h]
theorem Lx.kd (l:Lx d V fr){x:Str}{k:NameKind}(h:aw fr.sc.names x=some k):d.f.ev.kindOf x=some k:=by rw[l.sc,aQ]at h;exact h
theorem Lx.ns (l:Lx d V fr){i:Nat}(h:fr.md=some i):V.ρ i=some d.f.ev.locals:=by
 have md:=l.md;rw[h]at md;generalize hcm:d.f.cm=x';induction x' using aF with
 |none=>rw[hcm]at md;exact md.elim
 |some c=>rw[hcm]at md;rw[Fx.ev_some hcm];exact md
theorem At.has (a:At d V fr σ s){i:Nat}{ao:AO}(ho:aa σ.os i=some ao){G:Prop}(k:∀l,Is d.w V d.tb.flds i ao l->(∀p∈l,s.heap.get? p.1=some p.2)->G):G:=
 a.stK fun m news x=>let ⟨l,h1,h2⟩:=x.D.mem ho;k l h1 fun p hp=>(x.N p (h2 p hp)).1
theorem zd {x:Str}{pos:Pos}(hk:iy (aw fr.sc.names x)=true)(hd:dQ x=true):Snd (rdL x fr σ) (TE d V fr σ (eval (.Name x pos) d.ev)):=
 Snd.md (fun hmd=>Snd.opt fun v hv=>Snd.ok fun s Q E a P=>a.stK fun m news X=>by
   refine aj (X.lc x v hv) fun u hu du=>?_;have hk:=a.l.kd (eY hk);have hev:=Fx.ev_none a.l.md hmd;rw[hev]at hk;show wpAny _ _ (eval _ d.f.ev) _ _ _;rw[hev];exact nameX_L X.F hu (P.here a du) a.c.hf hk (bP hd))
  fun i hmd=>Snd.nsp fun fs ho=>Snd.opt fun v hv=>Snd.ok fun s Q E a P=>a.has ho fun l hl g=>by
   refine bZ hl fun y o m h1 h2 h3 hl'6=>?_;clear hl;obtain rfl:=hl'6;refine aj (h3 x v hv) fun u hu du=>?_;obtain rfl:=soo ((a.l.ns hmd).symm.trans h1);exact wpAny_Name (wpAny_loadName_local a.c.hk (a.l.kd (eY hk)) (h2 s.heap (g _ (.head _))) hu (P.here a du)) (bP hd)
theorem At.cell (a:At d V fr σ s){x:Str}{i:Nat}{v:AV}(hi:aw fr.cel x=some i)(ho:aa σ.os i=some (.cel (some v))):∃c u o,d.f.ev.cells.lookup x=some c/\s.heap.get? c=some o/\o.data=.cell (some u)/\Den V v u:=
 a.has ho fun l hl g=>by
  refine aj (a.l.cel x i hi) fun c hc hcl=>?_;refine bZ hl fun y u o h1 h2 h3 hl'6=>?_;clear hl;obtain rfl:=hl'6;obtain rfl:=soo (hc.symm.trans h1);exact ⟨c,u,o,hcl,g _ (.head _),h2,h3⟩
theorem ra {x:Str}{pos:Pos}(hd:dQ x=true)(hk:m7 (aw fr.sc.names x)=true\/(vz (aw fr.sc.names x)=true/\oh x=true)):Snd (rdC x fr σ) (TE d V fr σ (eval (.Name x pos) d.ev)):=
 Snd.opt fun i hi=>Snd.cel fun o ho=>Snd.opt fun v hv=>Snd.ok fun s Q E a P=>by
  refine bZ (a.cell hi (hv▸ho)) fun c u o' h1 h2 h3 h4=>?_;rcases hk with hk|⟨hk,hc⟩
  ·exact wpAny_Name (wpAny_loadName_cell a.c.hk (a.l.kd (km hk)) h1 ⟨_,h2,h3⟩ (P.here a h4)) (bP hd)
  ·exact wpAny_Name (wpAny_loadName_free a.c.hk (a.l.kd (vA hk)) h1 ⟨_,h2,h3⟩ (P.here a h4) (q9 hc)) (bP hd)
theorem ze {x:Str}{pos:Pos}(hd:dQ x=true)(hk:vy (aw fr.sc.names x)=true):Snd (aE (aw d.tb.glob x) fun v=>.ok v σ) (TE d V fr σ (eval (.Name x pos) d.ev)):=
 Snd.opt fun v hv=>Snd.ok fun s Q E a P=>a.stK fun m news X=>by
  have T:=topRead_of a.c.T;obtain ⟨_,u,du,h|⟨h1,h2,h3⟩⟩:=a.c.O.glob x v hv
  ·exact Name_function_global a.c.hk (a.l.kd (ol hk)) (loadGlobal_global (by rw[Fx.ev_globals];exact T.g.keeps X.F.keep) (mg_of a.c.X T.g h) (P.here a (du V))) (bP hd)
  ·exact Name_function_global a.c.hk (a.l.kd (ol hk)) (loadGlobal_builtin (by rw[Fx.ev_globals];exact T.g.keeps X.F.keep) (mg_none_of a.c.X T.g h1) (by rw[Fx.ev_builtins];exact T.b.keeps X.F.keep) ((T.builtins x h3).trans h2) (P.here a (du V))) (bP hd)
theorem zf {x:Str}{pos:Pos}:Snd (rdN d.tb x fr σ) (TE d V fr σ (eval (.Name x pos) d.ev)):=
 Snd.gd fun hd=>(Snd.gd fun h=>zd h hd).or ((Snd.gd fun h=>ze hd h).or ((Snd.gd fun h=>ra hd (.inl h)).or (Snd.gd fun h=>Snd.gd fun h'=>ra hd (.inr ⟨h,h'⟩))))
theorem zg {c:Const}{k:Nat}{pos:Pos}:Snd (cst c σ) (TE d V fr σ (eval (.Constant c k pos) d.ev)):=by
 induction c using Const.casesOn with
 |none=>exact Snd.ok fun s Q E a P=>by rw[eval_Constant];exact au (P.here a rfl)
 |bool b=>exact Snd.ok fun s Q E a P=>by rw[eval_Constant];exact au (P.here a rfl)
 |int i=>exact Snd.ok fun s Q E a P=>by rw[eval_Constant];exact wpAny_Constant_int (k:=k) (pos:=pos) (env:=d.ev) (P.tok a ⟨_,rfl⟩ _)
 |str i=>exact Snd.ok fun s Q E a P=>by rw[eval_Constant];exact wpAny_mkText (P.tok a ⟨_,rfl⟩ _)
 |_=>exact Snd.no
set_option tactic.hygienic true in
theorem on {e:Expr}{x:Str}{env:Env}{whole:Sem Value}(h:gF e=true):attributeBase e x env whole=whole:=by
 induction e using bc<;>first|rfl|skip
 rename_i g as kw p
 induction as using aV with
 |cons=>induction g using bc<;>rfl
 |nil=>induction g using bc<;>first|rfl|exact ak h
def DQ (ex:EX) (b:Expr) (x:Str) (fr:AF) (σ:ST):R AV:=gd (gF b) ((ex b fr σ).bind fun u σ₁=>rdA u x σ₁)
theorem vB {n:Nat}{ex:EX}(ie:EOk d.tb n ex)(rm:Room d.A n){b:Expr}{x:Str}{pos:Pos}:Snd (DQ ex b x fr σ) (TE d V fr σ (eval (.Attribute b x pos) d.ev)):=
 Snd.gd fun hb=>Snd.bind fun u σ₁ h1=>fun v σ' e=>(ie h1 rfl rm).seq (fun h=>Attribute_any_ h (by rw[arm_eval_Attribute,on hb])) fun W uv le du=>qY du v σ' e
end
end
theorem Zs.app {V:Vl}:∀{a a':List (Str×AV)} {b b':List (Str×Value)},Zs V a b->Zs V a' b'->Zs V (a++a') (b++b')
 |[],_,[],_,_,h=>h
 |_::_,_,_::_,_,⟨h1,h2,h3⟩,h=>⟨h1,h2,Zs.app h3 h⟩
 |[],_,_::_,_,h,_|_::_,_,[],_,h,_=>h.elim
theorem Zs.rev {V:Vl}:∀{a:List (Str×AV)} {b:List (Str×Value)},Zs V a b->Zs V a.reverse b.reverse
 |[],[],_=>trivial
 |_::_,_::_,⟨h1,h2,h3⟩=>by rw[List.reverse_cons,List.reverse_cons];exact h3.rev.app ⟨h1,h2,trivial⟩
 |[],_::_,h|_::_,[],h=>h.elim
theorem Zs.zip {V:Vl}:∀(ns:List Str) {a:List AV} {b:List Value},Dens V a b->Zs V (ns.zip a) (ns.zip b)
 |[],_,_,_=>trivial
 |_::_,[],[],_=>trivial
 |_::ns,_::_,_::_,⟨h1,h2⟩=>⟨rfl,h1,Zs.zip ns h2⟩
 |_::_,[],_::_,h|_::_,_::_,[],h=>h.elim
theorem Zs.look {V:Vl}(x:Str):∀{a:List (Str×AV)} {b:List (Str×Value)},Zs V a b->(∀{v:AV},aw a x=some v->∃u,b.lookup x=some u/\Den V v u)/\(Nu.Internal.aw a x=none->b.lookup x=none)
 |[],[],_=>⟨fun h=>(nomatch h),fun zz=>rfl⟩
 |p::r,q::t,⟨h1,h2,h3⟩=>by
  rw[aY,List.lookup_cons];by_cases e:p.1=x
  ·rw[if_pos e,<-h1,e,beq_self_eq_true];exact ⟨fun h=>⟨_,rfl,Option.some.inj h▸h2⟩,fun h=>nomatch h⟩
  ·rw[if_neg e,beq_eq_false_iff_ne.mpr (fun z=>e (h1.trans z.symm))];exact h3.look x
 |[],_::_,h|_::_,[],h=>h.elim
theorem Dens.app {V:Vl}:∀{a a':List AV} {b b':List Value},Dens V a b->Dens V a' b'->Dens V (a++a') (b++b')
 |[],_,[],_,_,h=>h
 |_::_,_,_::_,_,⟨h1,h2⟩,h=>⟨h1,h2.app h⟩
 |[],_,_::_,_,h,_|_::_,_,[],_,h,_=>h.elim
theorem Dens.drop {V:Vl}:∀(n:Nat) {a:List AV} {b:List Value},Dens V a b->Dens V (a.drop n) (b.drop n)
 |0,_,_,h=>h
 |_+1,[],[],_=>trivial
 |n+1,_::_,_::_,⟨_,h⟩=>h.drop n
 |_+1,[],_::_,h|_+1,_::_,[],h=>h.elim
def hG (fi:FI) (vs:List AV):Option (List (Str×AV)):=
 @Bool.rec (fun zz=>Option (List (Str×AV))) none (some (fi.ps.zip (vs++fi.df.drop (vs.length+fi.df.length - fi.ps.length))).reverse) (Nat.ble vs.length fi.ps.length&&Nat.ble fi.ps.length (vs.length+fi.df.length))
theorem iU {fi:FI}{vs:List AV}{bs:List (Str×AV)}(h:hG fi vs=some bs):vs.length<=fi.ps.length/\fi.ps.length<=vs.length+fi.df.length/\bs=(fi.ps.zip (vs++fi.df.drop (vs.length+fi.df.length - fi.ps.length))).reverse:=by
 unfold hG at h;generalize hb:(Nat.ble vs.length fi.ps.length&&Nat.ble fi.ps.length (vs.length+fi.df.length))=x';induction x' using aH with
 |false=>rw[hb]at h;cases h
 |true=>
  rw[hb]at h;have h1:=an1 hb;have h2:=an2 hb;exact ⟨az h1,az h2,(Option.some.inj h).symm⟩
def DS (V:Vl):AFl->Flow->Prop
 |.next,.next=>True
 |.brk,.brk=>True
 |.cont,.cont=>True
 |.ret a,.ret u=>Den V a u
 |_,_=>False
def DF (fl:AFl) (W:Vl) (l:Flow):Prop:=DS W fl l
theorem DF.is {fl:AFl}{W:Vl}{l:Flow}(h:DF fl W l):match fl with|.next=>l=.next|.brk=>l=.brk|.cont=>l=.cont|.ret a=>∃u,l=.ret u/\Den W a u:=by
 induction fl using AFl.casesOn<;>induction l using Flow.casesOn<;>first|exact False.elim h|rfl|exact ⟨_,rfl,h⟩
noncomputable def yb:AFl->Option AV
 |.ret v=>some v
 |.next=>some .non
 |_=>none
set_option backward.match.sparseCases true in
theorem rb {fl:AFl}{v:AV}{W:Vl}{l:Flow}(h:yb fl=some v):DF fl W l->Den W v (match l with|.ret v=>v|_=>.none):=by
 intro q
 induction fl using AFl.casesOn<;>cases h<;>induction l using Flow.casesOn<;>first|exact False.elim q|rfl|exact q
def fF (names:List (Str×NameKind)) (x:Str):Bool:=iy (aw names x)
def iV (names:List (Str×NameKind)) (x:Str):Bool:=m7 (aw names x)
def b9 (names:List (Str×NameKind)):List (Str×AV)->List (Str×AV)
 |[]=>[]
 |p::r=>@Bool.rec (fun zz=>List (Str×AV)) (b9 names r) (p::b9 names r) (fF names p.1)
def m8 (bs:List (Str×AV)):List (Str×Nat)->List (Nat×AO)
 |[]=>[]
 |c::r=>(c.2,.cel (aw bs c.1))::m8 bs r
def f8 (names:List (Str×NameKind)):List (Str×Nat)->Bool
 |[]=>true
 |c::r=>@Bool.rec (fun zz=>Bool) false (f8 names r) (iV names c.1)
theorem ce {names:List (Str×NameKind)}{x:Str}{v:AV}:∀{bs:List (Str×AV)},aw (b9 names bs) x=some v->aw bs x=some v/\names.lookup x=some .local
 |[]=>fun h=>by cases h
 |p::r=>fun h=>by
  unfold b9 at h;rw[aY];generalize q:fF names p.1=x';induction x' using aH with
  |true=>
   rw[q]at h;change Nu.Internal.aw (p::b9 names r) x=some v at h;rw[aY]at h;by_cases e:p.1=x
   ·rw[if_pos e]at h ⊢;exact ⟨h,by rw[<-aQ,<-e];exact eY q⟩
   ·rw[if_neg e]at h ⊢;exact ce h
  |false=>
   rw[q]at h;have:=ce h;by_cases e:p.1=x
   ·unfold fF at q;rw[e,aQ,this.2]at q;cases q
   ·rw[if_neg e];exact this
theorem Cz.from {V:Vl}:∀(names:List (Str×NameKind)) (a b:Nat) {acc:List (Str×Nat)} {acc':List (Str×Addr)},(∀t,t < names.length->V.ρ (a+t)=some (b+t))->Cz V acc acc'->Cz V (cellsFrom a names acc) (cellsFrom b names acc')
 |[]=>fun zz zz {zz} {zz} zz h=>h
 |(n,k)::r=>fun a b {acc} {acc'} hV h=>by
  unfold cellsFrom;by_cases q:(k==.cell)=true
  ·rw[if_pos q,if_pos q];exact Cz.from r (a+1) (b+1) (fun t ht=>by have:=hV (t+1) (Nat.succ_lt_succ ht);rwa [Nat.add_right_comm a,Nat.add_right_comm b]) ⟨rfl,hV 0 (Nat.zero_lt_succ _),h⟩
  ·rw[if_neg q,if_neg q];exact Cz.from r a b (fun t ht=>hV t (Nat.lt_succ_of_lt ht)) h
theorem Cz.look {V:Vl}(x:Str):∀{a:List (Str×Nat)} {b:List (Str×Addr)},Cz V a b->∀{i:Nat},aw a x=some i->∃c,V.ρ i=some c/\b.lookup x=some c
 |[],[],_,_,h=>by cases h
 |p::r,q::t,⟨h1,h2,h3⟩,i,h=>by
  rw[aY]at h;rw[List.lookup_cons];by_cases e:p.1=x
  ·rw[if_pos e]at h;rw[<-h1,e,beq_self_eq_true];exact ⟨_,Option.some.inj h▸h2,rfl⟩
  ·rw[if_neg e]at h;rw[beq_eq_false_iff_ne.mpr (fun z=>e (h1.trans z.symm))];exact h3.look x h
 |[],_::_,h,_,_|_::_,[],h,_,_=>h.elim
theorem cD:∀(names:List (Str×NameKind)) (n:Nat) (acc:List (Str×Addr)),(acc.map (·.2)).Nodup->(∀p∈acc,p.2 < n)->((cellsFrom n names acc).map (·.2)).Nodup
 |[]=>fun zz zz h zz=>h
 |(x,k)::r=>fun n acc h hl=>by
  unfold cellsFrom;by_cases q:(k==.cell)=true
  ·rw[if_pos q];refine cD r (n+1) _ ?_ fun p hp=>?_
   ·rw[List.map_cons,List.nodup_cons];refine ⟨fun hm=>?_,h⟩;refine aj (List.mem_map.mp hm) fun p hp e=>?_;exact absurd (hl p hp) (by rw[e];exact Nat.lt_irrefl _)
   ·rcases aG hp with rfl|hp
    ·exact Nat.lt_succ_self _
    ·exact Nat.lt_succ_of_lt (hl p hp)
  ·rw[if_neg q];exact cD r n acc h hl
theorem dR:∀(names:List (Str×NameKind)) (n:Nat) (acc:List (Str×Addr)) (b:Nat),b<=n->(∀p∈acc,b<=p.2)->∀p∈cellsFrom n names acc,b<=p.2
 |[]=>fun zz zz zz zz h=>h
 |(x,k)::r=>fun n acc b hb h=>by
  unfold cellsFrom;by_cases q:(k==.cell)=true
  ·rw[if_pos q];refine dR r (n+1) _ b (Nat.le_succ_of_le hb) fun p hp=>?_;rcases aG hp with rfl|hp
   ·exact hb
   ·exact h p hp
  ·rw[if_neg q];exact dR r n acc b hb h
theorem lJ {kindOf:Str->Option NameKind}{x:Str}(hx:kindOf x≠some .local):∀(binds:List (Str×Value)) (m:Str->Option Value),bindC kindOf binds m x=(binds.reverse.lookup x).or (m x)
 |[]=>fun m=>rfl
 |(n,v)::r=>fun m=>by
  unfold bindC;rw[lJ hx r,List.reverse_cons,List.lookup_append];by_cases q:kindOf n=some .local
  ·have z:x≠n:=fun z=>hx (by rw[z];exact q);rw[if_pos q,List.lookup_cons,beq_eq_false_iff_ne.mpr z];simp
  ·rw[if_neg q];by_cases z:x=n
   ·subst z;simp
   ·simp only[if_neg z,List.lookup_cons,beq_eq_false_iff_ne.mpr z,List.lookup_nil,Option.or_none]
theorem iW {kindOf:Str->Option NameKind}{x:Str}(hx:kindOf x=some .local):∀(binds:List (Str×Value)) (m:Str->Option Value),bindL kindOf binds m x=(binds.reverse.lookup x).or (m x)
 |[]=>fun m=>rfl
 |(n,v)::r=>fun m=>by
  unfold bindL;rw[iW hx r,List.reverse_cons,List.lookup_append];by_cases q:kindOf n=some .local
  ·rw[if_pos q];by_cases z:x=n
   ·subst z;simp
   ·simp only[if_neg z,List.lookup_cons,beq_eq_false_iff_ne.mpr z,List.lookup_nil,Option.or_none]
  ·have z:x≠n:=fun z=>q (by rw[<-z];exact hx);rw[if_neg q,List.lookup_cons,beq_eq_false_iff_ne.mpr z];simp
theorem Led.cells {w:World}{V:Vl}{fl:FL}{tl news:L2}{os:List (Nat×AO)}{names:List (Str×NameKind)}{bs:List (Str×AV)}{binds:List (Str×Value)}{kindOf:Str->Option NameKind}(hk:∀x,kindOf x=names.lookup x)
  (zz:Zs V bs binds.reverse) (D:Led w V fl tl os news):∀{cs:List (Str×Nat)} {cs':List (Str×Addr)} {cells:L2},Cz V cs cs'->f8 names cs=true->CellsAre (bindC kindOf binds fun zz=>none) cs' cells->Led w V fl tl (m8 bs cs++os) (cells++news)
 |[],[],_,_,_,.nil=>D
 |c::r,c'::r',_,⟨h1,h2,h3⟩,ok,.cons (o:=o) (cells:=cells) hd hr=>by
  unfold f8 at ok;generalize q:iV names c.1=x';induction x' using aH with
  |false=>rw[q]at ok;cases ok
  |true=>
   rw[q]at ok;refine Led.cons (l:=[(c'.2,o)]) ?_ (Led.cells hk zz D h3 ok hr);have hn:kindOf c'.1≠some .local:=by rw[hk,<-h1,<-aQ,km q];intro z;cases z
   rw[lJ hn,<-h1]at hd;have zl:=zz.look c.1;generalize hb:Nu.Internal.aw bs c.1=x';induction x' using aF with
   |none=>rw[zl.2 hb]at hd;exact .cel0 h2 hd
   |some a=>refine aj (zl.1 hb) fun u hu du=>?_;rw[hu]at hd;exact .cel h2 hd du
 |[],_::_,_,h,_,_|_::_,[],_,h,_,_=>h.elim
theorem iX {cm:Str->Option Value}{cs:List (Str×Addr)}{cells:L2}(Y:CellsAre cm cs cells):cells.map (·.1)=cs.map (·.2):=by
 induction Y with
 |nil=>rfl
 |cons _ _ ih=>rw[List.map_cons,List.map_cons,ih]
noncomputable def Vl.grow (V:Vl)(nx k b:Nat):Vl:={ V with ρ:=fun i=>if nx<=i/\i < nx+k then some (b+(i - nx)) else V.ρ i }
theorem Vl.grow_le {V:Vl}{nx k b:Nat}(h:∀i,nx<=i->V.ρ i=none):V.le (V.grow nx k b):=by
 refine ⟨fun i c hi=>?_,fun zz zz h=>h,rfl,fun zz zz h=>h⟩;unfold Vl.grow;dsimp only;rw[if_neg]
 ·exact hi
 ·intro q;rw[h i q.1]at hi;cases hi
theorem Vl.grow_at {V:Vl}{nx k b t:Nat}(h:t < k):(V.grow nx k b).ρ (nx+t)=some (b+t):=by
 unfold Vl.grow;dsimp only;rw[if_pos ⟨Nat.le_add_right _ _,Nat.add_lt_add_left h _⟩,Nat.add_sub_cancel_left]
theorem Vl.grow_off {V:Vl}{nx k b i:Nat}(h:nx+k<=i):(V.grow nx k b).ρ i=V.ρ i:=by
 unfold Vl.grow;dsimp only;rw[if_neg];intro q;exact absurd h (Nat.not_le.mpr q.2)
theorem Vx.grow {V:Vl}{n k b:Nat}(v:Vx V n):Vx (V.grow n k b) (n+k):=⟨fun i hi=>by
 refine bU (v.fresh i (ba (Nat.le_add_right _ _) hi)) fun f1 f2 f3=>?_;exact ⟨(Vl.grow_off hi).trans f1,f2,f3⟩,v.num,v.txt⟩
def enF (fi:FI) (f:Addr) (bs:List (Str×AV)) (σ:ST):AF:=⟨fi.scope,b9 fi.scope.names bs,cellsFrom σ.nx fi.scope.names [],none,some f⟩
def enS (fi:FI) (bs:List (Str×AV)) (σ:ST):ST:=⟨m8 bs (cellsFrom σ.nx fi.scope.names [])++σ.os,σ.nx+fi.scope.names.length⟩
def enR {β:Type} (tb:Tb) (f:Addr) (vs:List AV) (σ:ST) (k:FI->AF->ST->R β):R β:=
 aE (aa tb.fns f) fun fi=>aE (hG fi vs) fun bs=>gd (f8 fi.scope.names (cellsFrom σ.nx fi.scope.names [])) (k fi (enF fi f bs σ) (enS fi bs σ))
def clS (tb:Tb) (bl:List Stmt->AF->ST->RS) (f:Addr) (vs:List AV) (σ:ST):R AV:=enR tb f vs σ fun fi fr σ₁=>(bl fi.body fr σ₁).bind fun r σ'=>aE (yb r.1) fun v=>.ok v σ'
abbrev BL:=List Stmt->AF->ST->RS
abbrev CL:=Addr->List AV->ST->R AV
noncomputable abbrev Dx.call (d:Dx) (f':Fx) (g':Heap):Dx:={ d with A:=d.A.deeper f'.env,outer:=d.f.env::d.outer,f:=f',h₀:=g' }
def BOk (tb:Tb) (n:Nat) (bl:BL):Prop:=∀{b fr σ r σ'},bl b fr σ=.ok r σ'->∀{d V},d.tb=tb->Room d.A n->Tr d V fr σ (execs b d.ev) r.2 σ' (DF r.1)
def TC (d:Dx) (V:Vl) (fr:AF) (σ:ST) (g:Addr) (us:List Value) (v:AV) (σ':ST):Prop:=∀s R,At d V fr σ s->
 (∀u h tk W,V.le W->Den W v u->At d W fr σ' (Shared.to s h tk)->(∀m,Fr d.h₀ d.f.L s.heap m->Fr d.h₀ d.f.L h m)->R (.ok (.ret u)) (Shared.to s h tk))->codeAny d.M d.A (.call (.ref g) ⟨us,[]⟩) R s
def COk (tb:Tb) (n:Nat) (cl:CL):Prop:=∀{g vs σ v σ'},cl g vs σ=.ok v σ'->∀{d V fr us},d.tb=tb->Room d.A n->Dens V vs us->TC d V fr σ g us v σ'
section
variable {d:Dx}{V W:Vl}{fr fr':AF}{σ σ':ST}{s:Shared}{E:Value->Shared->Prop}{β γ:Type}
theorem TC.e {g:Addr}{us:List Value}{v:AV}(h:TC d V fr σ g us v σ'):TE d V fr σ (call (.ref g) us) v σ':=fun s Q E a P=>wpAny_call (h s _ a fun u h tk W le du a₁ zz=>P u h tk W le du a₁)
theorem iD {h₀ h:Heap}{L:Addr}{m m':Str->Option Value}(F:Fr h₀ L h m)(F':Fr h₀ L h m'):m=m':=by
 refine bZ F.ns fun o es ep h1 h2 zy h3=>?_;refine bZ F'.ns fun o' es' ep' g1 g2 zy g3=>?_;cases h1.symm.trans g1;cases h2.symm.trans g2
 funext x
 rw[<-h3,<-g3]
theorem At.back (a:At d V fr σ s){m:Str->Option Value}{news₀:L2}(x:Sx d V fr σ.os s.heap m news₀)(le:V.le W){f':Fx}{g':Heap}{fr':AF}{σ₁:ST}{h:Heap}{tk:Nat}(at':At (d.call f' g') W fr' σ₁ (Shared.to s h tk)){G:Prop}
  (k:∀m' news',Fr g' f'.L h m'->News g' f'.L h news'->(Fr d.h₀ d.f.L h m->News d.h₀ d.f.L h news'->At d W fr σ₁ (Shared.to s h tk))->G):G:=
 at'.stK fun m' news' y=>k m' news' y.F y.N fun Fk Nk=>⟨a.c,a.l.mono le,at'.v,m,news',Fk,Nk,y.D,y.nd,fun z v e=>(x.lc z v e).imp fun u q=>⟨q.1,q.2.mono le⟩⟩
theorem rc {names:List (Str×NameKind)}{cm:Str->Option Value}{L:Addr}{cells news:L2}(Y:CellsAre cm (cellsFrom (L+1) names []) cells)(nd:(news.map (·.1)).Nodup)(lt:∀p∈news,p.1 < L):((cells++news).map (·.1)).Nodup:=by
 rw[List.map_append,List.nodup_append,iX Y];refine ⟨cD _ _ _ List.nodup_nil (fun zz h=>absurd h bI),nd,fun x hx y hy z=>?_⟩;refine aj (List.mem_map.mp hx) fun c hc1 z'2=>?_;obtain rfl:=z'2;refine aj (List.mem_map.mp hy) fun q hq1 z'2=>?_;obtain rfl:=z'2;have h1:L+1<=c.2:=dR _ _ _ _ (aP _) (fun zz h=>absurd h bI) c hc1;have h2:=lt q hq1;have h3:c.2=q.1:=z;rw[h3]at h1;exact absurd (iR h2 (Nat.le_of_succ_le h1)) (Nat.lt_irrefl _)
set_option backward.match.sparseCases true in
theorem yc {g:Addr}{fi:FI}{vs:List AV}{us:List Value}{bs:List (Str×AV)}{R:Result->Shared->Prop}{n:Nat}(hfi:aa d.tb.fns g=some fi)(hb:hG fi vs=some bs)(hc:f8 fi.scope.names (cellsFrom σ.nx fi.scope.names [])=true)(dv:Dens V vs us)
  (rm:Room d.A (n+1)) (a:At d V fr σ s) {m:Str->Option Value} {news:L2} (x:Sx d V fr σ.os s.heap m news)
  (k:∀f' g' h₁ tk W,f'.cn=fi.qual->f'.env.frame=some f'.L->V.le W->Room (d.call f' g').A n->Fr d.h₀ d.f.L g' m->(∃A₀,Below A₀ d.base d.outer d.h₀)->d.h₀.StaysIn g'->At (d.call f' g') W (enF fi g bs σ) (enS fi bs σ) (Shared.to s h₁ tk)->
   wpAny d.M (d.call f' g').A (execs fi.body (d.call f' g').ev) (fun fl s'=>LeaveK d.h₀ d.f.L m g' R (match fl with|.ret v=>v|_=>.none) s')
    (fun e s'=>wpAny d.M (d.call f' g').A (leaving f'.env e) (fun zz s''=>R (.error e) s'') (fun e' s''=>R (.error e') s'') s') (Shared.to s h₁ tk)):codeAny d.M d.A (.call (.ref g) ⟨us,[]⟩) R s:=by
 refine av a.c.B fun A₀ B=>?_;have FO:=a.c.O.fn _ _ hfi;refine FO.k fun oc od dV kV doc pm an cdv ct osl dvs hK hcd hdf hbind=>?_;refine bU FO.cell fun hp1 hp2 hp3=>?_;refine bU (iU hb) fun l1 l2 z'2=>?_;obtain rfl:=z'2;have e1:=dv.length;have e2:=(hdf V).length;have hb:=hbind s us a.Xs (by lia) (by lia);have zz:Zs V (fi.ps.zip (vs++fi.df.drop (vs.length+fi.df.length - fi.ps.length))).reverse (fi.ps.zip (us++dvs.drop (us.length+dvs.length - fi.ps.length))).reverse:=by
  rw[e1,e2];exact (Zs.zip _ (dv.app ((hdf V).drop _))).rev
 have hbm:∀x∈fi.ps.zip (us++dvs.drop (us.length+dvs.length - fi.ps.length)),x.1∈fi.ps:=fun x hx=>(List.of_mem_zip hx).1;refine ay rm fun r1 r2=>?_;clear rm;refine callX_cells B x.F x.N a.c.T.nolimit a.c.hA rfl a.c.hf (a.Xs _ _ hK) rfl (codeRec_of a.Xs hcd) (by lia) hb (fun n x hx=>(hp1 x.1 (hbm x hx)).imp id fun q=>⟨q.1,cellsFrom_some _ _ _ (.inl q.1)⟩) hp2 (fun g' L' h₁ tk cells FG F' N' Y B' st lt=>?_) FO.co FO.gen FO.kind;have leW:V.le (V.grow σ.nx fi.scope.names.length (L' + 1)):=Vl.grow_le fun i q=>(a.v.fresh i q).1;have cz:Cz (V.grow σ.nx fi.scope.names.length (L' + 1)) (cellsFrom σ.nx fi.scope.names []) (cellsFrom (L' + 1) fi.scope.names []):=Cz.from _ _ _ (fun t ht=>Vl.grow_at ht) trivial;have zW:=zz.mono leW;refine k ⟨fi.qual,fi.scope,L',g,cdv,cellsFrom (L' + 1) fi.scope.names [],none⟩ g' h₁ tk _ rfl rfl leW ⟨by show d.A.depth+1+3*n < _;lia,by show d.A.units+3+10*n+10 < _;lia⟩ FG ⟨A₀,B⟩ st
  ⟨⟨a.c.O,⟨d.A,B'⟩,by show d.A.frames.map _=_;rw[a.c.hA];rfl,a.c.hh,a.c.hg,FO.kind,FO.kind,a.c.T.keeps st,a.c.X.keeps st⟩,⟨trivial,⟨oc,od,_,osl,hK,rfl,rfl⟩,rfl,fun y i hy=>cz.look y hy⟩,a.v.grow,
   ⟨_,cells++news,F',N',Led.cells (names:=fi.scope.names) (fun zz=>rfl) zW (x.D.mono leW) cz hc Y,rc Y x.nd lt,fun y v hy=>?_⟩⟩
 refine ay (ce hy) fun q1 q2=>?_;refine aj ((zW.look y).1 q1) fun u u1 u2=>?_;refine ⟨u,?_,u2⟩;rw[iW q2,u1];rfl
theorem DT {n:Nat}{bl:BL}{tb:Tb}(ih:BOk tb n bl):COk tb (n+1) (clS tb bl):=by
 intro g vs σ v σ' e d V fr us ht rm dv;subst ht;refine Snd.of e (Snd.opt fun fi hfi=>Snd.opt fun bs hb=>Snd.gd fun hc=>Snd.bind fun r σ₁ h1=>Snd.opt fun v hv=>Snd.ok fun s R a P=>a.stK fun m news x=>yc hfi hb hc dv rm a x fun f' g' h₁ tk W zz zz le rm' FG zz zz a'=>?_);refine ih h1 (rfl:(d.call f' g').tb=d.tb) rm' _ _ _ a' fun l h tk' W' le' dl at'=>?_;exact a.back (s:=s) x (le.trans le') at' fun m' news' F' N' k=>leaveK_ F' N' fun Fk Nk=>P _ h tk' W' (le.trans le') (rb hv dl) (k Fk Nk) fun m₁ q=>iD x.F q▸Fk
end
section
set_option genInjectivity true
set_option genSizeOfSpec true
noncomputable def cH:Expr->Bool
 |.Starred ..=>false
 |_=>true
def cy:List Expr->Bool
 |[]=>true
 |e::r=>@Bool.rec (fun zz=>Bool) false (cy r) (cH e)
theorem be {e:Expr}{r:List Expr}(h:cy (e::r)=true):cH e=true/\cy r=true:=by
 unfold cy at h;generalize q:cH e=x';induction x' using aH with
 |false=>rw[q]at h;cases h
 |true=>rw[q]at h;exact ⟨rfl,h⟩
def evL (ex:EX):List Expr->AF->ST->R (List AV)
 |[],_,σ=>.ok [] σ
 |e::r,fr,σ=>(ex e fr σ).bind fun v σ₁=>(evL ex r fr σ₁).bind fun vs σ₂=>.ok (v::vs) σ₂
def evs (ex:EX) (es:List Expr) (fr:AF) (σ:ST):R (List AV):=gd (cy es) (evL ex es fr σ)
theorem bG {e:Expr}{r:List Expr}{env:Env}(h:cH e=true):starEach (e::r) env=(false,eval e env)::starEach r env:=by
 induction e using bc<;>first|rfl|cases h
theorem cE {pos:Pos}{env:Env}:∀{es:List Expr},cy es=true->(backTo pos (starEach es env)).any (·.1)=false
 |[]=>fun zz=>rfl
 |e::r=>fun h=>by
  rw[bG (be h).1];show (false||(backTo pos (starEach r env)).any (·.1))=false;rw[cE (be h).2];rfl
noncomputable def Vl.add (V:Vl)(i:Nat)(a d:Addr):Vl:={ V with ρ:=fun j=>if j=i then some a else V.ρ j,δ:=fun j=>if j=i then some d else V.δ j }
theorem Vl.add_le {V:Vl}{i:Nat}{a d:Addr}(h1:V.ρ i=none)(h2:V.δ i=none):V.le (V.add i a d):=by
 refine ⟨fun j c hj=>?_,fun j c hj=>?_,rfl,fun zz zz h=>h⟩
 ·unfold Vl.add;dsimp only;rw[if_neg];exact hj;rintro rfl;rw[h1]at hj;cases hj
 ·unfold Vl.add;dsimp only;rw[if_neg];exact hj;rintro rfl;rw[h2]at hj;cases hj
theorem Vl.add_ρ {V:Vl}{i:Nat}{a d:Addr}:(V.add i a d).ρ i=some a:=by unfold Vl.add;dsimp only;rw[if_pos rfl]
theorem Vl.add_δ {V:Vl}{i:Nat}{a d:Addr}:(V.add i a d).δ i=some d:=by unfold Vl.add;dsimp only;rw[if_pos rfl]
theorem Vx.add {V:Vl}{n:Nat}{a d:Addr}(v:Vx V n):Vx (V.add n a d) (n+1):=⟨fun i hi=>by
 refine bU (v.fresh i (Nat.le_of_succ_le hi)) fun f1 f2 f3=>?_;have h:i≠n:=Nat.ne_of_gt hi;unfold Vl.add;dsimp only;rw[if_neg h,if_neg h];exact ⟨f1,f2,f3⟩,v.num,v.txt⟩
abbrev BIT:=Nat->List AV->ST->R AV
def mkI (tb:Tb) (cl:CL) (C:Addr) (vs:List AV) (σ:ST):R AV:=aE (aa tb.cls C) fun c=>aE c.ini fun fI=>(cl fI (.obj σ.nx::vs) ⟨(σ.nx,.inst C 0 [])::σ.os,σ.nx+1⟩).bind fun r σ'=>gd (match r with|.non=>true|_=>false) (.ok (.obj σ.nx) σ')
def mkX (tb:Tb) (cl:CL) (C:Addr) (vs:List AV) (σ:ST):R AV:=aE (aa tb.exs C) fun c=>gd (Nat.ble vs.length 10) ((cl c.1 (.obj σ.nx::vs) ⟨(σ.nx,.ex0 C)::σ.os,σ.nx+1⟩).bind fun r σ'=>gd (match r with|.non=>true|_=>false) (.ok (.obj σ.nx) σ'))
def apS (tb:Tb) (cl:CL) (a:Addr) (vs:List AV) (σ:ST):R AV:=(aE (aa tb.fns a) fun zz=>cl a vs σ).or ((mkX tb cl a vs σ).or (mkI tb cl a vs σ))
noncomputable def kp:Expr->Bool
 |.Attribute ..=>false
 |_=>true
def yd (tb:Tb) (ex:EX) (cl:CL) (bi ty:BIT) (g:Expr) (as:List Expr) (fr:AF) (σ:ST):R AV:=gd (kp g) ((ex g fr σ).bind fun u σ₁=>(evs ex as fr σ₁).bind fun vs σ₂=>match u with
 |.st a=>apS tb cl a vs σ₂
 |.bi n=>bi n vs σ₂
 |.ty n=>ty n vs σ₂
 |_=>.no)
def mcI (tb:Tb) (ex:EX) (cl:CL) (u:AV) (x:Str) (as:List Expr) (fr:AF) (σ:ST):R AV:=eF u σ fun zz C zz zz=>aE (aa tb.cls C) fun c=>aE (aw c.ms x) fun fI=>(evs ex as fr σ).bind fun vs σ₂=>cl fI (u::vs) σ₂
def mcC (tb:Tb) (ex:EX) (cl:CL) (u:AV) (x:Str) (as:List Expr) (fr:AF) (σ:ST):R AV:=lH u fun C=>aE (aa tb.sat C) fun l=>aE (aw l x) fun fI=>(evs ex as fr σ).bind fun vs σ₂=>cl fI vs σ₂
abbrev GM:=AV->Str->ST->R Nat
def mcB (ex:EX) (gm:GM) (mc:BIT) (u:AV) (x:Str) (as:List Expr) (fr:AF) (σ:ST):R AV:=(gm u x σ).bind fun k σ=>(evs ex as fr σ).bind fun vs σ₂=>mc k (u::vs) σ₂
def jV (o:Expr) (as:List Expr) (ap pos:Pos):Bool:=gF o&&Nat.blt as.length 20&&Nat.beq ap.endLine pos.line
def ye (tb:Tb) (ex:EX) (cl:CL) (gm:GM) (mc:BIT) (o:Expr) (x:Str) (as:List Expr) (ap pos:Pos) (fr:AF) (σ:ST):R AV:=
 gd (jV o as ap pos) (gd (cy as) ((ex o fr σ).bind fun u σ₁=>(mcI tb ex cl u x as fr σ₁).or ((mcC tb ex cl u x as fr σ₁).or (mcB ex gm mc u x as fr σ₁))))
noncomputable def mnm:Nat->String
 |0=>"list.append"|1=>"list.extend"|2=>"list.pop"|3=>"list.reverse"|4=>"list.clear"|5=>"dict.get"|6=>"dict.pop"|7=>"dict.clear"|8=>"dict.values"|9=>"str.join"|10=>"str.upper"|11=>"str.isdigit"|12=>"str.isalnum"|_=>"print"
def GOk (tb:Tb) (gm:GM):Prop:=∀{g x σ k σ'},gm g x σ=.ok k σ'->σ'=σ/\∀{d:Dx} {V fr s u pl Q E},d.tb=tb->At d V fr σ s->Den V g u->(∀tk,Q (.builtin (mnm k),[u]) { s with toks:=tk })->wpAny d.M d.A (getMethod u x pl) Q E s
def gG (nm:Nat->Value) (tb:Tb) (n:Nat) (bi:BIT):Prop:=∀{k vs σ v σ'},bi k vs σ=.ok v σ'->∀{d V fr us},d.tb=tb->Room d.A n->Dens V vs us->TE d V fr σ (call (nm k) us) v σ'
def nmM (k:Nat):Value:=.builtin (mnm k)
def nmB (k:Nat):Value:=.builtin (bnm k)
def nmT (k:Nat):Value:=.type (tnm k)
section
variable {d:Dx}{V W:Vl}{fr fr':AF}{σ σ':ST}{s:Shared}{E:Value->Shared->Prop}{β γ:Type}
theorem rg {n:Nat}{ex:EX}(ie:EOk d.tb n ex)(rm:Room d.A n){pos:Pos}:∀{es:List Expr} {σ:ST} {V:Vl},cy es=true->Snd (evL ex es fr σ) fun vs σ'=>Tr d V fr σ (spliced (backTo pos (starEach es d.ev))) fr σ' (DL vs)
 |[],σ,V=>fun zz=>Snd.ok fun s Q E a P=>spliced_nil (P.here a trivial)
 |e::r,σ,V=>fun h=>Snd.bind fun v σ₁ h1=>Snd.bind fun vs σ₂ h2=>Snd.ok (by
  rw[bG (be h).1];exact fun s Q E a P=>spliced_cons (ie h1 rfl rm _ _ _ a fun u h' tk W le du a₁=>rg ie rm (be h).2 _ _ h2 _ _ _ a₁ fun us h'' tk' W' le' ds a₂=>P (u::us) h'' tk' W' (le.trans le') ⟨du.mono le',ds⟩ a₂))
theorem dS {ex:EX}{es:List Expr}{vs:List AV}(e:evs ex es fr σ=.ok vs σ'):cy es=true:=Snd.of e (Φ:=fun zz zz=>cy es=true) (Snd.gd fun h zz zz zz=>h)
theorem dT {n:Nat}{ex:EX}(ie:EOk d.tb n ex)(rm:Room d.A n){pos:Pos}{es:List Expr}{vs:List AV}(e:evs ex es fr σ=.ok vs σ'):Tr d V fr σ (spliced (backTo pos (starEach es d.ev))) fr σ' (DL vs):=Snd.of e (Snd.gd fun h=>rg ie rm h)
theorem iY {u:Value}{first:List Value}{pos:Pos}{es:List Expr}{vs:List AV}{σ₁:ST}{D:Vl->Value->Prop}(hk:keepIn d.K u=true)(hs:cy es=true)(h:Tr d V fr σ (spliced (backTo pos (starEach es d.ev))) fr σ₁ (DL vs))
  (g:∀W us,V.le W->Dens W vs us->Tr d W fr σ₁ (call u (first++us)) fr σ' D):Tr d V fr σ (callWith pos u first (backTo pos (starEach es d.ev)) []) fr σ' D:=fun s Q E a P=>by
 have z:=h s (fun us s₁=>d.K.In s₁.heap/\wpAny d.M d.A (call u (first++us)) Q E s₁) E a fun us h tk W le ds a₁=>⟨a₁.Xs,g W us le ds _ _ _ a₁ (P.from le)⟩
 induction es using aV with
 |nil=>exact callWith_K0 a.Xs hk (fun Γ p hΓ=>(z Γ p hΓ).2 Γ p hΓ)
 |cons e r=>exact callWith_K a.Xs hk z (bG (be hs).1) (cE (be hs).2)
theorem eG {f:Value}{pos:Pos}{es:List Expr}{T:Args->Sem Value}{Q:Value->Shared->Prop}(hs:cy es=true)(h:wpAny d.M d.A (spliced (backTo pos (starEach es d.ev))) (fun us s₁=>wpAny d.M d.A (T ⟨us,[]⟩) Q E s₁) E s) :
  wpAny d.M d.A (evalArgs f true (backTo pos (starEach es d.ev)) []) (fun a s₁=>wpAny d.M d.A (T a) Q E s₁) E s:=by
 induction es using aV with
 |nil=>exact evalArgs_nil3 (fun Γ p hΓ=>(h Γ p hΓ) Γ p hΓ)
 |cons e r=>
  rw[bG (be hs).1]at h ⊢;exact evalArgs_plain h
theorem f9 {id:String}{first:List Value}{pos:Pos}{es:List Expr}{vs:List AV}{σ₁:ST}{D:Vl->Value->Prop}(hs:cy es=true)(h:Tr d V fr σ (spliced (backTo pos (starEach es d.ev))) fr σ₁ (DL vs))
  (g:∀W us,V.le W->Dens W vs us->Tr d W fr σ₁ (call (.builtin id) (first++us)) fr σ' D):Tr d V fr σ (callWith pos (.builtin id) first (backTo pos (starEach es d.ev)) []) fr σ' D:=
 h.seq (fun h=>callWith_builtin (cE hs) (eG hs h)) g
theorem rh {id:String}{first:List Value}{pos:Pos}{es:List Expr}{vs:List AV}{σ₁:ST}{D:Vl->Value->Prop}(hs:cy es=true)(h:Tr d V fr σ (spliced (backTo pos (starEach es d.ev))) fr σ₁ (DL vs))
  (g:∀W us,V.le W->Dens W vs us->Tr d W fr σ₁ (call (.type id) (first++us)) fr σ' D):Tr d V fr σ (callWith pos (.type id) first (backTo pos (starEach es d.ev)) []) fr σ' D:=
 h.seq (fun h=>PyProof.Rows.callWith_type (cE hs) (eG hs h)) g
theorem Cx.same {A':Around}(c:Cx d)(h:A'.frames=d.A.frames)(h2:A'.handled=d.A.handled)(h3:A'.guards=d.A.guards):Cx { d with A:=A' }:=⟨c.O,c.B,h.trans c.hA,h2.trans c.hh,h3.trans c.hg,c.hk,c.hf,c.T,c.X⟩
theorem At.same {A':Around}(a:At d V fr σ s)(h:A'.frames=d.A.frames)(h2:A'.handled=d.A.handled)(h3:A'.guards=d.A.guards):At { d with A:=A' } V fr σ s:=let ⟨m,news,x⟩:=a.st;⟨a.c.same h h2 h3,⟨a.l.md,a.l.fa,a.l.sc,a.l.cel⟩,a.v,m,news,x.F,x.N,x.D,x.nd,x.lc⟩
theorem lK {r:AV}(h:(match r with|.non=>true|_=>false)=true):r=.non:=by induction r using aA<;>first|rfl|cases h
theorem Room.in {A:Around}{n C:Nat}{us:List Value}(rm:Room A (n+1)):Room (A.under (.builtin "type.__call__" ⟨.ref C::us,[]⟩)) n:=by
 refine ay rm fun r1 r2=>?_;clear rm;exact ⟨jP (ro (a:=A.depth) (k:=1) (b:=3*n) (c:=3) (by decide)) r1,jP (Nat.add_le_add_right (ro (a:=A.units) (k:=1) (b:=10*n) (c:=10) (by decide)) 10) r2⟩
theorem COk.at {tb:Tb}{n:Nat}{cl:CL}(ih:COk tb n cl){g:Addr}{vs:List AV}{v:AV}(h:cl g vs σ=.ok v σ')(d:Dx)(ht:d.tb=tb)(rm:Room d.A n){us:List Value}(dv:Dens V vs us):TC d V fr σ g us v σ':=ih h ht rm dv
theorem Dens.cons {a:AV}{r:List AV}{u:Value}{us:List Value}(h:Den V a u)(q:Dens V r us):Dens V (a::r) (u::us):=⟨h,q⟩
theorem ri {news:L2}{x y:Addr}{o o':Obj}(nd:(news.map (·.1)).Nodup)(l1:∀p∈news,p.1 < y)(l2:y < x):(((x,o)::(y,o')::news).map (·.1)).Nodup:=by
 rw[List.map_cons,List.map_cons,List.nodup_cons,List.nodup_cons];have key:∀z,y<=z->z ∉ news.map (·.1):=fun z hz hm=>by
  refine aj (List.mem_map.mp hm) fun q hq e=>?_;have h1:=l1 q hq;rw[e]at h1;exact absurd (iR h1 hz) (Nat.lt_irrefl _)
 refine ⟨fun hm=>?_,key y (aP _),nd⟩;rcases aG hm with q|q
 ·exact absurd l2 (by rw[show x=y from q];exact Nat.lt_irrefl _)
 ·exact key x (Nat.le_of_lt l2) q
theorem zh {n:Nat}{cl:CL}(ih:COk d.tb n cl)(rm:Room d.A (n+1)){C:Addr}{vs:List AV}{us:List Value}(dv:Dens V vs us):Snd (mkI d.tb cl C vs σ) (TE d V fr σ (call (.ref C) us)):=
 Snd.opt fun c hc=>Snd.opt fun fI hI=>Snd.bind fun r σ₁ h1=>Snd.gd fun hr=>Snd.ok fun s Q E a P=>a.stK fun m news x=>by
  refine mU (a.c.O.ini C c fI hc hI) fun i1 i2 i3 zy=>?_;refine bU (a.v.fresh σ.nx (aP _)) fun f1 f2 f3=>?_;refine wpAny_call (make_K x.F x.N a.Xs i1 i2 (beq_iff_eq.mp i3) fun y dx h' F' N' l1 l2=>?_);have le:V.le (V.add σ.nx y dx):=Vl.add_le f1 f2;have a':At { d with A:=d.A.under (.builtin "type.__call__" ⟨.ref C::us,[]⟩) } (V.add σ.nx y dx) fr ⟨(σ.nx,.inst C 0 [])::σ.os,σ.nx+1⟩ (Shared.to s h' s.toks):=
   At.same (a.put le (σ₁:=⟨(σ.nx,.inst C 0 [])::σ.os,σ.nx+1⟩) x F' N' (.cons (l:=[(y,instObj C dx),(dx,dictOf [] 0)]) (.inst Vl.add_ρ Vl.add_δ Ents.nil) (x.D.mono le)) (ri x.nd l1 l2) a.v.add) rfl rfl rfl
  refine ih.at h1 { d with A:=d.A.under (.builtin "type.__call__" ⟨.ref C::us,[]⟩) } rfl rm.in (.cons ⟨y,Vl.add_ρ,rfl⟩ (dv.mono le)) _ _ a' fun u h tk W le' du at'' zz=>?_;rw[lK hr]at du;have b:=At.same (A':=d.A) at'' rfl rfl rfl;exact ⟨du,P (.ref y) h tk W (le.trans le') ⟨y,le'.ρ _ _ Vl.add_ρ,rfl⟩ b⟩
theorem zi {n:Nat}{cl:CL}(ih:COk d.tb n cl)(rm:Room d.A (n+1)){C:Addr}{vs:List AV}{us:List Value}(dv:Dens V vs us):Snd (mkX d.tb cl C vs σ) (TE d V fr σ (call (.ref C) us)):=
 Snd.opt fun c hc=>Snd.gd fun hl=>Snd.bind fun r σ₁ h1=>Snd.gd fun hr=>Snd.ok fun s Q E a P=>a.stK fun m news x=>by
  obtain ⟨fI,l⟩:=c;refine vh (a.c.O.exs.ok _ _ _ hc) fun x1 x2 x3 x4 x5 x6 x7=>?_;refine bU (a.v.fresh σ.nx (aP _)) fun f1 f2 f3=>?_;have hlen:us.length<=sizeLine:=by rw[dv.length,sizeLine_eq];have:=az hl;omega
  obtain ⟨hp,g,dr,t,os⟩:=s;refine vq a.Xs x1 x4 x5 (fun h' hh'=>?_) hlen;have F1:=x.F.push { cls:=.type "tuple",data:=.seq us.toArray };have N1:=News.push x.F x.N { cls:=.type "tuple",data:=.seq us.toArray };have F2:=F1.push { cls:=.ref C,data:=.fields #[.ref hp.objs.size,.none,.none,.none,.bool false,.none] };have N2:=News.push F1 N1 { cls:=.ref C,data:=.fields #[.ref hp.objs.size,.none,.none,.none,.bool false,.none] };rw[Heap.size_push]at N2;rw[<-hh']at F2 N2;have le:V.le (V.add σ.nx (hp.objs.size+1) (hp.objs.size+1)):=Vl.add_le f1 f2;have lt:∀q∈news,q.1 < hp.objs.size:=fun q hq=>Heap.lt_size (x.N q hq).1;have a':At { d with A:=d.A.under (.builtin "type.__call__" ⟨.ref C::us,[]⟩) } (V.add σ.nx (hp.objs.size+1) (hp.objs.size+1)) fr ⟨(σ.nx,.ex0 C)::σ.os,σ.nx+1⟩ ⟨h',g,dr,t,os⟩:=
   At.same (a.put (tk:=t) le (σ₁:=⟨(σ.nx,.ex0 C)::σ.os,σ.nx+1⟩) x F2 (fun q hq=>N2 q ((aG hq).elim (fun e=>e▸.head _) fun h=>.tail _ (.tail _ h)))
    (.cons (l:=[(hp.objs.size+1,{ cls:=.ref C,data:=.fields #[.ref hp.objs.size,.none,.none,.none,.bool false,.none] })]) (.ex0 Vl.add_ρ ⟨rfl,rfl,_,_,rfl,rfl,_,rfl,fun zz=>rfl⟩) (x.D.mono le))
    (List.Nodup.sublist (.cons_cons _ (.cons _ (.refl _))) (ri (o:=default) (o':=default) x.nd lt (Nat.lt_succ_self _))) a.v.add) rfl rfl rfl
  refine wpAny_call (ih.at h1 { d with A:=d.A.under (.builtin "type.__call__" ⟨.ref C::us,[]⟩) } rfl rm.in (.cons ⟨_,Vl.add_ρ,rfl⟩ (dv.mono le)) _ _ a' fun u h tk W le' du at'' zz=>?_);rw[lK hr]at du;obtain rfl:=du;have b:=At.same (A':=d.A) at'' rfl rfl rfl;exact ⟨rfl,P (.ref (hp.objs.size+1)) h tk W (le.trans le') ⟨_,le'.ρ _ _ Vl.add_ρ,rfl⟩ b⟩
theorem DV {n:Nat}{cl:CL}(ih:COk d.tb n cl)(rm:Room d.A (n+1)){g:Addr}{vs:List AV}{us:List Value}(dv:Dens V vs us):Snd (apS d.tb cl g vs σ) (TE d V fr σ (call (.ref g) us)):=
 (Snd.opt fun fi zz v σ' e=>(ih e rfl (rm.mono (er n)) dv).e).or ((zi ih rm dv).or (zh ih rm dv))
theorem vC (O:dB d.w d.K d.tb){cl:CL}{g:Addr}{vs:List AV}{v:AV}(e:apS d.tb cl g vs σ=.ok v σ'):keepIn d.K (.ref g)=true:=
 Snd.of e (Φ:=fun zz zz=>keepIn d.K (.ref g)=true) ((Snd.opt fun fi h zz zz zz=>(O.fn _ _ h).keep).or ((Snd.opt fun c h zz zz zz=>(O.exs.ok _ c.1 c.2 h).2.2.2.2.2.1).or (Snd.opt fun c hc=>Snd.opt fun fI hI zz zz zz=>(O.ini _ _ _ hc hI).2.2.2)))
theorem dU {g:Expr}{as:List Expr}{pos:Pos}{env:Env}(h:kp g=true):eval (.Call g as [] pos) env=(do callWith pos (<-eval g env) [] (backTo pos (starEach as env)) []):=by
 induction g using bc<;>first|rfl|cases h
theorem vD {n:Nat}{ex:EX}{cl:CL}{bi ty:BIT}(ie:EOk d.tb (n+1) ex)(ic:COk d.tb n cl)(ib:gG nmB d.tb (n+1) bi)(it:gG nmT d.tb (n+1) ty)(rm:Room d.A (n+1)){g:Expr}{as:List Expr}{pos:Pos} :
  Snd (yd d.tb ex cl bi ty g as fr σ) (TE d V fr σ (eval (.Call g as [] pos) d.ev)):=
 Snd.gd fun hg=>Snd.bind fun u σ₁ h1=>Snd.bind fun vs σ₂ h2=>fun v σ' e=>by
  rw[dU hg];refine (ie h1 rfl rm).seq (fun h=>af h) fun W uv le du=>?_;have ea:=dT (V:=W) ie rm (pos:=pos) h2;have ns:=dS h2
  induction u using aA with
  |st a=>
   obtain rfl:=du;exact fun s Q E at_ P=>iY (vC at_.c.O e) ns ea (fun W' us le' ds=>DV ic rm ds v σ' e) s Q E at_ P
  |bi k=>obtain rfl:=du;exact f9 ns ea fun W' us le' ds=>ib e rfl rm ds
  |ty k=>obtain rfl:=du;exact rh ns ea fun W' us le' ds=>it e rfl rm ds
  |_=>cases e
theorem vE {o:Expr}{x:Str}{as:List Expr}{ap pos:Pos}{env:Env}(h:jV o as ap pos=true)(h2:(backTo pos (starEach as env)).any (·.1)=false) :
  eval (.Call (.Attribute o x ap) as [] pos) env=(do
   let ov <-eval o env
   standAt ap.atName
   let (f,first) <-holding [ov] (getMethod ov x (do return (<-importBound o env).getD true))
   callWith pos f first (backTo pos (starEach as env)) []):=by
 unfold jV at h;simp only[Bool.and_eq_true]at h;refine ay h fun h'0 h4=>?_;clear h;refine ay h'0 fun h1 h3=>?_;clear h'0;have h3:as.length < 20:=az h3;have h4:ap.endLine=pos.line:=aK h4;have e:methodCallForm (as.length+0) (backTo pos (starEach as env)) []=true:=by
  unfold methodCallForm;have:(backTo pos (starEach as env)).all (fun x=>!x.1)=true:=by
   rw[List.all_eq_not_any_not];simp only[Bool.not_not];rw[h2];rfl
  rw[this];simp;omega
 rw[arm_eval_Call,on h1];unfold methodCall calleeOf methodCallPos;show (do let ov <-eval o env;standAt ap.atName;(do
  let (f,first) <-holding [ov] (if methodCallForm (as.length+0) (backTo pos (starEach as env)) []=true then _ else _);let callPos <-(if (!methodCallForm (as.length+0) (backTo pos (starEach as env)) []||ap.endLine==pos.line)=true then pure pos else _)
  callWith callPos f first (backTo pos (starEach as env)) []))=_
 rw[e,h4];simp
theorem iZ {o:Expr}{x:Str}{as:List Expr}{ap pos:Pos}{Q:Value->Shared->Prop}(h:jV o as ap pos=true)(hs:cy as=true)
  (q:wpAny d.M d.A (eval o d.ev) (fun u s₁=>wpAny d.M d.A (getMethod u x (do return (<-importBound o d.ev).getD true)) (fun fx s₂=>wpAny d.M d.A (callWith pos fx.1 fx.2 (backTo pos (starEach as d.ev)) []) Q E s₂) E s₁) E s) :
  wpAny d.M d.A (eval (.Call (.Attribute o x ap) as [] pos) d.ev) Q E s:=by
 rw[vE h (cE hs)];exact af (wpAny_mono q (fun u s₁ h₁=>af (wpAny_standAt (af (wpAny_holding (wpAny_mono h₁ (fun fx s₂ h=>h) fun zz zz h=>h))))) fun zz zz h=>h)
theorem Ents.off {C:Addr}{c:CI}{tb:Tb}{k:Nat}{fs:List (Str×AV)}{es:List DictEntry}{x:Str}(h:Ents V (tb.fld C) k fs es)(hc:aa tb.cls C=some c)(m:x ∉ c.fl):getL x es=some none:=
 pT h.sk fun e he z t q hz=>by
  refine aI (h.keys e he) fun z' t' q' hz'=>?_;rw[q]at q';cases q';have hfl:tb.fld C=c.fl:=by unfold Tb.fld;rw[hc]
  rw[hfl]at hz';exact m (hz▸hz')
theorem At.meth (a:At d V fr σ s){u:AV}{x:Str}{i C k:Nat}{fs:List (Str×AV)}{c:CI}{fI:Addr}{uv:Value}{pl:Sem Bool}{Q:Value×List Value->Shared->Prop}(hv:u=.obj i)(ho:aa σ.os i=some (.inst C k fs))(hc:aa d.tb.cls C=some c)(hI:aw c.ms x=some fI)(du:Den V u uv)
  (h:Q (.ref fI,[uv]) s):wpAny d.M d.A (getMethod uv x pl) Q E s:=
 a.inst hv ho du fun m news y dx es kk X hu zz En I=>by
  refine yZ (a.c.O.ms _ _ _ _ hc hI) fun m1 m2 m3 m4 m5=>?_;rw[hu]at h ⊢;exact method_inst X.F a.c.X I m2 m3 m4 (En.off hc m1) h
theorem zj {n:Nat}{ex:EX}{cl:CL}(ie:EOk d.tb n ex)(ic:COk d.tb n cl)(rm:Room d.A n){u:AV}{uv:Value}{x:Str}{as:List Expr}{pos:Pos}{pl:Sem Bool}(du:Den V u uv) :
  Snd (mcI d.tb ex cl u x as fr σ) fun v σ'=>∀s Q E,At d V fr σ s->Po d V fr σ' s (DE v) Q->wpAny d.M d.A (getMethod uv x pl) (fun fx s₂=>wpAny d.M d.A (callWith pos fx.1 fx.2 (backTo pos (starEach as d.ev)) []) Q E s₂) E s:=
 Snd.inst fun i C k fs hv ho=>Snd.opt fun c hc=>Snd.opt fun fI hI=>Snd.bind fun vs σ₂ h2=>fun v σ' e s Q E a P=>a.meth hv ho hc hI du
  (iY (a.c.O.ms _ _ _ _ hc hI).2.2.2.2 (dS h2) (dT ie rm h2) (fun W us le ds=>(ic e rfl rm (.cons (du.mono le) ds)).e) _ _ _ a P)
theorem zk {n:Nat}{ex:EX}{cl:CL}(ie:EOk d.tb n ex)(ic:COk d.tb n cl)(rm:Room d.A n){u:AV}{uv:Value}{x:Str}{as:List Expr}{pos:Pos}{pl:Sem Bool}(du:Den V u uv) :
  Snd (mcC d.tb ex cl u x as fr σ) fun v σ'=>∀s Q E,At d V fr σ s->Po d V fr σ' s (DE v) Q->wpAny d.M d.A (getMethod uv x pl) (fun fx s₂=>wpAny d.M d.A (callWith pos fx.1 fx.2 (backTo pos (starEach as d.ev)) []) Q E s₂) E s:=
 Snd.st fun C hv=>Snd.opt fun l hl=>Snd.opt fun fI hI=>Snd.bind fun vs σ₂ h2=>fun v σ' e s Q E a P=>a.stK fun m news X=>by
  refine bU (a.c.O.sat _ _ _ _ hl hI) fun s1 z'1 s5=>?_;refine cq z'1 fun mc s2 s3 s4=>?_;clear z'1;rw[hv]at du;obtain rfl:=du;exact method_of_cls X.F a.c.X s1 (cls_val X.F a.c.X s2 s3 s4 rfl (iY s5 (dS h2) (dT ie rm h2) (fun W us le ds=>(ic e rfl rm ds).e) _ _ _ (a.tok _) (P.from (.refl V))))
theorem zm {n:Nat}{ex:EX}{gm:GM}{mc:BIT}(ie:EOk d.tb n ex)(ig:GOk d.tb gm)(im:gG nmM d.tb n mc)(rm:Room d.A n){u:AV}{uv:Value}{x:Str}{as:List Expr}{pos:Pos}{pl:Sem Bool}(du:Den V u uv) :
  Snd (mcB ex gm mc u x as fr σ) fun v σ'=>∀s Q E,At d V fr σ s->Po d V fr σ' s (DE v) Q->wpAny d.M d.A (getMethod uv x pl) (fun fx s₂=>wpAny d.M d.A (callWith pos fx.1 fx.2 (backTo pos (starEach as d.ev)) []) Q E s₂) E s:=
 Snd.bind fun k σ₁ h1=>Snd.bind fun vs σ₂ h2=>fun v σ' e s Q E a P=>by
  refine ay (ig h1) fun z'0 g=>?_;obtain rfl:=z'0;exact g rfl a du fun tk=>f9 (dS h2) (dT ie rm h2) (fun W us le ds=>im e rfl rm (.cons (du.mono le) ds)) _ _ _ (a.tok tk) (P.from (.refl V))
theorem vF {n:Nat}{ex:EX}{cl:CL}{gm:GM}{mc:BIT}(ie:EOk d.tb n ex)(ic:COk d.tb n cl)(ig:GOk d.tb gm)(im:gG nmM d.tb n mc)(rm:Room d.A n){o:Expr}{x:Str}{as:List Expr}{ap pos:Pos} :
  Snd (ye d.tb ex cl gm mc o x as ap pos fr σ) (TE d V fr σ (eval (.Call (.Attribute o x ap) as [] pos) d.ev)):=
 Snd.gd fun hf=>Snd.gd fun hs=>Snd.bind fun u σ₁ h1=>fun v σ' e s Q E a P=>iZ hf hs (ie h1 rfl rm _ _ _ a fun uv h tk W le du a₁=>
  ((zj ie ic rm du).or ((zk ie ic rm du).or (zm ie ig im rm du))) v σ' e _ _ _ a₁ (P.from le))
end
end
section
set_option genInjectivity true
set_option genSizeOfSpec true
noncomputable def yf:AV->Option Bool
 |.non=>some true
 |.uv _=>none
 |.opt _=>none
 |.opn _=>none
 |.rn=>none
 |_=>some false
theorem pY {V:Vl}{u:Value}{b:Bool}{a:AV}(e:yf a=some b)(d:Den V a u):(u==Value.none)=b:=by
 induction a using aA<;>(first|exact ag e|obtain rfl:=soo e)<;>first
  |(cases d;rfl)
  |(refine av d fun zy d'1=>?_;clear d;obtain rfl:=d'1;rfl)
  |((first|refine aj d fun zy zy d'2=>?_|refine dP d fun zy zy d'2=>?_);clear d;obtain rfl:=d'2;rfl)
  |(refine aI d fun zy zy d'2 zy=>?_;clear d;obtain rfl:=d'2;rfl)
  |(refine aI d fun zy zy zy d'3=>?_;clear d;obtain rfl:=d'3;rfl)
def rj:Cd->Cd->Bool
 |.non,b=>match b with|.non=>true|_=>false
 |.boo a,b=>match b with|.boo c=>a==c|_=>false
 |.int i,b=>match b with|.int j=>Z.eqB i j|_=>false
 |.str l,b=>match b with|.str m=>Fast.lEq l m|_=>false
 |.uv k,b=>match b with|.uv l=>Nat.beq k l|_=>false
 |.nil,b=>match b with|.nil=>true|_=>false
 |.cons a r,b=>match b with|.cons c q=>rj a c&&rj r q|_=>false
 |.lst l,b=>match b with|.lst m=>rj l m|_=>false
theorem vG {a:Cd}:∀{b:Cd},rj a b=true->a=b:=by
 induction a with
 |cons a r ih1 ih2=>intro b h;induction b using Cd.casesOn<;>first|exact ak h|(refine ay (cL h) fun h1 h2=>?_;rw[ih1 h1,ih2 h2])
 |lst l ih=>intro b h;induction b using Cd.casesOn<;>first|exact ak h|rw[ih h]
 |non|nil=>intro b h;induction b using Cd.casesOn<;>first|rfl|exact ak h
 |boo a=>intro b h;induction b using Cd.casesOn<;>first|exact ak h|rw[eq_of_beq h]
 |int i=>intro b h;induction b using Cd.casesOn<;>first|exact ak h|rw[(Z.eqB_iff _ _).mp h]
 |str i=>intro b h;induction b using Cd.casesOn<;>first|exact ak h|rw[Fast.lEq_iff.mp h]
 |uv i=>intro b h;induction b using Cd.casesOn<;>first|exact ak h|rw[Nat.eq_of_beq_eq_true h]
def rk (l m:List Nat):Bool:=sq ⟨l.toArray⟩ ⟨m.toArray⟩
theorem rl (l m:List Nat):((Str.mk l.toArray)==(Str.mk m.toArray))=rk l m:=by
 unfold rk;generalize h:(sq (Str.mk l.toArray) (Str.mk m.toArray))=x';induction x' using aH with
 |true=>rw[bh.mp h];exact beq_self_eq_true _
 |false=>exact fT fun e=>by rw[bh.mpr e]at h;cases h
def tt (b:Bool):Option Bool:=@Bool.rec (fun zz=>Option Bool) none (some true) b
theorem lL {b c:Bool}(h:tt b=some c):b=true/\c=true:=by
 induction b using aH with
 |true=>exact ⟨rfl,(Option.some.inj h).symm⟩
 |false=>cases h
def ffo (b:Bool):Option Bool:=@Bool.rec (fun zz=>Option Bool) none (some false) b
theorem m9 {b c:Bool}(h:ffo b=some c):b=true/\c=false:=by
 induction b using aH with
 |true=>exact ⟨rfl,(Option.some.inj h).symm⟩
 |false=>cases h
noncomputable def eqN:AV->Option Bool|.non=>some true|.int _=>some false|.str _=>some false|_=>none
noncomputable def eqB (b:Bool):AV->Option Bool|.boo c=>some (b==c)|_=>none
noncomputable def eqI (i:Int):AV->Option Bool|.int j=>some (Z.eqB i j)|.non=>some false|_=>none
def eqS (l:List Nat):AV->Option Bool|.str m=>some (rk l m)|.non=>some false|_=>none
def DW (k:Nat) (o:Int):AV->Option Bool
 |.si k' o'=>@Bool.rec (fun zz=>Option Bool) (ffo (Nat.beq k 0&&(Nat.blt k' 100&&Z.ltB o' o))) (some (Z.eqB o o')) (Nat.beq k k')
 |_=>none
def HL (c:Cd):AV->Option Bool|.rp d=>tt (rj c d)|_=>none
def HM (p:List Nat) (k:Nat) (q:List Nat):AV->Option Bool|.ss p' k' q'=>tt (Nat.beq k k'&&(Fast.lEq p p'&&Fast.lEq q q'))|_=>none
def HO (k:Nat):AV->Option Bool|.nm k'=>tt (Nat.beq k k')|_=>none
def HP:Ae->AV->Option Bool
 |.v k,.int i=>ffo (Nat.ble 200 k&&(Nat.blt k 300&&Z.eqB i 0))
 |_,_=>none
def HQ (n:Int):AV->Option Bool|.int i=>ffo (Z.ltB i n)|_=>none
def eqA (a b:AV):Option Bool:=match a with
 |.non=>eqN b
 |.boo c=>eqB c b
 |.int i=>eqI i b
 |.str l=>eqS l b
 |.si k o=>DW k o b
 |.rp c=>HL c b
 |.ss p k q=>HM p k q b
 |.nm k=>HO k b
 |.ar e=>HP e b
 |.ge n=>HQ n b
 |_=>none
noncomputable def eH:List AV->Option (List Str)
 |[]=>some []
 |v::r=>match v with
  |.str l=>(eH r).map (⟨l.toArray⟩::·)
  |_=>none
def dC:List Str->List Str->Bool
 |[],b=>match b with|[]=>true|_::_=>false
 |a::r,b=>match b with|c::q=>sq a c&&dC r q|[]=>false
theorem bQ:∀{a b:List Str},dC a b=true->a=b
 |[],[],_=>rfl
 |x::r,y::q,h=>by
  have h1:=an1 h;have h2:=an2 h;rw[bh.mp h1,bQ h2]
 |[],_::_,h|_::_,[],h=>by cases h
def eqL (c:Bool) (σ:ST) (a b:AV):R AV:=bz a σ fun zz es=>bz b σ fun zz fs=>aE (eH es) fun ys=>aE (eH fs) fun zs=>gd (dC ys zs) (.ok (.boo c) σ)
def leL (n:Nat):AV->Option Bool|.int j=>tt (Z.leB (.ofNat n) j)|_=>none
noncomputable def ltI (op:CmpOp)(i:Int):AV->Option Bool
 |.int j=>match op with|.Lt=>some (Z.ltB i j)|.LtE=>some (Z.leB i j)|.Gt=>some (Z.ltB j i)|.GtE=>some (Z.leB j i)|_=>none
 |_=>none
def ltA (op:CmpOp) (a b:AV):Option Bool:=match a with
 |.int i=>ltI op i b
 |.lo n=>match op with|.LtE=>leL n b|_=>none
 |_=>none
noncomputable def isB (a:AV)(d:Bool):Option Bool:=match a with|.boo c=>some (c==d)|_=>none
def isA (a b:AV):Option Bool:=match b with
 |.non=>yf a
 |.boo d=>isB a d
 |_=>none
abbrev INN:=AV->AV->ST->R Bool
def vH (inn:INN) (op:CmpOp) (a b:AV) (σ:ST):R AV:=match op with
 |.Is=>aE (isA a b) fun c=>.ok (.boo c) σ
 |.IsNot=>aE (isA a b) fun c=>.ok (.boo (!c)) σ
 |.Eq=>(aE (eqA a b) fun c=>.ok (.boo c) σ).or (eqL true σ a b)
 |.NotEq=>(aE (eqA a b) fun c=>.ok (.boo (!c)) σ).or (eqL false σ a b)
 |.In=>(inn a b σ).bind fun c σ'=>.ok (.boo c) σ'
 |.NotIn=>(inn a b σ).bind fun c σ'=>.ok (.boo (!c)) σ'
 |.Lt=>aE (ltA .Lt a b) fun c=>.ok (.boo c) σ
 |.LtE=>aE (ltA .LtE a b) fun c=>.ok (.boo c) σ
 |.Gt=>aE (ltA .Gt a b) fun c=>.ok (.boo c) σ
 |.GtE=>aE (ltA .GtE a b) fun c=>.ok (.boo c) σ
noncomputable def zn:List AV->Bool
 |[]=>false
 |_::_=>true
def lM (v:AV) (σ:ST):R Bool:=match v with
 |.non=>.ok false σ
 |.boo b=>.ok b σ
 |v=>bz v σ fun zz es=>gd (Nat.blt es.length 1000) (.ok (zn es) σ)
def pZ (tb:Tb) (inn:INN):Prop:=∀{a b σ c σ'},inn a b σ=.ok c σ'->∀{d V fr u v},d.tb=tb->Room d.A 0->Den V a u->Den V b v->
 Tr d V fr σ (compareOp .In u v) fr σ' (DB (.bool c))/\Tr d V fr σ (compareOp .NotIn u v) fr σ' (DB (.bool (!c)))
section
variable {d:Dx}{V W:Vl}{fr fr':AF}{σ σ':ST}{s:Shared}{E:Value->Shared->Prop}{β γ:Type}
def EqR (d:Dx) (s:Shared) (u v:Value) (c:Bool):Prop:=∀(Q:Value->Shared->Prop) E,(Q (.bool c) s->wpAny d.M d.A (compareOp .Eq u v) Q E s)/\(Q (.bool (!c)) s->wpAny d.M d.A (compareOp .NotEq u v) Q E s)
theorem EqR.int {i j:Int}{t t':Tok}{c:Bool}(h:(i==j)=c):EqR d s (.int i t) (.int j t') c:=fun Q E=>⟨fun q=>PyProof.Rows.eq_int (by rw[h];exact q),fun q=>PyProof.Rows.ne_int (by rw[bne,h];exact q)⟩
theorem EqR.str {i j:Str}{t t':Tok}{c:Bool}(h:(i==j)=c):EqR d s (.str i t) (.str j t') c:=fun Q E=>⟨fun q=>PyProof.Rows.eq_str (by rw[h];exact q),fun q=>PyProof.Rows.ne_str (by rw[bne,h];exact q)⟩
theorem iE (i j:Int):(i==j)=Z.eqB i j:=by
 generalize h:Z.eqB i j=x';induction x' using aH with
 |true=>rw[(Z.eqB_iff i j).mp h];exact beq_self_eq_true _
 |false=>exact fT fun e=>by rw[(Z.eqB_iff i j).mpr e]at h;cases h
theorem zo {b:AV}{v:Value}{c:Bool}(e:eqN b=some c)(db:Den V b v):EqR d s .none v c:=by
 induction b using aA<;>first|exact ag e|obtain rfl:=soo e
 ·obtain rfl:=db;exact fun Q E=>⟨fun q=>EqNone.eq_none_none q,fun q=>EqNone.ne_none_none q⟩
 ·refine av db fun zy db'1=>?_;clear db;obtain rfl:=db'1;exact fun Q E=>⟨fun q=>EqNone.eq_none_int q,fun q=>EqNone.ne_none_int q⟩
 ·refine av db fun zy db'1=>?_;clear db;obtain rfl:=db'1;exact fun Q E=>⟨fun q=>EqNone.eq_none_str q,fun q=>EqNone.ne_none_str q⟩
theorem zp {b:AV}{v:Value}{c x:Bool}(e:eqB x b=some c)(db:Den V b v):EqR d s (.bool x) v c:=by
 induction b using aA<;>first|exact ag e|obtain rfl:=soo e
 obtain rfl:=db;exact fun Q E=>⟨fun q=>eq_bool q,fun q=>ne_bool q⟩
theorem zq {b:AV}{v:Value}{i:Int}{t:Tok}{c:Bool}(e:eqI i b=some c)(db:Den V b v):EqR d s (.int i t) v c:=by
 induction b using aA<;>first|exact ag e|obtain rfl:=soo e
 ·obtain rfl:=db;exact fun Q E=>⟨fun q=>EqNone.eq_int_none q,fun q=>EqNone.ne_int_none q⟩
 ·refine av db fun zy db'1=>?_;clear db;obtain rfl:=db'1;exact EqR.int (iE _ _)
theorem zr {b:AV}{v:Value}{l:List Nat}{t:Tok}{c:Bool}(e:eqS l b=some c)(db:Den V b v):EqR d s (.str ⟨l.toArray⟩ t) v c:=by
 induction b using aA<;>first|exact ag e|obtain rfl:=soo e
 ·obtain rfl:=db;exact fun Q E=>⟨fun q=>EqNone.eq_str_none q,fun q=>EqNone.ne_str_none q⟩
 ·refine av db fun zy db'1=>?_;clear db;obtain rfl:=db'1;exact EqR.str (rl _ _)
set_option tactic.hygienic true in
theorem vJ {b:AV}{v:Value}{k:Nat}{o:Int}{t:Tok}{c:Bool}(hn:bK V.ι)(e:DW k o b=some c)(db:Den V b v):EqR d s (.int (V.ι k+o) t) v c:=by
 induction b using aA<;>first|exact ag e|skip
 rename_i k' o';refine av db fun zy db'1=>?_;clear db;obtain rfl:=db'1;refine EqR.int ?_;have e:@Bool.rec (fun zz=>Option Bool) (ffo (Nat.beq k 0&&(Nat.blt k' 100&&Z.ltB o' o))) (some (Z.eqB o o')) (Nat.beq k k')=some c:=e;generalize hk:Nat.beq k k'=x';induction x' using aH with
 |true=>
  rw[hk]at e;cases e;rw[<-iE,Nat.eq_of_beq_eq_true hk];by_cases q:o=o'
  ·subst q;rw[beq_self_eq_true,beq_self_eq_true]
  ·rw[beq_eq_false_iff_ne.mpr q,beq_eq_false_iff_ne.mpr (by lia)]
 |false=>
  rw[hk]at e;refine ay (m9 e) fun h z'1=>?_;obtain rfl:=z'1;have h1:=an1 h;have h:=an2 h;have h2:=an1 h;have h3:=an2 h;have h1:=aK h1;have h2:k' < 100:=az h2;have h3:=(Z.ltB_iff o' o).mp h3;have:=hn.1 k' h2;subst h1;exact fT (by lia)
set_option tactic.hygienic true in
theorem rq {a b:AV}{u v:Value}{c:Bool}(e:eqA a b=some c)(hn:bK V.ι)(da:Den V a u)(db:Den V b v):EqR d s u v c:=by
 induction a using aA<;>first|exact ag e|skip
 ·obtain rfl:=da;exact zo e db
 ·obtain rfl:=da;exact zp e db
 ·refine av da fun zy da'1=>?_;clear da;obtain rfl:=da'1;exact zq e db
 ·refine av da fun zy da'1=>?_;clear da;obtain rfl:=da'1;exact zr e db
 ·refine av da fun zy da'1=>?_;clear da;obtain rfl:=da'1;exact vJ hn e db
 ·refine aI da fun l zy hl da'3=>?_;clear da;obtain rfl:=da'3
  induction b using aA<;>first|exact ag e|skip
  refine ay (lL e) fun h z'1=>?_;obtain rfl:=z'1;have h1:=an1 h;have h:=an2 h;have h2:=an1 h;have h3:=an2 h;refine aI db fun l' zy hl' db'3=>?_;clear db;obtain rfl:=db'3;rw[Nat.eq_of_beq_eq_true h1]at hl;obtain rfl:=soo (hl.symm.trans hl');rw[Fast.lEq_iff.mp h2,Fast.lEq_iff.mp h3];exact EqR.str (beq_self_eq_true _)
 ·refine av da fun zy da'1=>?_;clear da;obtain rfl:=da'1
  induction b using aA<;>first|exact ag e|skip
  refine ay (lL e) fun h z'1=>?_;obtain rfl:=z'1;refine av db fun zy db'1=>?_;clear db;obtain rfl:=db'1;rw[vG h];exact EqR.str (beq_self_eq_true _)
 ·refine aI da fun z zy hz da'3=>?_;clear da;obtain rfl:=da'3
  induction b using aA<;>first|exact ag e|skip
  refine ay (lL e) fun h z'1=>?_;obtain rfl:=z'1;refine aI db fun z' zy hz' db'3=>?_;clear db;obtain rfl:=db'3;rw[Nat.eq_of_beq_eq_true h]at hz;obtain rfl:=soo (hz.symm.trans hz');exact EqR.int (beq_self_eq_true _)
 ·refine av da fun zy da'1=>?_;clear da;obtain rfl:=da'1;rename_i ae
  induction ae using Ae.casesOn<;>first|exact ag e|skip
  rename_i kk
  induction b using aA<;>first|exact ag e|skip
  refine ay (m9 e) fun h z'1=>?_;obtain rfl:=z'1;have h1:=an1 h;have h:=an2 h;have h2:=an1 h;have h3:=an2 h;refine av db fun zy db'1=>?_;clear db;obtain rfl:=db'1;rw[(Z.eqB_iff _ _).mp h3];have:=hn.2.2 kk (az h1) (az h2);show EqR d s (.int (V.ι kk) _) (.int 0 _) false;exact EqR.int (fT (show V.ι kk≠0 by lia))
 ·refine aI da fun i zy da'2 hi=>?_;clear da;obtain rfl:=da'2
  induction b using aA<;>first|exact ag e|skip
  refine ay (m9 e) fun h z'1=>?_;obtain rfl:=z'1;refine av db fun zy db'1=>?_;clear db;obtain rfl:=db'1;have:=(Z.ltB_iff _ _).mp h;exact EqR.int (fT (by lia))
theorem rt (i j:Int):decide (i < j)=Z.ltB i j:=by
 generalize h:Z.ltB i j=x';induction x' using aH with
 |true=>exact decide_eq_true ((Z.ltB_iff i j).mp h)
 |false=>exact decide_eq_false fun e=>by rw[(Z.ltB_iff i j).mpr e]at h;cases h
theorem ru (i j:Int):decide (i<=j)=Z.leB i j:=by
 generalize h:Z.leB i j=x';induction x' using aH with
 |true=>exact decide_eq_true ((Z.leB_iff i j).mp h)
 |false=>exact decide_eq_false fun e=>by rw[(Z.leB_iff i j).mpr e]at h;cases h
theorem zt {op:CmpOp}{a b:AV}{u v:Value}{c:Bool}(e:ltA op a b=some c)(da:Den V a u)(db:Den V b v){Q:Value->Shared->Prop}(q:Q (.bool c) s):wpAny d.M d.A (compareOp op u v) Q E s:=by
 induction a using aA<;>first|exact ag e|skip
 ·refine av da fun zy da'1=>?_;clear da;obtain rfl:=da'1
  induction b using aA<;>first|exact ag e|skip
  refine av db fun zy db'1=>?_;clear db;obtain rfl:=db'1
  induction op using CmpOp.casesOn<;>first|exact ag e|obtain rfl:=soo e
  ·rw[<-rt]at q;exact PyProof.Rows.lt_int q
  ·rw[<-ru]at q;exact PyProof.Rows.le_int q
  ·rw[<-rt]at q;exact PyProof.Rows.gt_int q
  ·rw[<-ru]at q;exact PyProof.Rows.ge_int q
 ·induction op using CmpOp.casesOn<;>first|exact ag e|skip
  induction b using aA<;>first|exact ag e|skip
  refine ay (lL e) fun h z'1=>?_;obtain rfl:=z'1;refine aI da fun i zy da'2 hi=>?_;clear da;obtain rfl:=da'2;refine av db fun zy db'1=>?_;clear db;obtain rfl:=db'1;refine PyProof.Rows.le_int ?_;rw[decide_eq_true (Int.le_trans (Int.ofNat_le.mpr hi) ((Z.leB_iff _ _).mp h))];exact q
theorem rv {a b:AV}{u v:Value}{c:Bool}(e:isA a b=some c)(da:Den V a u)(db:Den V b v){Q:Value->Shared->Prop} :
  (Q (.bool c) s->wpAny d.M d.A (compareOp .Is u v) Q E s)/\(Q (.bool (!c)) s->wpAny d.M d.A (compareOp .IsNot u v) Q E s):=by
 induction b using aA<;>first|exact ag e|skip
 ·obtain rfl:=db;rw[<-pY e da];exact ⟨fun q=>is_none_gen q,fun q=>isnot_none_gen q⟩
 ·induction a using aA<;>first|exact ag e|obtain rfl:=soo e
  obtain rfl:=da;obtain rfl:=db;refine ⟨fun q=>is_bool q,fun q=>isnot_bool ?_⟩;exact q
theorem bX:∀{es:List AV} {ys:List Str} {us:List Value},eH es=some ys->Dens V es us->StrsAre us ys
 |[],ys,[],e,_=>by cases e;exact .nil
 |v::r,ys,u::us,e,⟨d,ds⟩=>by
  induction v using aA<;>first|exact ag e|skip
  refine aj (Option.map_eq_some_iff.mp e) fun zs h1 z'2=>?_;obtain rfl:=z'2;refine av d fun t d'1=>?_;clear d;obtain rfl:=d'1;exact .cons _ t (bX h1 ds)
 |[],_,_::_,_,d|_::_,_,[],_,d=>d.elim
theorem qa {A:Around}:∀{us vs:List Value} {ys:List Str},StrsAre us ys->StrsAre vs ys->us.length=vs.length/\∀(j:Nat) (h1:j < us.length) (h2:j < vs.length),PySem.SeqAt.EqAt A s us[j] vs[j] true:=by
 intro us vs ys a
 induction a generalizing vs with
 |nil=>intro b;cases b;exact ⟨rfl,fun j h=>absurd h (Nat.not_lt_zero _)⟩
 |cons x t r ih=>
  intro b;cases b with
  |cons _ u q=>
   refine ay (ih q) fun h1 h2=>?_;refine ⟨by rw[List.length_cons,List.length_cons,h1],fun j l1 l2=>?_⟩;cases j with
   |zero=>have:=PySem.SeqAt.EqAt.str_str (A:=A) (s:=s) x t x u;rw[beq_self_eq_true]at this;exact this
   |succ j=>exact h2 j (Nat.lt_of_succ_lt_succ l1) (Nat.lt_of_succ_lt_succ l2)
theorem At.lst (a:At d V fr σ s){v:AV}{i:Nat}{es:List AV}{u:Value}(hv:v=.obj i)(ho:aa σ.os i=some (.lst es))(du:Den V v u):∃ax us,u=.ref ax/\V.ρ i=some ax/\Dens V es us/\s.heap.IsList ax us.toArray:=
 a.has ho fun l hl g=>by
  rw[hv]at du;refine aj du fun ax hρ du'2=>?_;clear du;obtain rfl:=du'2;refine bu hl fun zy us k h1 h2 hl'5=>?_;clear hl;obtain rfl:=hl'5;obtain rfl:=soo (hρ.symm.trans h1);exact ⟨ax,us,rfl,hρ,h2,_,g _ (.head _),rfl,k,rfl⟩
theorem rx {a b:AV}{u v:Value}{op:CmpOp}{c:Bool}(hc:(op=.Eq/\c=true)\/(op=.NotEq/\c=false))(rm:Room d.A 0)(da:Den V a u)(db:Den V b v):Snd (eqL c σ a b) (TE d V fr σ (compareOp op u v)):=
 Snd.lst fun i es hv ho=>Snd.lst fun j fs hw hp=>Snd.opt fun ys h3=>Snd.opt fun zs h4=>Snd.gd fun h5=>Snd.ok fun s Q E a0 P=>by
  refine bt (a0.lst hv ho da) fun x us z'2 zy d1 l1=>?_;obtain rfl:=z'2;refine bt (a0.lst hw hp db) fun y vs z'2 zy d2 l2=>?_;obtain rfl:=z'2;rw[bQ h5]at h3;refine ay (qa (A:=d.A.in1) (s:=s) (bX h3 d1) (bX h4 d2)) fun e1 e2=>?_;have al:((List.range us.toArray.size).all fun zz=>true)=true:=by simp
  have hs:us.toArray.size=vs.toArray.size:=by simp;exact e1
  have hu:d.A.units < cLine:=by have:=rm.2;lia
  rcases hc with ⟨rfl,rfl⟩|⟨rfl,rfl⟩
  ·exact PySem.SeqAt.eq_listAt (e:=fun zz=>true) l1 l2 hs hu (fun j h1 h2=>by simpa using e2 j (by simpa using h1) (by simpa using h2)) (by rw[al];exact P.here a0 rfl)
  ·exact PySem.EqBoolInt.of_rcne (PySem.SeqAt.RcNeAt.lists (e:=fun zz=>true) l1 l2 hs hu fun j h1 h2=>by simpa using e2 j (by simpa using h1) (by simpa using h2)) (by rw[al];exact P.here a0 rfl)
theorem kq {inn:INN}(ii:pZ d.tb inn)(rm:Room d.A 0){op:CmpOp}{a b:AV}{u v:Value}(da:Den V a u)(db:Den V b v):Snd (vH inn op a b σ) (TE d V fr σ (compareOp op u v)):=by
 induction op using CmpOp.casesOn with
 |Is=>exact Snd.opt fun c h=>Snd.ok fun s Q E a0 P=>(rv h da db).1 (P.here a0 rfl)
 |IsNot=>exact Snd.opt fun c h=>Snd.ok fun s Q E a0 P=>(rv h da db).2 (P.here a0 rfl)
 |Eq=>exact (Snd.opt fun c h=>Snd.ok fun s Q E a0 P=>(rq h a0.v.num da db _ _).1 (P.here a0 rfl)).or (rx (.inl ⟨rfl,rfl⟩) rm da db)
 |NotEq=>exact (Snd.opt fun c h=>Snd.ok fun s Q E a0 P=>(rq h a0.v.num da db _ _).2 (P.here a0 rfl)).or (rx (.inr ⟨rfl,rfl⟩) rm da db)
 |In=>exact Snd.bind fun c σ₁ h=>Snd.ok ((ii h rfl rm da db).1.map (g:=id) (fun h=>h) fun W u le q=>q)
 |NotIn=>exact Snd.bind fun c σ₁ h=>Snd.ok ((ii h rfl rm da db).2.map (g:=id) (fun h=>h) fun W u le q=>q)
 |_=>exact Snd.opt fun c h=>Snd.ok fun s Q E a0 P=>zt h da db (P.here a0 rfl)
theorem Dens.non {es:List AV}{us:List Value}(h:Dens V es us):(!us.toArray.isEmpty)=zn es:=by
 induction es using aV<;>induction us using aV<;>first|rfl|exact False.elim h
theorem fK {a:AV}{u:Value}(du:Den V a u):Snd (lM a σ) fun b σ'=>Tr d V fr σ (truthy u) fr σ' (DB b):=by
 have key:Snd (bz a σ fun zz es=>gd (Nat.blt es.length 1000) (.ok (zn es) σ)) fun b σ'=>Tr d V fr σ (truthy u) fr σ' (DB b):=
  Snd.lst fun i es hv ho=>Snd.gd fun hl=>Snd.ok fun s Q E a0 P=>by
   refine bt (a0.lst hv ho du) fun x us z'2 zy d1 l1=>?_;obtain rfl:=z'2;have hl:es.length < 1000:=az hl;exact wpAny_truthy_list (items:=us.toArray) l1 (by rw[List.size_toArray,d1.length];lia) (P.tok a0 d1.non _)
 induction a using aA with
 |non=>obtain rfl:=du;exact Snd.ok fun s Q E a0 P=>truthy_none (P.here a0 rfl)
 |boo b=>obtain rfl:=du;exact Snd.ok fun s Q E a0 P=>wpAny_truthy_bool (P.here a0 rfl)
 |_=>exact key
end
noncomputable def dW:Expr->Bool
 |.Set ..=>false
 |_=>true
theorem dX {op:CmpOp}{e:Expr}(h:dW e=true):behindInMarks op e=false:=by
 induction e using bc<;>first|rfl|cases h
noncomputable def nf:Expr->Bool
 |.UnaryOp ..|.BoolOp ..|.Compare ..|.IfExp ..|.Constant ..=>false
 |_=>true
theorem qb {e:Expr}{env:Env}{whole:Sem Value}(h:nf e=true):isTrue e env whole=(do let v <-whole;standAt e.pos;holding [v] (truthy v)):=by
 induction e using bc<;>first|rfl|cases h
abbrev TS:=Expr->AF->ST->R Bool
def zu (ts:TS):List Expr->AF->ST->R Bool
 |[],_,σ=>.ok true σ
 |e::r,fr,σ=>(ts e fr σ).bind fun b σ₁=>itR b (zu ts r fr σ₁) (.ok false σ₁)
def orS (ts:TS):List Expr->AF->ST->R Bool
 |[],_,σ=>.ok false σ
 |e::r,fr,σ=>(ts e fr σ).bind fun b σ₁=>itR b (.ok true σ₁) (orS ts r fr σ₁)
def vK (ex:EX) (inn:INN) (l:Expr) (op:CmpOp) (r:Expr) (fr:AF) (σ:ST):R AV:=gd (dW r) ((ex l fr σ).bind fun a σ₁=>(ex r fr σ₁).bind fun b σ₂=>vH inn op a b σ₂)
noncomputable def yg:AV->Option Bool|.boo b=>some b|_=>none
def DX (ex:EX) (inn:INN) (op₁ op₂:CmpOp) (r₁ r₂:Expr) (a:AV) (fr:AF) (σ₁:ST):R Bool:=
 (ex r₁ fr σ₁).bind fun b σ₂=>(vH inn op₁ a b σ₂).bind fun c σ₃=>aE (yg c) fun t=>itR t ((ex r₂ fr σ₃).bind fun c σ₄=>(vH inn op₂ b c σ₄).bind fun e σ₅=>lM e σ₅) (.ok false σ₃)
def tsC (ex:EX) (inn:INN) (l:Expr) (ops:List CmpOp) (rs:List Expr) (fr:AF) (σ:ST):R Bool:=match ops,rs with
 |[op],[r]=>(vK ex inn l op r fr σ).bind fun c σ₁=>lM c σ₁
 |[op₁,op₂],[r₁,r₂]=>gd (dW r₂) ((ex l fr σ).bind fun a σ₁=>DX ex inn op₁ op₂ r₁ r₂ a fr σ₁)
 |_,_=>.no
def tsB (ts:TS) (op:BoolOp) (vs:List Expr) (fr:AF) (σ:ST):R Bool:=match op with
 |.And=>zu ts vs fr σ
 |.Or=>orS ts vs fr σ
noncomputable def DY:UnaryOp->Bool|.Not=>true|_=>false
def tsS (ex:EX) (ts:TS) (inn:INN) (e:Expr) (fr:AF) (σ:ST):R Bool:=match e with
 |.UnaryOp op x _=>gd (DY op) ((ts x fr σ).bind fun b σ₁=>.ok (!b) σ₁)
 |.BoolOp op vs _=>tsB ts op vs fr σ
 |.Compare l ops rs _=>tsC ex inn l ops rs fr σ
 |e=>gd (nf e) ((ex e fr σ).bind fun v σ₁=>lM v σ₁)
def boS (ex:EX) (op:BoolOp):List Expr->AF->ST->R AV
 |[],_,_=>.no
 |x::r,fr,σ=>match r with
  |[]=>ex x fr σ
  |_::_=>(ex x fr σ).bind fun v σ₁=>(lM v σ₁).bind fun t σ₂=>itR (match op with|.And=>t|.Or=>!t) (boS ex op r fr σ₂) (.ok v σ₂)
def ifS (ex:EX) (ts:TS) (t a b:Expr) (fr:AF) (σ:ST):R AV:=(ts t fr σ).bind fun c σ₁=>itR c (ex a fr σ₁) (ex b fr σ₁)
def unS (ex:EX) (op:UnaryOp) (x:Expr) (fr:AF) (σ:ST):R AV:=(ex x fr σ).bind fun v σ₁=>match op with
 |.Not=>(lM v σ₁).bind fun b σ₂=>.ok (.boo (!b)) σ₂
 |.USub=>bV v fun i=>.ok (.int (Int.neg i)) σ₁
 |_=>.no
def TOk (tb:Tb) (n:Nat) (ts:TS):Prop:=∀{e fr σ b σ'},ts e fr σ=.ok b σ'->∀{d V},d.tb=tb->Room d.A n->Tr d V fr σ (isTrue e d.ev (eval e d.ev)) fr σ' (DB b)
section
variable {d:Dx}{V W:Vl}{fr fr':AF}{σ σ':ST}{s:Shared}{E:Value->Shared->Prop}{β γ:Type}
theorem oo {n:Nat}{ex:EX}{inn:INN}(ie:EOk d.tb n ex)(ii:pZ d.tb inn)(rm:Room d.A n){l r:Expr}{op:CmpOp}:Snd (vK ex inn l op r fr σ) fun c σ'=>behindInMarks op r=false/\
  ∀s Q E,At d V fr σ s->Po d V fr σ' s (DE c) Q->wpAny d.M d.A (eval l d.ev) (fun a s₁=>wpAny d.M d.A (eval r d.ev) (fun b s₂=>wpAny d.M d.A (compareOp op a b) Q E s₂) E s₁) E s:=
 Snd.gd fun hs=>Snd.bind fun a σ₁ h1=>Snd.bind fun b σ₂ h2=>fun c σ' e=>⟨dX hs,fun s Q E at_ P=>ie h1 rfl rm _ _ _ at_ fun u h tk W le du a₁=>ie h2 rfl rm _ _ _ a₁ fun u' h' tk' W' le' du' a₂=>
  kq ii (rm.mono (bD _)) (du.mono le') du' c σ' e _ _ _ a₂ ((P.from le).from le')⟩
theorem ry {n:Nat}{ts:TS}(it:TOk d.tb n ts)(rm:Room d.A n):∀{es:List Expr} {σ:ST} {V:Vl},Snd (zu ts es fr σ) fun b σ'=>Tr d V fr σ (allTrue .And es d.ev) fr σ' (DB b)
 |[],σ,V=>Snd.ok fun s Q E a P=>wpAny_allTrue_And_nil (P.here a rfl)
 |x::r,σ,V=>Snd.bind fun b σ₁ h1=>Snd.it (fun hb b' σ' e s Q E a P=>wpAny_allTrue_And_cons (it h1 rfl rm _ _ _ a fun u h tk W le q a₁=>by
    rw[show u=b from q,hb];exact ry it rm b' σ' e _ _ _ a₁ (P.from le)))
   (fun hb=>Snd.ok fun s Q E a P=>wpAny_allTrue_And_cons (it h1 rfl rm _ _ _ a fun u h tk W le q a₁=>by
    rw[show u=b from q,hb];exact P false h tk W le rfl a₁))
theorem yh {n:Nat}{ts:TS}(it:TOk d.tb n ts)(rm:Room d.A n):∀{es:List Expr} {σ:ST} {V:Vl},Snd (orS ts es fr σ) fun b σ'=>Tr d V fr σ (allTrue .Or es d.ev) fr σ' (DB b)
 |[],σ,V=>Snd.ok fun s Q E a P=>wpAny_allTrue_Or_nil (P.here a rfl)
 |x::r,σ,V=>Snd.bind fun b σ₁ h1=>Snd.it
   (fun hb=>Snd.ok fun s Q E a P=>wpAny_allTrue_Or_cons (it h1 rfl rm _ _ _ a fun u h tk W le q a₁=>by
    rw[show u=b from q,hb];exact P true h tk W le rfl a₁))
   (fun hb b' σ' e s Q E a P=>wpAny_allTrue_Or_cons (it h1 rfl rm _ _ _ a fun u h tk W le q a₁=>by
    rw[show u=b from q,hb];exact yh it rm b' σ' e _ _ _ a₁ (P.from le)))
theorem lN {c:AV}{b:Bool}{u:Value}(h:yg c=some b)(du:Den V c u):u=.bool b:=by induction c using aA<;>cases h;exact du
theorem vL {n:Nat}{ex:EX}{inn:INN}(ie:EOk d.tb n ex)(ii:pZ d.tb inn)(rm:Room d.A n){l r₁ r₂:Expr}{op₁ op₂:CmpOp}{pos:Pos}{whole:Sem Value} :
  Snd (gd (dW r₂) ((ex l fr σ).bind fun a σ₁=>DX ex inn op₁ op₂ r₁ r₂ a fr σ₁)) fun b σ'=>Tr d V fr σ (isTrue (.Compare l [op₁,op₂] [r₁,r₂] pos) d.ev whole) fr σ' (DB b):=
 Snd.gd fun hs=>Snd.bind fun a σ₁ h1=>Snd.bind fun b σ₂ h2=>Snd.bind fun c σ₃ h3=>Snd.opt fun t ht=>Snd.it
  (fun hb=>Snd.bind fun x σ₄ h4=>Snd.bind fun y σ₅ h5=>fun z σ' e s Q E a₀ P=>isTrue_chain (ie h1 rfl rm _ _ _ a₀ fun u h tk W le du a₁=>test_link (ie h2 rfl rm _ _ _ a₁ fun u' h' tk' W' le' du' a₂=>
   kq ii (rm.mono (bD _)) (du.mono le') du' c σ₃ h3 _ _ _ a₂ fun u'' h'' tk'' W'' le'' du'' a₃=>by
    rw[lN ht du'',hb];exact wpAny_truthy_bool (test_last (ie h4 rfl rm _ _ _ a₃ fun u3 h3' tk3 W3 le3 du3 a₄=>kq ii (rm.mono (bD _)) (du'.mono (le''.trans le3)) du3 y σ₅ h5 _ _ _ a₄ fun u4 h4' tk4 W4 le4 du4 a₅=>
     fK du4 z σ' e _ _ _ a₅ ((((P.from le).from le').from le'').from le3 |>.from le4)))) ) (dX hs))
  (fun hb=>Snd.ok fun s Q E a₀ P=>isTrue_chain (ie h1 rfl rm _ _ _ a₀ fun u h tk W le du a₁=>test_link (ie h2 rfl rm _ _ _ a₁ fun u' h' tk' W' le' du' a₂=>
   kq ii (rm.mono (bD _)) (du.mono le') du' c σ₃ h3 _ _ _ a₂ fun u'' h'' tk'' W'' le'' du'' a₃=>by
    rw[lN ht du'',hb];exact wpAny_truthy_bool (P false h'' tk'' W'' ((le.trans le').trans le'') rfl a₃))) (dX hs))
theorem vM {n:Nat}{ex:EX}{inn:INN}(ie:EOk d.tb n ex)(ii:pZ d.tb inn)(rm:Room d.A n){l r:Expr}{op:CmpOp}{pos:Pos}{whole:Sem Value} :
  Snd ((vK ex inn l op r fr σ).bind fun c σ₁=>lM c σ₁) fun b σ'=>Tr d V fr σ (isTrue (.Compare l [op] [r] pos) d.ev whole) fr σ' (DB b):=
 Snd.bind fun c σ₁ h1=>fun b σ' e s Q E a P=>by
  refine ay (oo (V:=V) ie ii rm c σ₁ h1) fun q1 q2=>?_;exact wpAny_isTrue_Compare1 (q2 s (fun c s₃=>wpAny d.M d.A (truthy c) Q E s₃) E a fun u h tk W le du a₁=>fK du b σ' e _ _ _ a₁ (P.from le)) q1
theorem DZ {n:Nat}{ex:EX}{ts:TS}{inn:INN}{tb:Tb}(ie:EOk tb n ex)(it:TOk tb n ts)(ii:pZ tb inn):TOk tb n (tsS ex ts inn):=by
 intro ee fr σ b σ' e d V ht rm;subst ht;have key:Snd (gd (nf ee) ((ex ee fr σ).bind fun v σ₁=>lM v σ₁)) fun b σ'=>Tr d V fr σ (isTrue ee d.ev (eval ee d.ev)) fr σ' (DB b):=
  Snd.gd fun hp=>Snd.bind fun v σ₁ h1=>fun b σ' e s Q E a P=>wpAny_isTrue_value (ie h1 rfl rm _ _ _ a fun u h tk W le du a₁=>fK du b σ' e _ _ _ a₁ (P.from le)) (qb hp)
 refine Snd.of e (Φ:=fun b σ'=>Tr d V fr σ (isTrue ee d.ev (eval ee d.ev)) fr σ' (DB b)) ?_
 induction ee using bc with
 |UnaryOp op x p=>exact Snd.gd fun ho=>Snd.bind fun c σ₁ h1=>Snd.ok (by
   induction op using UnaryOp.casesOn<;>first|cases ho;done|skip
   exact (it h1 rfl rm).map (g:=(!·)) (fun h=>wpAny_isTrue_Not h) fun W u le q=>by rw[show u=c from q];rfl)
 |BoolOp op vs p=>induction op using BoolOp.casesOn with
  |And=>exact fun b σ' e s Q E a P=>wpAny_isTrue_BoolOp (ry it rm b σ' e s Q E a P)
  |Or=>exact fun b σ' e s Q E a P=>wpAny_isTrue_BoolOp (yh it rm b σ' e s Q E a P)
 |Compare l ops rs p=>
  match ops,rs with
  |[op],[r]=>exact vM ie ii rm
  |[op₁,op₂],[r₁,r₂]=>exact vL ie ii rm
  |[],_|[_],[]|[_],_::_::_|[_,_],[]|[_,_],[_]|[_,_],_::_::_::_|_::_::_::_,_=>exact Snd.no
 |_=>exact key
theorem D7 {n:Nat}{ex:EX}{ts:TS}(ie:EOk d.tb n ex)(it:TOk d.tb n ts)(rm:Room d.A n){t x y:Expr}{pos:Pos}:Snd (ifS ex ts t x y fr σ) (TE d V fr σ (eval (.IfExp t x y pos) d.ev)):=
 Snd.bind fun c σ₁ h1=>Snd.it
  (fun hb v σ' e s Q E a P=>wpAny_IfExp (it h1 rfl rm _ _ _ a fun u h tk W le q a₁=>by rw[show u=c from q,hb];exact ie e rfl rm _ _ _ a₁ (P.from le)))
  (fun hb v σ' e s Q E a P=>wpAny_IfExp (it h1 rfl rm _ _ _ a fun u h tk W le q a₁=>by rw[show u=c from q,hb];exact ie e rfl rm _ _ _ a₁ (P.from le)))
set_option backward.match.sparseCases true in
theorem gb {M:Model}{A:Around}{op:BoolOp}{pos:Pos}{x y:Sem Value}{r:List (Sem Value)}{Q:Value->Shared->Prop}
  (h:wpAny M A x (fun v s₁=>wpAny M A (truthy v) (fun t s₂=>if (match op with|.And=>t|.Or=>!t)=true then wpAny M A (boolOp pos op (y::r)) Q E s₂ else Q v s₂) E s₁) E s):wpAny M A (boolOp pos op (x::y::r)) Q E s:=by
 show wpAny M A (do
  let v <-x
  standAt pos
  let t <-holding [v] (truthy v)
  match op,t with
  |.And,false|.Or,true=>pure v
  |_,_=>boolOp pos op (y::r)) Q E s
 refine af (wpAny_mono h (fun v s₁ h₁=>af (wpAny_standAt (af (wpAny_holding (wpAny_mono h₁ (fun t s₂ h₂=>?_) fun zz zz x=>x))))) fun zz zz x=>x)
 induction op using BoolOp.casesOn<;>induction t using aH<;>first|exact au h₂|exact h₂
theorem yi {n:Nat}{ex:EX}(ie:EOk d.tb n ex)(rm:Room d.A n){op:BoolOp}{pos:Pos}:∀{es:List Expr} {σ:ST} {V:Vl},Snd (boS ex op es fr σ) (TE d V fr σ (boolOp pos op (evalEach es d.ev)))
 |[],σ,V=>Snd.no
 |[x],σ,V=>fun v σ' e=>ie e rfl rm
 |x::y::r,σ,V=>Snd.bind fun v σ₁ h1=>Snd.bind fun t σ₂ h2=>Snd.it
  (fun hb v' σ' e s Q E a P=>gb (ie h1 rfl rm _ _ _ a fun u h tk W le du a₁=>fK du t σ₂ h2 _ _ _ a₁ fun c h' tk' W' le' q a₂=>by
   rw[show c=t from q,hb];exact yi ie rm v' σ' e _ _ _ a₂ ((P.from le).from le')))
  (fun hb=>Snd.ok fun s Q E a P=>gb (ie h1 rfl rm _ _ _ a fun u h tk W le du a₁=>fK du t σ₂ h2 _ _ _ a₁ fun c h' tk' W' le' q a₂=>by
   rw[show c=t from q,hb];exact P u h' tk' W' (le.trans le') (du.mono le') a₂))
theorem D8 {n:Nat}{ex:EX}(ie:EOk d.tb n ex)(rm:Room d.A n){op:UnaryOp}{x:Expr}{pos:Pos}:Snd (unS ex op x fr σ) (TE d V fr σ (eval (.UnaryOp op x pos) d.ev)):=
 Snd.bind fun v σ₁ h1=>by
  induction op using UnaryOp.casesOn with
  |Not=>exact Snd.bind fun b σ₂ h2=>Snd.ok fun s Q E a P=>wpAny_UnaryOp (ie h1 rfl rm _ _ _ a fun u h tk W le du a₁=>not_value (fK du b σ₂ h2 _ _ _ a₁ fun c h' tk' W' le' q a₂=>P _ h' tk' W' (le.trans le') (by rw[show c=b from q];rfl) a₂))
  |USub=>exact Snd.int fun i hi=>Snd.ok fun s Q E a P=>wpAny_UnaryOp (ie h1 rfl rm _ _ _ a fun u h tk W le du a₁=>by
    rw[hi]at du;refine av du fun t du'1=>?_;clear du;obtain rfl:=du'1;exact PyProof.Rows.neg_int (P _ _ _ _ le ⟨_,rfl⟩ (a₁.tok _)))
  |_=>exact Snd.no
end
end
def stN (x:Str) (v:AV) (fr:AF) (σ:ST):R AF:=mdR fr.md
 ((gd (iy (aw fr.sc.names x)) (.ok { fr with loc:=put fr.loc x v } σ)).or (gd (m7 (aw fr.sc.names x)) (aE (aw fr.cel x) fun i=>om i σ fun zz=>.ok fr ⟨bf σ.os i (.cel (some v)),σ.nx⟩)))
 fun i=>gd (iy (aw fr.sc.names x)) (lI i σ fun fs=>.ok fr ⟨bf σ.os i (.nsp (put fs x v)),σ.nx⟩)
abbrev SI:=AV->AV->AV->ST->R Unit
def tg1 (tb:Tb) (ex:EX) (si:SI) (t:Expr) (v:AV) (fr:AF) (σ:ST):R AF:=match t with
 |.Name x _=>stN x v fr σ
 |.Attribute o x _=>(ex o fr σ).bind fun u σ₁=>(wrA tb u x v σ₁).bind fun zz σ₂=>.ok fr σ₂
 |.Subscript o i _=>(ex o fr σ).bind fun u σ₁=>(ex i fr σ₁).bind fun k σ₂=>(si u k v σ₂).bind fun zz σ₃=>.ok fr σ₃
 |_=>.no
def tgL (tb:Tb) (ex:EX) (si:SI):List Expr->List AV->AF->ST->R AF
 |[],vs,fr,σ=>match vs with|[]=>.ok fr σ|_::_=>.no
 |t::ts,vs,fr,σ=>match vs with
  |v::vs=>gd (cH t) ((tg1 tb ex si t v fr σ).bind fun fr' σ'=>tgL tb ex si ts vs fr' σ')
  |[]=>.no
def nmL:List Str->List AV->AF->ST->R AF
 |[],vs,fr,σ=>match vs with|[]=>.ok fr σ|_::_=>.no
 |x::xs,vs,fr,σ=>match vs with
  |v::vs=>(stN x v fr σ).bind fun fr' σ'=>nmL xs vs fr' σ'
  |[]=>.no
def lO (v:AV) (σ:ST):R (List AV):=(bz v σ fun zz es=>.ok es σ).or (et v σ fun zz es=>.ok es σ)
def yj (sc:Scope) (line:Nat):Expr->Option Str
 |.Name id pos=>@Bool.rec (fun zz=>Option Str) none (some id) (fF sc.names id&&Nat.beq pos.line line)
 |_=>none
noncomputable def fL:Expr->Bool
 |.ListComp ..|.SetComp ..|.DictComp ..=>false
 |_=>true
theorem bB {e:Expr}{t:Option Expr}{n:Nat}{env:Env}(h:fL e=true):swapsWith e t n env=pure false:=by
 induction e using bc<;>first|rfl|exact ak h
def eI (tb:Tb) (si:SI):Prop:=∀{a i v σ u σ'},si a i v σ=.ok u σ'->∀{d V fr ua ui uv},d.tb=tb->Room d.A 0->Den V a ua->Den V i ui->Den V v uv->TU d V fr σ (setItem ua ui uv) () σ'
theorem UpdF.of {d:Addr}{o:Obj}:∀{pre post:L2},((pre++(d,o)::post).map (·.1)).Nodup->UpdF d o (pre++(d,o)::post) (fun o'=>pre++(d,o')::post)
 |[],post=>fun h=>by
  rw[List.nil_append,List.map_cons,List.nodup_cons]at h;exact .head fun p hp e=>h.1 (by have:=cP (f:=(·.1)) hp;rw[e]at this;exact this)
 |q::pre,post=>fun h=>by
  rw[List.cons_append,List.map_cons,List.nodup_cons]at h;exact .tail (fun e=>h.1 (by rw[e,List.map_append,List.map_cons];exact a9 _ (.head _))) (UpdF.of h.2)
section
variable {d:Dx}{V W:Vl}{fr fr':AF}{σ σ':ST}{s:Shared}{E:Value->Shared->Prop}{β γ:Type}
theorem gc {fs:List (Str×AV)}{m:Str->Option Value}{x:Str}{v:AV}{u:Value}(lc:∀y z,aw fs y=some z->∃u,m y=some u/\Den V z u)(du:Den V v u):∀y z,aw (put fs x v) y=some z->∃w,(if y=x then some u else m y)=some w/\Den V z w:=fun y z hy=>by
 rw[fU]at hy;by_cases q:x=y
 ·rw[if_pos q]at hy;exact ⟨u,if_pos q.symm,soo hy▸du⟩
 ·rw[if_neg q]at hy;refine aj (lc y z hy) fun w h1 h2=>?_;exact ⟨w,(if_neg (Ne.symm q)).trans h1,h2⟩
theorem vN {x:Str}{v:AV}{u:Value}{i:Nat}(hmd:fr.md=some i)(du:Den V v u):Snd (gd (iy (aw fr.sc.names x)) (lI i σ fun fs=>.ok fr ⟨bf σ.os i (.nsp (put fs x v)),σ.nx⟩)) fun fr' σ'=>Tr d V fr σ (storeName d.ev x u) fr' σ' DU:=
 Snd.gd fun hk=>Snd.nsp fun fs ho=>Snd.ok fun s Q E a P=>a.turn ho fun l hl g sw=>by
  have md:=a.l.ns hmd;refine bZ hl fun y o m h1 h2 h3 hl'6=>?_;clear hl;obtain rfl:=hl'6;obtain rfl:=soo (md.symm.trans h1);refine wpAny_storeName_local (a.l.kd (eY hk)) (h2 s.heap (g _ (.head _)).1) (fun h' hn' hs'=>?_) (by rw[a.c.hk];rfl);refine mV (id hn') fun o' es ep ho' r=>?_;exact P () h' _ V (.refl V) trivial (sw _ [(d.f.ev.locals,o')] h' _ (.nsp h1 (fun h hh=>⟨o',es,ep,hh,r⟩) (gc h3 du)) (fun p hp=>by obtain rfl:=bg hp;exact ho') (.refl _) fun b o hb e=>(hs'.2 b (fun q=>hb (by rw[q];exact .head _))).trans e)
theorem vO {x:Str}{v:AV}{u:Value}(hmd:fr.md=none)(hk:iy (aw fr.sc.names x)=true)(du:Den V v u):Tr d V fr σ (storeName d.ev x u) { fr with loc:=put fr.loc x v } σ DU:=fun s Q E a P=>a.stK fun m news X=>by
 have hk:=a.l.kd (eY hk);have hev:=Fx.ev_none a.l.md hmd;rw[hev]at hk;show wpAny _ _ (storeName d.f.ev x u) _ _ _;rw[hev];exact storeX_L X.F X.N (fun h' F' N'=>P () h' _ V (.refl V) trivial ⟨a.c,⟨a.l.md,a.l.fa,a.l.sc,a.l.cel⟩,a.v,_,news,F',N',X.D,X.nd,gc X.lc du⟩) a.c.hf hk
theorem vP {x:Str}{v:AV}{u:Value}(hmd:fr.md=none)(hk:m7 (aw fr.sc.names x)=true)(du:Den V v u):Snd (aE (aw fr.cel x) fun i=>om i σ fun zz=>.ok fr ⟨bf σ.os i (.cel (some v)),σ.nx⟩) fun fr' σ'=>Tr d V fr σ (storeName d.ev x u) fr' σ' DU:=
 Snd.opt fun i hi=>Snd.cel fun o0 ho=>Snd.ok fun s Q E a P=>a.swapK ho fun m pre l post X hl up=>by
  refine aj (a.l.cel x i hi) fun c hc hcl=>?_;have hk:=a.l.kd (km hk);have hev:=Fx.ev_none a.l.md hmd;rw[hev]at hk hcl;show wpAny _ _ (storeName d.f.ev x u) _ _ _;rw[hev];have hl:∃o v₀,l=[(c,o)]/\o.data=.cell v₀:=by
   induction o0 using aF with
   |none=>refine aR hl fun zy o h1 h2 h3=>?_;clear hl;obtain rfl:=soo (hc.symm.trans h1);exact ⟨o,_,h3,h2⟩
   |some _=>refine bZ hl fun zy zy o h1 h2 zy h3=>?_;clear hl;obtain rfl:=soo (hc.symm.trans h1);exact ⟨o,_,h3,h2⟩
  refine aI hl fun o v₀ hl'2 hd=>?_;clear hl;obtain rfl:=hl'2;exact storeX_C X.F X.N hcl (UpdF.of X.nd) hd (fun h' o' F' N' hd'=>P () h' s.toks V (.refl V) trivial (a.putV X F' N' (up V (.refl V) _ [(c,o')] (.cel hc hd' du)) (show ((pre++([(c,o')]++post)).map (·.1)).Nodup from f7 X.nd rfl))) a.c.hf hk
theorem rz {x:Str}{v:AV}{u:Value}(du:Den V v u):Snd (stN x v fr σ) fun fr' σ'=>Tr d V fr σ (storeName d.ev x u) fr' σ' DU:=
 Snd.md (fun hmd=>(Snd.gd fun hk=>Snd.ok (vO hmd hk du)).or (Snd.gd fun hk=>vP hmd hk du)) fun i hmd=>vN hmd du
theorem gH {n:Nat}{ex:EX}{si:SI}(ie:EOk d.tb n ex)(is:eI d.tb si)(rm:Room d.A n){t:Expr}{v:AV}{u:Value}(du:Den V v u):Snd (tg1 d.tb ex si t v fr σ) fun fr' σ'=>Tr d V fr σ (assign t d.ev u) fr' σ' DU:=by
 induction t using bc with
 |Name x p=>exact fun fr' σ' e s Q E a P=>wpAny_assign_Name (rz du fr' σ' e s _ E a P)
 |Attribute o x p=>exact Snd.bind fun o σ₁ h1=>Snd.bind fun zz σ₂ h2=>Snd.ok fun s Q E a P=>kas_attr (ie h1 rfl rm _ _ _ a fun uo h tk W le dO a₁=>q8 dO (du.mono le) _ _ h2 _ _ _ a₁ (P.from le))
 |Subscript o i p=>exact Snd.bind fun o σ₁ h1=>Snd.bind fun i σ₂ h2=>Snd.bind fun zz σ₃ h3=>Snd.ok fun s Q E a P=>kas_sub (ie h1 rfl rm _ _ _ a fun uo h tk W le dO a₁=>ie h2 rfl rm _ _ _ a₁ fun ui h' tk' W' le' dI a₂=>
   is h3 rfl (rm.mono (bD _)) (dO.mono le') dI (du.mono (le.trans le')) _ _ _ a₂ ((P.from le).from le'))
 |_=>exact Snd.no
theorem bE {t:Expr}{r:List Expr}{env:Env}(h:cH t=true):assignEach (t::r) env=(false,assign t env)::assignEach r env:=by
 induction t using bc<;>first|rfl|exact ak h
theorem rE {n:Nat}{ex:EX}{si:SI}(ie:EOk d.tb n ex)(is:eI d.tb si)(rm:Room d.A n):∀{ts:List Expr} {vs:List AV} {us:List Value} {V:Vl} {fr:AF} {σ:ST},Dens V vs us->
  Snd (tgL d.tb ex si ts vs fr σ) fun fr' σ'=>Tr d V fr σ (assignInOrder ((assignEach ts d.ev).map (·.2)) us) fr' σ' DU
 |[],[],[],V,fr,σ,_=>Snd.ok fun s Q E a P=>assignInOrder_nil (P.here a trivial)
 |t::ts,v::vs,u::us,V,fr,σ,⟨q,qs⟩=>Snd.gd fun hs=>Snd.bind fun fr₁ σ₁ h1=>fun fr' σ' e=>by
  rw[bE hs];exact fun s Q E a P=>assignInOrder_cons (gH ie is rm q fr₁ σ₁ h1 _ _ _ a fun zz h tk W le zz a₁=>rE ie is rm (qs.mono le) fr' σ' e _ _ _ a₁ (P.from le))
 |[],_::_,_,V,fr,σ,_|_::_,[],_,V,fr,σ,_=>Snd.no
 |_,[],_::_,V,fr,σ,q|_,_::_,[],V,fr,σ,q=>q.elim
theorem oq {tb:Tb}{ex:EX}{si:SI}:∀{ts:List Expr} {vs:List AV} {fr:AF} {σ:ST},Snd (tgL tb ex si ts vs fr σ) fun zz zz=>ts.length=vs.length/\∀env:Env,(assignEach ts env).length=ts.length/\(assignEach ts env).findIdx? (·.1)=none
 |[],[],_,_=>Snd.ok ⟨rfl,fun zz=>⟨rfl,rfl⟩⟩
 |t::ts,v::vs,fr,σ=>Snd.gd fun hs=>Snd.bind fun fr₁ σ₁ h1=>fun fr' σ' e=>by
  have:=oq fr' σ' e;refine ⟨by rw[List.length_cons,List.length_cons,this.1],fun env=>?_⟩;rw[bE hs];exact ⟨by rw[List.length_cons,List.length_cons,(this.2 env).1],by rw[List.findIdx?_cons,(this.2 env).2];rfl⟩
 |[],_::_,fr,σ|_::_,[],fr,σ=>Snd.no
theorem rF:∀{xs:List Str} {vs:List AV} {us:List Value} {V:Vl} {fr:AF} {σ:ST},Dens V vs us->Snd (nmL xs vs fr σ) fun fr' σ'=>Tr d V fr σ (assignInOrder (xs.map fun n=>bindName d.ev n) us) fr' σ' DU
 |[],[],[],V,fr,σ,_=>Snd.ok fun s Q E a P=>assignInOrder_nil (P.here a trivial)
 |x::xs,v::vs,u::us,V,fr,σ,⟨q,qs⟩=>Snd.bind fun fr₁ σ₁ h1=>fun fr' σ' e s Q E a P=>
  assignInOrder_cons (wpAny_bindName (rz q fr₁ σ₁ h1 _ _ _ a fun zz h tk W le zz a₁=>rF (qs.mono le) fr' σ' e _ _ _ a₁ (P.from le)))
 |[],_::_,_,V,fr,σ,_|_::_,[],_,V,fr,σ,_=>Snd.no
 |_,[],_::_,V,fr,σ,q|_,_::_,[],V,fr,σ,q=>q.elim
theorem Dens.rev:∀{a:List AV} {b:List Value},Dens V a b->Dens V a.reverse b.reverse
 |[],[],_=>trivial
 |_::_,_::_,⟨h1,h2⟩=>by rw[List.reverse_cons,List.reverse_cons];exact h2.rev.app ⟨h1,trivial⟩
 |[],_::_,h|_::_,[],h=>h.elim
theorem At.ext {h':Heap}(a:At d V fr σ s)(he:Heap.ExtBut s.heap.objs.size s.heap h'):At d V fr σ { s with heap:=h' }:=
 let ⟨m,news,X⟩:=a.st;⟨a.c,a.l,a.v,m,news,X.F.extBut he (aP _),X.N.extBut he (aP _),X.D,X.nd,X.lc⟩
theorem At.tup (a:At d V fr σ s){v:AV}{i:Nat}{es:List AV}{u:Value}(hv:v=.obj i)(ho:aa σ.os i=some (.tup es))(du:Den V v u):∃ax us,u=.ref ax/\V.ρ i=some ax/\Dens V es us/\IsTup s.heap ax us.toArray:=
 a.has ho fun l hl g=>by
  rw[hv]at du;refine aj du fun ax hρ du'2=>?_;clear du;obtain rfl:=du'2;refine bu hl fun zy us k h1 h2 hl'5=>?_;clear hl;obtain rfl:=hl'5;obtain rfl:=soo (hρ.symm.trans h1);exact ⟨ax,us,rfl,hρ,h2,_,g _ (.head _),rfl,k,rfl⟩
theorem rG {v:AV}{u:Value}(du:Den V v u):Snd (lO v σ) fun es σ'=>σ'=σ/\∀s,At d V fr σ s->∃ax us,u=.ref ax/\Dens V es us/\(s.heap.IsList ax us.toArray\/IsTup s.heap ax us.toArray):=
 (Snd.lst fun i es hv ho=>Snd.ok ⟨rfl,fun s a=>let ⟨ax,us,h1,_,h2,h3⟩:=a.lst hv ho du;⟨ax,us,h1,h2,.inl h3⟩⟩).or
 (Snd.tup fun i es hv ho=>Snd.ok ⟨rfl,fun s a=>let ⟨ax,us,h1,_,h2,h3⟩:=a.tup hv ho du;⟨ax,us,h1,h2,.inr h3⟩⟩)
theorem eJ {v:AV}{es:List AV}{u:Value}{n:Nat}{σ₁:ST}(e:lO v σ=.ok es σ₁)(hn:n=es.length)(du:Den V v u):Tr d V fr σ (unpackItems u n none) fr σ₁ (DL es):=fun s Q E a P=>by
 refine ay (rG (d:=d) (fr:=fr) du es σ₁ e) fun z'0 g=>?_;obtain rfl:=z'0;refine aR (g s a) fun ax us z'2 ds h=>?_;obtain rfl:=z'2;have hn':n=us.toArray.size:=by rw[hn,List.size_toArray,ds.length]
 subst hn';have fin:∀h',Heap.ExtBut s.heap.objs.size s.heap h'->Q us { s with heap:=h' }:=fun h' he=>P us h' s.toks V (.refl V) ds (a.ext he);rcases h with h|h
 ·exact kun_itemsOf a.c.hh h fun h' he=>by rw[List.toList_toArray];exact fin h' he
 ·exact unpackItems_tuple a.c.hh h fun h' he=>by rw[List.toList_toArray];exact fin h' he
theorem rH {n:Nat}{ex:EX}{si:SI}(ie:EOk d.tb n ex)(is:eI d.tb si)(rm:Room d.A n){ts:List Expr}{k:Nat}{pos:Pos}{v:AV}{es:List AV}{u:Value}{σ₁:ST}(hq:lO v σ=.ok es σ₁)(du:Den V v u) :
  Snd (tgL d.tb ex si ts es fr σ₁) fun fr' σ'=>Tr d V fr σ (assign (.Tuple ts k pos) d.ev u) fr' σ' DU:=fun fr' σ' e s Q E a P=>by
 refine ay (oq fr' σ' e) fun l1 l2=>?_;refine ay (l2 d.ev) fun l3 l4=>?_;rw[PyProof.Rows.assign_Tuple];refine af (wpAny_standAt ?_);unfold unpack;rw[l4,l3];exact af (wpAny_holding (eJ hq l1 du _ _ _ a fun us h tk W le ds a₁=>rE ie is rm ds fr' σ' e _ _ _ a₁ (P.from le)))
end
set_option backward.match.sparseCases true in
noncomputable def rI (env:Env)(line:Nat):Expr->Option Str
 |.Name id pos=>if env.kindOf id==some .local&&pos.line==line then some id else none
 |_=>none
set_option backward.match.sparseCases true in
noncomputable def kr:Expr->Bool
 |.Starred ..=>true
 |_=>false
theorem vQ (o:Option NameKind):(o==some NameKind.local)=iy o:=by
 induction o using aF with
 |none=>rfl
 |some k=>induction k using NameKind.casesOn<;>rfl
theorem dY (a b:Nat):(a==b)=Nat.beq a b:=(BT.beq_eq a b).symm
set_option tactic.hygienic true in
theorem lP {env:Env}{line:Nat}:rI env line=yj env.scope line:=by
 funext t
 induction t using bc<;>try rfl
 rename_i id pos;show (if (env.scope.names.lookup id==some .local&&pos.line==line)=true then some id else none)=@Bool.rec (fun zz=>Option Str) none (some id) (iy (aw env.scope.names id)&&Nat.beq pos.line line);rw[vQ,<-aQ,dY];cases iy (aw env.scope.names id)&&Nat.beq pos.line line<;>rfl
theorem ng {e:Expr}(h:cH e=true):kr e=false:=by
 induction e using bc<;>first|rfl|exact ak h
theorem rJ {es:List Expr}(h:cy es=true):es.any kr=false:=by
 induction es with
 |nil=>rfl
 |cons e r ih=>rw[List.any_cons,ng (be h).1,ih (be h).2];rfl
theorem gI {a b:Str}(h:sq a b=false):(a==b)=false:=fT fun e=>by rw[bh.mpr e]at h;cases h
def nh:List Str->Bool
 |[]=>true
 |a::r=>!(fJ r a)&&nh r
theorem ku {x:Str}:∀{l:List Str},x∈l->fJ l x=true
 |a::r,h=>by
  show @Bool.rec (fun zz=>Bool) (fJ r x) true (sq a x)=true;rcases aG h with rfl|h
  ·rw[bh.mpr rfl]
  ·cases sq a x with
   |true=>rfl
   |false=>exact ku h
theorem jW:∀{l:List Str},nh l=true->l.eraseDups.length=l.length
 |[]=>fun zz=>rfl
 |a::r=>fun h=>by
  have h1:=an1 h;have h2:=an2 h;have:r.filter (fun b=>!b==a)=r:=List.filter_eq_self.mpr fun b hb=>by
   rw[Bool.not_eq_true',beq_eq_false_iff_ne]
   rintro rfl
   rw[ku hb]at h1;cases h1
  rw[List.eraseDups_cons,this,List.length_cons,List.length_cons,jW h2]
def swL (sc:Scope) (ts:List Expr):List Str:=ts.filterMap (yj sc ((ts.head?.map (·.pos.line)).getD 0))
noncomputable def rK (n:Nat):Bool:=Nat.beq n 2||Nat.beq n 3
def swN {β:Type} (sc:Scope) (ts:List Expr) (value:Expr) (r:R β) (k:List Str->R β):R β:=match value with
 |.Tuple vs _ _=>itR (rK ts.length) (itR (Nat.beq (swL sc ts).length ts.length)
   (gd (Nat.beq vs.length ts.length&&cy vs&&nh (swL sc ts)&&!(vs.all (foldedForSure 8))&&!(vs.all (constantsAlone 8))) (k (swL sc ts))) r) r
 |_=>r
set_option backward.match.sparseCases true in
theorem kx {env:Env}{ts vs:List Expr}{k l:Nat}{pos vp:Pos}:swappedStores [.Tuple ts k pos] (.Tuple vs l vp) env=(
  if (!(ts.length==2||ts.length==3)||vs.length != ts.length||env.blockKind != .function)=true then pure none
  else if (vs.any kr)=true then pure none
  else if ((ts.filterMap (rI env ((ts.head?.map (·.pos.line)).getD 0))).length != ts.length||(ts.filterMap (rI env ((ts.head?.map (·.pos.line)).getD 0))).eraseDups.length != (ts.filterMap (rI env ((ts.head?.map (·.pos.line)).getD 0))).length)=true then pure none
  else if (vs.all (foldedForSure 8))=true then pure none
  else do
   if (vs.all (constantsAlone 8))=true then unsupported "assign.tuple-of-constant-expressions:order-of-the-stores"
   return some (ts.filterMap (rI env ((ts.head?.map (·.pos.line)).getD 0)))):=rfl
set_option tactic.hygienic true in
theorem Snd.swN {β:Type}{Φ:β->ST->Prop}{env:Env}{ts:List Expr}{value:Expr}{r:R β}{k:List Str->R β}{l:Nat}{pos:Pos}(hk:env.scope.kind=.function)(h:swappedStores [.Tuple ts l pos] value env=pure none->Snd r Φ)
  (h' :∀ns,swappedStores [.Tuple ts l pos] value env=pure (some ns)->Snd (k ns) Φ):Snd (swN env.scope ts value r k) Φ:=by
 induction value using bc<;>first|exact h rfl|skip
 rename_i vs l' vp;refine Snd.it (fun h1=>Snd.it (fun h2=>Snd.gd fun h3=>?_) fun h2=>h ?_) fun h1=>h ?_
 ·simp only[Bool.and_eq_true,Bool.not_eq_true']at h3;refine ay h3 fun h3'0 q5=>?_;clear h3;refine ay h3'0 fun h3'0'0 q4=>?_;clear h3'0;refine ay h3'0'0 fun h3'0'0'0 q3=>?_;clear h3'0'0;refine ay h3'0'0'0 fun q1 q2=>?_;clear h3'0'0'0;refine h' _ ?_;have hb:(env.blockKind != .function)=false:=by unfold Env.blockKind;rw[hk];rfl
  have e1:(ts.length==2||ts.length==3)=true:=by rw[dY,dY];exact h1
  rw[kx,lP];show (if (!(ts.length==2||ts.length==3)||vs.length != ts.length||env.blockKind != .function)=true then pure none else if (vs.any kr)=true then pure none
   else if ((swL env.scope ts).length != ts.length||(swL env.scope ts).eraseDups.length != (swL env.scope ts).length)=true then pure none else _)=_
  rw[e1,Nat.eq_of_beq_eq_true q1,hb,rJ q2,jW q3,Nat.eq_of_beq_eq_true h2,q4,q5];simp only[Bool.not_true,bne_self_eq_false,Bool.or_false,Bool.false_eq_true,if_false];rfl
 ·rw[kx,lP];have e2:((swL env.scope ts).length != ts.length)=true:=by rw[bne_iff_ne];exact Nat.ne_of_beq_eq_false h2
  split
  ·rfl
  ·split
   ·rfl
   ·show (if ((swL env.scope ts).length != ts.length||_)=true then _ else _)=_;rw[e2];rfl
 ·have e1:(ts.length==2||ts.length==3)=false:=by rw[dY,dY];exact h1
  rw[kx,e1];rfl
noncomputable def ipI (op:Operator)(a:AV)(j:Int):Option AV:=match op with
 |.Add=>match a with
  |.int i=>some (.int (Int.add i j))
  |.si k o=>some (.si k (Int.add o j))
  |.hi k o=>some (.hi k (Int.add o j))
  |_=>none
 |_=>none
abbrev SS:=Stmt->AF->ST->RS
noncomputable def cf:AFl->Bool|.next=>true|_=>false
def rL (st:SS):List Stmt->AF->ST->RS
 |[],fr,σ=>.ok (.next,fr) σ
 |s::r,fr,σ=>(st s fr σ).bind fun p σ'=>itR (cf p.1) (rL st r p.2 σ') (.ok p σ')
def asT (tb:Tb) (ex:EX) (si:SI) (ts:List Expr) (value:Expr) (fr:AF) (σ:ST):RS:=gd (fL value) ((ex value fr σ).bind fun v σ₁=>(lO v σ₁).bind fun es σ₂=>
 swN fr.sc ts value ((tgL tb ex si ts es fr σ₂).bind fun fr' σ₃=>.ok (.next,fr') σ₃) fun ns=>gd (Nat.beq ns.length es.length) ((nmL ns.reverse es.reverse fr σ₂).bind fun fr' σ₃=>.ok (.next,fr') σ₃))
noncomputable def dg:Expr->Bool
 |.Tuple ..|.List ..|.Starred ..=>false
 |_=>true
def as1 (tb:Tb) (ex:EX) (si:SI) (t value:Expr) (fr:AF) (σ:ST):RS:=gd (fL value&&dg t) ((ex value fr σ).bind fun v σ₁=>(tg1 tb ex si t v fr σ₁).bind fun fr' σ₂=>.ok (.next,fr') σ₂)
def D9 (tb:Tb) (ex:EX) (o:Expr) (x:Str) (op:Operator) (value:Expr) (fr:AF) (σ:ST):RS:=(ex o fr σ).bind fun u σ₁=>(rdA u x σ₁).bind fun old σ₂=>(ex value fr σ₂).bind fun v σ₃=>
 bV v fun j=>aE (ipI op old j) fun r=>(wrA tb u x r σ₃).bind fun zz σ₄=>.ok (.next,fr) σ₄
def asS (tb:Tb) (ex:EX) (si:SI) (t value:Expr) (fr:AF) (σ:ST):RS:=match t with
 |.Tuple tl _ _=>asT tb ex si tl value fr σ
 |t=>as1 tb ex si t value fr σ
def auS (tb:Tb) (ex:EX) (t:Expr) (op:Operator) (value:Expr) (fr:AF) (σ:ST):RS:=match t with
 |.Attribute o x _=>D9 tb ex o x op value fr σ
 |_=>.no
def reS (ex:EX) (e:Option Expr) (fr:AF) (σ:ST):RS:=match e with
 |some e=>(ex e fr σ).bind fun v σ₁=>.ok (.ret v,fr) σ₁
 |none=>.ok (.ret .non,fr) σ
def aaS (tb:Tb) (ex:EX) (si:SI) (tl:List Expr) (value:Expr) (fr:AF) (σ:ST):RS:=match tl with
 |[t]=>asS tb ex si t value fr σ
 |_=>.no
def stS (tb:Tb) (ex:EX) (ts:TS) (bl:BL) (si:SI) (ot:SS) (st:Stmt) (fr:AF) (σ:ST):RS:=match st with
 |.Return e _=>reS ex e fr σ
 |.Pass _=>.ok (.next,fr) σ
 |.Expr e _=>gd (fL e) ((ex e fr σ).bind fun zz σ₁=>.ok (.next,fr) σ₁)
 |.If t b o _=>(ts t fr σ).bind fun c σ₁=>itR c (bl b fr σ₁) (bl o fr σ₁)
 |.AugAssign t op value _=>auS tb ex t op value fr σ
 |.Assign tl value p=>(aaS tb ex si tl value fr σ).or (ot (.Assign tl value p) fr σ)
 |st=>ot st fr σ
def SOk (tb:Tb) (n:Nat) (st:SS):Prop:=∀{b fr σ r σ'},st b fr σ=.ok r σ'->∀{d V},d.tb=tb->Room d.A n->Tr d V fr σ (exec b d.ev) r.2 σ' (DF r.1)
section
variable {d:Dx}{V W:Vl}{fr fr':AF}{σ σ':ST}{s:Shared}{E:Value->Shared->Prop}{β γ:Type}
theorem Po.next {Q:Flow->Shared->Prop}(P:Po d V fr σ s (DF .next) Q):Po d V fr σ s DU (fun (_:Unit)=>Q .next):=fun zz h tk W le zz a=>P .next h tk W le trivial a
theorem eZ {fl:AFl}(h:cf fl=true):fl=.next:=by induction fl using AFl.casesOn<;>first|rfl|exact ak h
theorem zv {n:Nat}{st:SS}{tb:Tb}(is:SOk tb n st):BOk tb n (rL st):=by
 intro b
 induction b with
 |nil=>intro fr σ r σ' e d V ht rm;exact Snd.of e (Φ:=fun r σ'=>Tr d V fr σ (execs [] d.ev) r.2 σ' (DF r.1)) (Snd.ok fun s Q E a P=>wpAny_execs_nil (P.here a trivial))
 |cons x b ih=>
  intro fr σ r σ' e d V ht rm;subst ht;refine Snd.of e (Φ:=fun r σ'=>Tr d V fr σ (execs (x::b) d.ev) r.2 σ' (DF r.1)) (Snd.bind fun p σ₁ h1=>Snd.it (fun hn r σ' e s Q E a P=>?_) fun hn=>Snd.ok fun s Q E a P=>?_)
  ·refine wpAny_execs_cons (is h1 rfl rm _ _ _ a fun l h tk W le dl a₁=>?_);rw[eZ hn]at dl;rw[show l=.next from dl.is];exact ih e rfl rm _ _ _ a₁ (P.from le)
  ·refine wpAny_execs_cons (is h1 rfl rm _ _ _ a fun l h tk W le dl a₁=>?_);have q:=P l h tk W le dl a₁;obtain ⟨fl,fr₁⟩:=p
   induction fl using AFl.casesOn<;>induction l using Flow.casesOn<;>first|exact False.elim dl|exact ak hn.symm|exact q
theorem Ea {op:Operator}{a r:AV}{j:Int}{u:Value}{t:Tok}(e:ipI op a j=some r)(du:Den V a u):TE d V fr σ (inplaceOp op u (.int j t)) r σ:=fun s Q E a0 P=>by
 induction op using Operator.casesOn<;>first|exact ag e|skip
 induction a using aA<;>first|exact ag e|obtain rfl:=soo e
 ·refine av du fun zy du'1=>?_;clear du;obtain rfl:=du'1;exact PyProof.Rows.iadd_int (P.tok a0 ⟨_,rfl⟩ _)
 ·refine av du fun zy du'1=>?_;clear du;obtain rfl:=du'1;exact PyProof.Rows.iadd_int (P.tok a0 ⟨s.toks,by rw[Int.add_assoc];rfl⟩ _)
 ·refine aI du fun i zy du'2 hi=>?_;clear du;obtain rfl:=du'2;exact PyProof.Rows.iadd_int (P.tok a0 ⟨_,s.toks,rfl,Int.le_trans (Int.le_of_eq (Int.add_assoc _ _ _).symm) (Int.add_le_add_right hi _)⟩ _)
theorem zw {n:Nat}{ex:EX}(ie:EOk d.tb n ex)(rm:Room d.A n){o value:Expr}{x:Str}{op:Operator}{tpos pos:Pos}:Snd (D9 d.tb ex o x op value fr σ) fun r σ'=>Tr d V fr σ (exec (.AugAssign (.Attribute o x tpos) op value pos) d.ev) r.2 σ' (DF r.1):=
 Snd.bind fun u σ₁ h1=>Snd.bind fun old σ₂ h2=>Snd.bind fun v σ₃ h3=>Snd.int fun j hj=>Snd.opt fun r h4=>Snd.bind fun zz σ₄ h5=>Snd.ok fun s Q E a P=>
  wpAny_AugAssign_AttributeAny (ie h1 rfl rm _ _ _ a fun u h tk W le du a₁=>qY du _ _ h2 _ _ _ a₁ fun u' h' tk' W' le' du' a₂=>ie h3 rfl rm _ _ _ a₂ fun u'' h'' tk'' W'' le'' du'' a₃=>by
   rw[hj]at du'';refine av du'' fun t du'''1=>?_;clear du'';obtain rfl:=du'''1;exact Ea h4 (du'.mono le'') _ _ _ a₃ fun u3 h3' tk3 W3 le3 d3 a₄=>q8 (du.mono ((le'.trans le'').trans le3)) d3 _ _ h5 _ _ _ a₄ ((((P.next.from le).from le').from le'').from le3))
theorem zx {n:Nat}{ex:EX}{si:SI}(ie:EOk d.tb n ex)(is:eI d.tb si)(rm:Room d.A n){t value:Expr}{pos:Pos}:Snd (as1 d.tb ex si t value fr σ) fun r σ'=>Tr d V fr σ (exec (.Assign [t] value pos) d.ev) r.2 σ' (DF r.1):=
 Snd.gd fun hg=>Snd.bind fun v σ₁ h1=>Snd.bind fun fr₁ σ₂ h2=>Snd.ok fun s Q E a P=>by
  have hc:=an1 hg;have ht:=an2 hg;refine wpAny_Assign_stores (ie h1 rfl rm _ _ _ a fun u h tk W le du a₁=>?_) (bB hc) (by unfold swappedStores;induction t using bc<;>first|rfl|exact ak ht);rw[bE (by induction t using Expr.casesOn<;>first|rfl|exact ak ht)];exact gH ie is rm du _ _ h2 _ (fun zz=>Q .next) _ a₁ (P.next.from le)
theorem zA {n:Nat}{ex:EX}{si:SI}(ie:EOk d.tb n ex)(is:eI d.tb si)(rm:Room d.A n){ts:List Expr}{value:Expr}{k:Nat}{tp pos:Pos}(hsc:fr.sc=d.ev.scope)(hk:d.ev.scope.kind=.function) :
  Snd (asT d.tb ex si ts value fr σ) fun r σ'=>Tr d V fr σ (exec (.Assign [.Tuple ts k tp] value pos) d.ev) r.2 σ' (DF r.1):=
 Snd.gd fun hc=>Snd.bind fun v σ₁ h1=>Snd.bind fun es σ₂ h2=>hsc▸Snd.swN (l:=k) (pos:=tp) hk
  (fun hw=>Snd.bind fun fr₁ σ₃ h3=>Snd.ok fun s Q E a P=>Assign_Tuple (ie h1 rfl rm _ _ _ a fun u h tk W le du a₁=>rH ie is rm h2 du _ _ h3 _ (fun zz=>Q .next) _ a₁ (P.next.from le)) (by unfold swapsWithSole;exact bB hc) hw)
  (fun ns hw=>Snd.gd fun hl=>Snd.bind fun fr₁ σ₃ h3=>Snd.ok fun s Q E a P=>Assign_Tuple_swapped (ie h1 rfl rm _ _ _ a fun u h tk W le du a₁=>
   eJ h2 (aK hl) du _ _ _ a₁ fun us h' tk' W' le' ds a₂=>rF ds.rev _ _ h3 _ (fun zz=>Q .next) _ a₂ ((P.next.from le).from le')) (by unfold swapsWithSole;exact bB hc) hw)
theorem Eb {n:Nat}{ex:EX}{si:SI}(ie:EOk d.tb n ex)(is:eI d.tb si)(rm:Room d.A n){tl:List Expr}{value:Expr}{pos:Pos}:Snd (aaS d.tb ex si tl value fr σ) fun r σ'=>Tr d V fr σ (exec (.Assign tl value pos) d.ev) r.2 σ' (DF r.1):=
 match tl with
 |[]|_::_::_=>Snd.no
 |[t]=>by
  induction t using bc<;>first|exact zx ie is rm|exact fun r σ' e s Q E a P=>zA ie is rm a.l.sc a.c.hk r σ' e s Q E a P
theorem ow {n:Nat}{ex:EX}{ts:TS}{bl:BL}{si:SI}{ot:SS}{tb:Tb}(ie:EOk tb n ex)(it:TOk tb n ts)(ib:BOk tb n bl)(is:eI tb si)(io:SOk tb n ot):SOk tb n (stS tb ex ts bl si ot):=by
 intro b fr σ r σ' e d V ht rm;subst ht;refine Snd.of e (Φ:=fun r σ'=>Tr d V fr σ (exec b d.ev) r.2 σ' (DF r.1)) ?_
 induction b using Stmt.casesOn with
 |Return ro p=>induction ro using aF with
  |some x=>exact Snd.bind fun v σ₁ h1=>Snd.ok fun s Q E a P=>wpAny_Return_some (ie h1 rfl rm _ _ _ a fun u h tk W le du a₁=>P (.ret u) h tk W le du a₁)
  |none=>exact Snd.ok fun s Q E a P=>wpAny_Return_none (P.here a (u:=.ret .none) rfl)
 |Pass p=>exact Snd.ok fun s Q E a P=>wpAny_Pass (P.here a trivial)
 |Expr e p=>exact Snd.gd fun hc=>Snd.bind fun v σ₁ h1=>Snd.ok fun s Q E a P=>wpAny_Expr_any (ie h1 rfl rm _ _ _ a fun u h tk W le du a₁=>P .next h tk W le trivial a₁) (by unfold interactive;rw[a.c.hk];rfl) (bB hc)
 |If t b o p=>
  exact Snd.bind fun c σ₁ h1=>Snd.it
   (fun hb r σ' e s Q E a P=>wpAny_If (it h1 rfl rm _ _ _ a fun u h tk W le q a₁=>by rw[show u=c from q,hb];exact ib e rfl rm _ _ _ a₁ (P.from le)))
   (fun hb r σ' e s Q E a P=>wpAny_If (it h1 rfl rm _ _ _ a fun u h tk W le q a₁=>by rw[show u=c from q,hb];exact ib e rfl rm _ _ _ a₁ (P.from le)))
 |AugAssign t op value p=>induction t using bc with
  |Attribute o x tp=>exact zw ie rm
  |_=>exact Snd.no
 |Assign tl value p=>exact (Eb ie is rm).or fun r σ' e=>io e rfl rm
 |_=>exact fun r σ' e=>io e rfl rm
end
section
set_option genInjectivity true
set_option genSizeOfSpec true
noncomputable def Vl.addR (V:Vl)(i:Nat)(a:Addr):Vl:={ V with ρ:=fun j=>if j=i then some a else V.ρ j }
theorem Vl.addR_le {V:Vl}{i:Nat}{a:Addr}(h1:V.ρ i=none):V.le (V.addR i a):=by
 refine ⟨fun j c hj=>?_,fun zz zz h=>h,rfl,fun zz zz h=>h⟩;unfold Vl.addR;dsimp only;rw[if_neg];exact hj;rintro rfl;rw[h1]at hj;cases hj
theorem Vl.addR_ρ {V:Vl}{i:Nat}{a:Addr}:(V.addR i a).ρ i=some a:=by unfold Vl.addR;dsimp only;rw[if_pos rfl]
theorem Vx.addR {V:Vl}{n:Nat}{a:Addr}(v:Vx V n):Vx (V.addR n a) (n+1):=⟨fun i hi=>by
 refine bU (v.fresh i (Nat.le_of_succ_le hi)) fun f1 f2 f3=>?_;unfold Vl.addR;dsimp only;rw[if_neg (Nat.ne_of_gt hi)];exact ⟨f1,f2,f3⟩,v.num,v.txt⟩
noncomputable def ey (ao:AO)(σ:ST):ST:=⟨(σ.nx,ao)::σ.os,σ.nx+1⟩
def eK (ao:AO) (σ:ST):R AV:=.ok (.obj σ.nx) (ey ao σ)
section
variable {d:Dx}{V W:Vl}{fr fr':AF}{σ σ':ST}{s:Shared}{E:Value->Shared->Prop}{β γ:Type}
theorem Po.new {h':Heap}{tk:Nat}{D:Addr}{o:Obj}{ao:AO}{Q:Value->Shared->Prop}{m:Str->Option Value}{news:L2}(P:Po d V fr (ey ao σ) s (DE (.obj σ.nx)) Q)(a:At d V fr σ s)(x:Sx d V fr σ.os s.heap m news)
  (F':Fr d.h₀ d.f.L h' m) (N':News d.h₀ d.f.L h' ((D,o)::news)) (lt:∀q∈news,q.1≠D) (is:∀W,V.le W->W.ρ σ.nx=some D->Is d.w W d.tb.flds σ.nx ao [(D,o)]):Q (.ref D) { s with heap:=h',toks:=tk }:=by
 have le:=Vl.addR_le (a:=D) (a.v.fresh σ.nx (aP _)).1;refine P (.ref D) h' tk _ le ⟨D,Vl.addR_ρ,rfl⟩ (a.put le x F' N' (.cons (is _ le Vl.addR_ρ) (x.D.mono le)) ?_ a.v.addR);show (D::news.map (·.1)).Nodup;rw[List.nodup_cons];refine ⟨fun hm=>?_,x.nd⟩;refine aj (List.mem_map.mp hm) fun q hq e=>?_;exact lt q hq e
theorem cR {L:Addr}{h h₀:Heap}{news:L2}(N:News h₀ L h news):∀q∈news,q.1≠h.objs.size:=fun q hq=>bJ (Heap.lt_size (N q hq).1)
theorem Po.push {tk:Nat}{o:Obj}{ao:AO}{Q:Value->Shared->Prop}(P:Po d V fr (ey ao σ) s (DE (.obj σ.nx)) Q)(a:At d V fr σ s)(hf:o.isFreed=false)
  (is:∀W,V.le W->W.ρ σ.nx=some s.heap.objs.size->Is d.w W d.tb.flds σ.nx ao [(s.heap.objs.size,o)]):Q (.ref s.heap.objs.size) { s with heap:=s.heap.push o,toks:=tk }:=
 a.stK fun m news x=>P.new a x (x.F.push _) (News.push x.F x.N _ hf) (cR x.N) is
theorem dZ {vs:List AV}{us:List Value}{D:Addr}{i k:Nat}{w:World}{fl:FL}(q:Dens V vs us):∀W,V.le W->W.ρ i=some D->Is w W fl i (.lst vs) [(D,{ cls:=.type "list",data:=.seq us.toArray k })]:=fun zz le h=>.lst h (q.mono le)
theorem zB {vs:List AV}{us:List Value}{D:Addr}{i k:Nat}{w:World}{fl:FL}(q:Dens V vs us):∀W,V.le W->W.ρ i=some D->Is w W fl i (.tup vs) [(D,{ cls:=.type "tuple",data:=.seq us.toArray k })]:=fun zz le h=>.tup h (q.mono le)
end
noncomputable def txL:AV->Option Nat
 |.str a=>some a.length
 |.ut n=>some n
 |.ss p _ q=>some (p.length+q.length+1000)
 |_=>none
noncomputable def Ec (a b:AV)(n m:Nat):AV:=match a with
 |.str x=>match b with
  |.str y=>.str (x++y)
  |.ss p k q=>.ss (x++p) k q
  |_=>.ut (n+m)
 |.ss p k q=>match b with
  |.str y=>.ss p k (q++y)
  |_=>.ut (n+m)
 |_=>.ut (n+m)
def Ed (a b:AV) (σ:ST):R AV:=aE (txL a) fun n=>aE (txL b) fun m=>gd (Nat.ble (n+m) 1000000) (.ok (Ec a b n m) σ)
noncomputable def rep {α:Type}:Nat->List α->List α
 |0,_=>[]
 |n+1,l=>l++rep n l
noncomputable def rM:Int->Bool
 |.ofNat (_+1)=>true
 |_=>false
def rN (a b:AV) (σ:ST):R AV:=bz a σ fun zz es=>bz b σ fun zz fs=>gd (Nat.ble (es.length+fs.length) 1000) (eK (.lst (es++fs)) σ)
def rO (a b:AV) (σ:ST):R AV:=bz a σ fun zz es=>bV b fun j=>gd (Z.leB 0 j&&(Nat.ble (es.length*j.toNat) 256&&Nat.ble j.toNat 1000)) (eK (.lst (rep j.toNat es)) σ)
def rP (k:Int->Int->Int) (a b:AV) (σ:ST):R AV:=bV a fun i=>bV b fun j=>.ok (.int (k i j)) σ
noncomputable def arE:AV->Option Ae
 |.int i=>some (.c i)
 |.si k o=>some (.add (.v k) (.c o))
 |.ar e=>some e
 |_=>none
def yk (a b:AV) (σ:ST):R AV:=bV b fun j=>match a with
 |.si k o=>.ok (.si k (Int.add o j)) σ
 |.hi k o=>.ok (.hi k (Int.add o j)) σ
 |_=>.no
def Ee (a b:AV) (σ:ST):R AV:=aE (arE a) fun x=>aE (arE b) fun y=>.ok (.ar (.add x y)) σ
def Ef (op:Operator) (a b:AV) (σ:ST):R AV:=match op with
 |.Add=>(rP Int.add a b σ).or ((yk a b σ).or ((rN a b σ).or ((Ed a b σ).or (Ee a b σ))))
 |.Sub=>rP Int.sub a b σ
 |.Mod=>bV b fun j=>gd (rM j) ((bV a fun i=>.ok (.int (Int.fmod i j)) σ).or (aE (arE a) fun x=>.ok (.ar (.md x j)) σ))
 |.Mult=>(rO a b σ).or (bV a fun i=>gd (Nat.blt i.natAbs 1000000000000) (bV b fun j=>.ok (.int (Int.mul i j)) σ))
 |.FloorDiv=>bV b fun j=>gd (rM j&&Nat.blt j.natAbs 1000000000) (aE (arE a) fun x=>.ok (.ar (.dv x j)) σ)
 |_=>.no
def biE (ex:EX) (l:Expr) (op:Operator) (r:Expr) (fr:AF) (σ:ST):R AV:=(ex l fr σ).bind fun a σ₁=>(ex r fr σ₁).bind fun b σ₂=>Ef op a b σ₂
def vR (ex:EX) (k:List AV->AO) (es:List Expr) (fr:AF) (σ:ST):R AV:=(evs ex es fr σ).bind fun vs σ₁=>gd (Nat.ble vs.length 1000) (eK (k vs) σ₁)
section
variable {d:Dx}{V W:Vl}{fr fr':AF}{σ σ':ST}{s:Shared}{E:Value->Shared->Prop}{β γ:Type}
theorem kz (a b:List Nat):(⟨a.toArray⟩:Str)++(⟨b.toArray⟩:Str)=⟨(a++b).toArray⟩:=by
 show Str.mk (a.toArray++b.toArray)=_;rw[List.append_toArray]
theorem d6 (a:List Nat):(⟨a.toArray⟩:Str).length=a.length:=List.size_toArray ..
theorem kB (x y:Str):(x++y).length=x.length+y.length:=by
 show (x.cps++y.cps).size=_;rw[Array.size_append];rfl
theorem bC:3000000<=sizeLine:=by rw[sizeLine_eq];decide
theorem i6 {a:AV}{n:Nat}{u:Value}(v:Vx V σ.nx)(e:txL a=some n)(du:Den V a u):∃x t,u=.str x t/\x.length<=n:=by
 induction a using aA<;>first|exact ag e|obtain rfl:=soo e
 ·refine av du fun t du'1=>?_;clear du;obtain rfl:=du'1;exact ⟨_,t,rfl,Nat.le_of_eq (d6 _)⟩
 ·refine aI du fun l t hl du'3=>?_;clear du;obtain rfl:=du'3;have:=(v.txt _ _ hl).len;exact ⟨_,t,rfl,by rw[d6,List.length_append,List.length_append];lia⟩
 ·refine aI du fun x t du'2 h=>?_;clear du;obtain rfl:=du'2;exact ⟨x,t,rfl,h⟩
theorem rQ {a b:AV}{n m:Nat}{x y:Str}{t t' t₁:Tok}(h1:x.length<=n)(h2:y.length<=m)(da:Den V a (.str x t))(db:Den V b (.str y t')):Den V (Ec a b n m) (.str (x++y) t₁):=by
 have ut:Den V (.ut (n+m)) (.str (x++y) t₁):=⟨_,t₁,rfl,by rw[kB];exact Nat.add_le_add h1 h2⟩
 induction a using aA<;>first|exact ut|skip
 ·refine av da fun zy ea=>?_;clear da;injection ea with ea
  subst ea
  induction b using aA<;>first|exact ut|skip
  ·refine av db fun zy eb=>?_;clear db;injection eb with eb
   subst eb;exact ⟨t₁,by rw[kz]⟩
  ·refine aI db fun l zy hl eb=>?_;clear db;injection eb with eb
   subst eb;exact ⟨l,t₁,hl,by rw[kz];simp⟩
 ·induction b using aA<;>first|exact ut|skip
  refine aI da fun l zy hl ea=>?_;clear da;injection ea with ea
  subst ea;refine av db fun zy eb=>?_;clear db;injection eb with eb
  subst eb;exact ⟨l,t₁,hl,by rw[kz];simp⟩
theorem zC {a b:AV}{u v:Value}(da:Den V a u)(db:Den V b v):Snd (Ed a b σ) (TE d V fr σ (binaryOp .Add u v)):=
 Snd.opt fun n ha=>Snd.opt fun m hb=>Snd.gd fun hl=>Snd.ok fun s Q E at_ P=>by
  refine aI (i6 at_.v ha da) fun x t z'2 h1=>?_;obtain rfl:=z'2;refine aI (i6 at_.v hb db) fun y t' z'2 h2=>?_;obtain rfl:=z'2;have hl:=az hl;exact SBL.add (fun t k zz=>P.tok at_ (rQ h1 h2 da db) k) (by have:=bC;lia)
theorem rR {α:Type}(n:Nat)(l:List α):(List.replicate n l).flatten=rep n l:=by
 induction n with
 |zero=>rfl
 |succ n ih=>rw[List.replicate_succ,List.flatten_cons,ih];rfl
theorem Dens.rep {a:List AV}{b:List Value}(h:Dens V a b):∀n,Dens V (rep n a) (rep n b)
 |0=>trivial
 |n+1=>h.app (Dens.rep h n)
theorem qc {a b:AV}{u v:Value}(da:Den V a u)(db:Den V b v):Snd (rN a b σ) (TE d V fr σ (binaryOp .Add u v)):=
 Snd.lst fun i es hv ho=>Snd.lst fun j fs hw hp=>Snd.gd fun hl=>Snd.ok fun s Q E at_ P=>at_.stK fun m news X=>by
  refine bt (at_.lst hv ho da) fun x us z'2 zy d1 l1=>?_;obtain rfl:=z'2;refine bt (at_.lst hw hp db) fun y vs z'2 zy d2 l2=>?_;obtain rfl:=z'2;have hl:=az hl;have e1:=d1.length;have e2:=d2.length;exact add_lists X.F X.N l1 l2 (fun h' F' N'=>P.new at_ X F' N' (cR X.N) (dZ (d1.app d2))) (by have:=bC;lia)
theorem qe {a b:AV}{u v:Value}(da:Den V a u)(db:Den V b v):Snd (rO a b σ) (TE d V fr σ (binaryOp .Mult u v)):=
 Snd.lst fun i es hv ho=>Snd.int fun j hj=>Snd.gd fun hg=>Snd.ok fun s Q E at_ P=>at_.stK fun m news X=>by
  have z1:=an1 hg;have z:=an2 hg;have z2:=an1 z;have z3:=an2 z;have z1:=(Z.leB_iff _ _).mp z1;have z2:=az z2;have z3:=az z3;refine bt (at_.lst hv ho da) fun x us z'2 zy d1 l1=>?_;obtain rfl:=z'2;rw[hj]at db;refine av db fun zy db'1=>?_;clear db;obtain rfl:=db'1;exact KMa.mul X.F X.N l1 (by lia) (by lia) (by rw[d1.length];exact z2) (rR _ _) fun D h' F' N' lt=>P.new at_ X F' N' (fun q hq=>bJ (lt q hq)) (dZ (d1.rep _))
theorem Den.i {a:AV}{i:Int}{u:Value}(h:a=.int i)(du:Den V a u):∃t,u=.int i t:=by rw[h]at du;exact du
theorem lQ {op:Operator}{k:Int->Int->Int}{a b:AV}{u v:Value}(da:Den V a u)(db:Den V b v)(rule:∀{i j:Int} {t t':Tok} {Q:Value->Shared->Prop} {E s},(Q (.int (k i j) s.toks) { s with toks:=s.toks+1 })->wpAny d.M d.A (binaryOp op (.int i t) (.int j t')) Q E s) :
  Snd (rP k a b σ) (TE d V fr σ (binaryOp op u v)):=
 Snd.int fun i hi=>Snd.int fun j hj=>Snd.ok fun s Q E at_ P=>by
  refine av (da.i hi) fun zy z'1=>?_;obtain rfl:=z'1;refine av (db.i hj) fun zy z'1=>?_;obtain rfl:=z'1;exact rule (P.tok at_ ⟨_,rfl⟩ _)
theorem rS {a b:AV}{u v:Value}(da:Den V a u)(db:Den V b v):Snd (yk a b σ) (TE d V fr σ (binaryOp .Add u v)):=
 Snd.int fun j hj=>by
  refine av (db.i hj) fun zy z'1=>?_;obtain rfl:=z'1
  induction a using aA<;>first|exact Snd.no|skip
  ·refine av da fun zy da'1=>?_;clear da;obtain rfl:=da'1;exact Snd.ok fun s Q E at_ P=>PyProof.Rows.add_int (P.tok at_ ⟨s.toks,by rw[Int.add_assoc];rfl⟩ _)
  ·refine aI da fun i zy da'2 hi=>?_;clear da;obtain rfl:=da'2;exact Snd.ok fun s Q E at_ P=>PyProof.Rows.add_int (P.tok at_ ⟨_,s.toks,rfl,Int.le_trans (Int.le_of_eq (Int.add_assoc _ _ _).symm) (Int.add_le_add_right hi _)⟩ _)
theorem kC {a:AV}{x:Ae}{u:Value}(e:arE a=some x)(du:Den V a u):∃t,u=.int (x.val V.ι) t:=by
 induction a using aA<;>first|exact ag e|(obtain rfl:=soo e;exact du)
theorem i7 {j:Int}(h:rM j=true):j≠0:=by rintro rfl;exact ak h
theorem yl {i:Int}(h:i.natAbs < 1000000000000) : -1000000000000 < i/\i < 1000000000000:=by lia
theorem zD {op:Operator}{a b:AV}{u v:Value}(da:Den V a u)(db:Den V b v):Snd (Ef op a b σ) (TE d V fr σ (binaryOp op u v)):=by
 induction op using Operator.casesOn with
 |Add=>
  exact (lQ da db fun h=>PyProof.Rows.add_int h).or ((rS da db).or ((qc da db).or ((zC da db).or (Snd.opt fun x h1=>Snd.opt fun y h2=>Snd.ok fun s Q E at_ P=>by
   refine av (kC h1 da) fun zy z'1=>?_;obtain rfl:=z'1;refine av (kC h2 db) fun zy z'1=>?_;obtain rfl:=z'1;exact PyProof.Rows.add_int (P.tok at_ ⟨s.toks,rfl⟩ _)))))
 |Sub=>exact lQ da db fun h=>PyProof.Rows.sub_int h
 |Mod=>
  exact Snd.int fun j hj=>Snd.gd fun hp=>(Snd.int fun i hi=>Snd.ok fun s Q E at_ P=>by
   refine av (da.i hi) fun zy z'1=>?_;obtain rfl:=z'1;refine av (db.i hj) fun zy z'1=>?_;obtain rfl:=z'1;exact PyProof.Rows.mod_int' (i7 hp) (P.tok at_ ⟨_,rfl⟩ _)).or (Snd.opt fun x h1=>Snd.ok fun s Q E at_ P=>by
   refine av (kC h1 da) fun zy z'1=>?_;obtain rfl:=z'1;refine av (db.i hj) fun zy z'1=>?_;obtain rfl:=z'1;exact PyProof.Rows.mod_int' (i7 hp) (P.tok at_ ⟨s.toks,rfl⟩ _))
 |Mult=>
  exact (qe da db).or (Snd.int fun i hi=>Snd.gd fun h=>Snd.int fun j hj=>Snd.ok fun s Q E at_ P=>by
   refine av (da.i hi) fun zy z'1=>?_;obtain rfl:=z'1;refine av (db.i hj) fun zy z'1=>?_;obtain rfl:=z'1;have h:=az h;exact PySem.P.mul_int (P.tok at_ ⟨s.toks,rfl⟩ _) (IntMulOk.of_left (intBits_le_64 (Int.lt_trans (by decide +kernel) (yl h).1) (Int.lt_trans (yl h).2 (by decide +kernel)))))
 |FloorDiv=>
  exact Snd.int fun j hj=>Snd.gd fun hg=>Snd.opt fun x h1=>Snd.ok fun s Q E at_ P=>by
   have hp:=an1 hg;have hb:=an2 hg;refine av (kC h1 da) fun zy z'1=>?_;obtain rfl:=z'1;refine av (db.i hj) fun zy z'1=>?_;obtain rfl:=z'1;have hb:=az hb;exact PyProof.Rows.floordiv_int (i7 hp) (P.tok at_ ⟨s.toks,rfl⟩ _) (.inl (PyProof.noPylong_small (Nat.lt_trans hb (by decide))))
 |_=>exact Snd.no
theorem Eg {n:Nat}{ex:EX}(ie:EOk d.tb n ex)(rm:Room d.A n){l r:Expr}{op:Operator}{pos:Pos}:Snd (biE ex l op r fr σ) (TE d V fr σ (eval (.BinOp l op r pos) d.ev)):=
 Snd.bind fun a σ₁ h1=>Snd.bind fun b σ₂ h2=>fun v σ' e s Q E at_ P=>wpAny_BinOp (ie h1 rfl rm _ _ _ at_ fun u h tk W le du a₁=>ie h2 rfl rm _ _ _ a₁ fun u' h' tk' W' le' du' a₂=>
  zD (du.mono le') du' v σ' e _ _ _ a₂ ((P.from le).from le'))
theorem vS {n:Nat}{ex:EX}(ie:EOk d.tb n ex)(rm:Room d.A n){es:List Expr}{pos:Pos}:Snd (vR ex .lst es fr σ) (TE d V fr σ (eval (.List es pos) d.ev)):=
 Snd.bind fun vs σ₁ h1=>Snd.gd fun hl=>Snd.ok fun s Q E a P=>wpAny_List (dT ie rm h1 _ _ _ a fun us h tk W le ds a₁=>by
  have hl:=az hl;exact ⟨by rw[Dens.length ds];have:=bC;lia,(P.from le).push (tk:=tk) a₁ rfl (dZ ds)⟩)
theorem vU {n:Nat}{ex:EX}(ie:EOk d.tb n ex)(rm:Room d.A n){es:List Expr}{k:Nat}{pos:Pos}:Snd (vR ex .tup es fr σ) (TE d V fr σ (eval (.Tuple es k pos) d.ev)):=
 Snd.bind fun vs σ₁ h1=>Snd.gd fun hl=>Snd.ok fun s Q E a P=>wpAny_Tuple (dT ie rm h1 _ _ _ a fun us h tk W le ds a₁=>by
  have hl:=az hl;exact ⟨by rw[Dens.length ds];have:=bC;lia,(P.from le).push (tk:=tk) a₁ rfl (zB ds)⟩)
end
end
section
set_option genInjectivity true
set_option genSizeOfSpec true
section
variable {prog:Program}{w:World}{A:Around}{E:Value->Shared->Prop}{s:Shared}{it d:Addr}{oi od:Obj}{es:Array DictEntry}{i ep:Nat}
def ItAt (T:String) (h:Heap) (it d:Addr) (i n ep:Nat):Prop:=∃o,h.get? it=some o/\o.cls=.type T/\o.data=.fields #[.ref d,.int i 0,.int n 0,.int ep 0]
theorem ItAt.typeIs {T:String}{n:Nat}(x:ItAt T s.heap it d i n ep):s.TypeIs (.ref it) T:=let ⟨o,ho,hc,_⟩:=x;⟨o,ho,hc⟩
theorem gf {T:String}{n:Nat}(x:ItAt T s.heap it d i n ep):ItAt T (s.heap.update it (Obj.mapFields (·.setIfInBounds 1 (rawInt ((i:Int)+1))))) it d (i+1) n ep:=by
 refine cq x fun o ho hc hd=>?_;clear x;exact ⟨_,Heap.get?_update_self _ ho (Obj.isFreed_of_fields (Obj.data_mapFields hd _)),(Obj.cls_mapFields ..).trans hc,by rw[Obj.data_mapFields hd];simp [rawInt]⟩
theorem rT {Q:Option Value->Shared->Prop}(x:ItAt "dict_keyiterator" s.heap it d i es.size ep) (hod:s.heap.get? d=some od) (hdd:od.data=.dict es ep) (hlt:i < es.size)
  (hQ:∀h',ItAt "dict_keyiterator" h' it d (i+1) es.size ep->Heap.SameBut it s.heap h'->Q (some es[i].key) { s with heap:=h' }):wpAny (model prog w) A (pyNext (.ref it)) Q E s:=by
 have hT:=x.typeIs;refine cq (id x) fun o ho hc hd=>?_;unfold pyNext;refine af (wpAny_attempt (wpAny_callSpecial?_slot (name:=Str.ofString "__next__") hT PySem.F.slot_dict_keyiterator_next
  (wpAny_call_entry PySem.F.slot_dict_keyiterator_next hT PySem.F.entry_dict_keyiterator_next ?_ (PySem.F.args_dict_keyiterator_next_1 _))))
 refine af (au (af (af ?_)))
 first|refine af (wpAny_typeNameOfWhole_keyiter hT (au ?_))|refine af (wpAny_typeNameOf_keyiter hT (au ?_))
 refine af (wpAny_fieldsOf ho hd ?_);rw[show Builtin.Dict_items.ownsTuple "dict_keyiterator" = false by decide,if_neg Bool.false_ne_true];show wpAny _ _ (if (Value.ref d==Value.none)=true then _ else _) _ _ s;rw[if_neg (show ¬ ((Value.ref d==Value.none)=true) from Bool.false_ne_true)];refine af (au (af (wpAny_dictEntries hod hdd ?_)));rw[if_neg (by simp)];refine af (au (af (wpAny_dictEpoch hod hdd ?_)));rw[if_neg (by simp)];refine au ?_;simp only[show ¬ ((i:Int) < 0) from by lia,if_false,Int.toNat_natCast,Array.getElem?_eq_getElem hlt];refine af ?_
 first|refine af (wpAny_typeNameOfWhole_keyiter hT (au ?_))|refine af (wpAny_typeNameOf_keyiter hT (au ?_))
 refine af (wpAny_isOneOf_keyiter hT ?_);show wpAny _ _ (setField (.ref it) 1 (rawInt ((i:Int)+1)) >>= _) _ _ s;refine af (wpAny_setField ho hd (by simp) (af (wpAny_holding ?_)));refine af (wpAny_isOneOf_keyiter (s:={ s with heap:=s.heap.update it (Obj.mapFields (·.setIfInBounds 1 (rawInt ((i:Int)+1)))) }) (gf x).typeIs ?_);show wpAny _ _ (pure es[i].key) _ _ _;exact au (au ⟨_,rfl,au (hQ _ (gf x) (Heap.SameBut.update ..))⟩)
theorem rU {Q:Option Value->Shared->Prop}(x:ItAt "dict_valueiterator" s.heap it d i es.size ep) (hod:s.heap.get? d=some od) (hdd:od.data=.dict es ep) (hlt:i < es.size)
  (hQ:∀h',ItAt "dict_valueiterator" h' it d (i+1) es.size ep->Heap.SameBut it s.heap h'->Q (some es[i].val) { s with heap:=h' }):wpAny (model prog w) A (pyNext (.ref it)) Q E s:=by
 have hT:=x.typeIs;refine cq (id x) fun o ho hc hd=>?_;unfold pyNext;refine af (wpAny_attempt (wpAny_callSpecial?_slot (name:=Str.ofString "__next__") hT PySem.F.slot_dict_valueiterator_next
  (wpAny_call_entry PySem.F.slot_dict_valueiterator_next hT PySem.F.entry_dict_valueiterator_next ?_ (PySem.F.args_dict_valueiterator_next_1 _))))
 refine af (au (af (af ?_)))
 first|refine af (wpAny_typeNameOfWhole_valiter hT (au ?_))|refine af (wpAny_typeNameOf_valiter hT (au ?_))
 refine af (wpAny_fieldsOf ho hd ?_);rw[show Builtin.Dict_items.ownsTuple "dict_valueiterator" = false by decide,if_neg Bool.false_ne_true];show wpAny _ _ (if (Value.ref d==Value.none)=true then _ else _) _ _ s;rw[if_neg (show ¬ ((Value.ref d==Value.none)=true) from Bool.false_ne_true)];refine af (au (af (wpAny_dictEntries hod hdd ?_)));rw[if_neg (by simp)];refine af (au (af (wpAny_dictEpoch hod hdd ?_)));rw[if_neg (by simp)];refine au ?_;simp only[show ¬ ((i:Int) < 0) from by lia,if_false,Int.toNat_natCast,Array.getElem?_eq_getElem hlt];refine af ?_
 first|refine af (wpAny_typeNameOfWhole_valiter hT (au ?_))|refine af (wpAny_typeNameOf_valiter hT (au ?_))
 refine af (wpAny_isOneOf_valiter hT ?_);show wpAny _ _ (setField (.ref it) 1 (rawInt ((i:Int)+1)) >>= _) _ _ s;refine af (wpAny_setField ho hd (by simp) (af (wpAny_holding ?_)));refine af (wpAny_isOneOf_valiter (s:={ s with heap:=s.heap.update it (Obj.mapFields (·.setIfInBounds 1 (rawInt ((i:Int)+1)))) }) (gf x).typeIs ?_);refine af (wpAny_isOneOf_valiter (s:={ s with heap:=s.heap.update it (Obj.mapFields (·.setIfInBounds 1 (rawInt ((i:Int)+1)))) }) (gf x).typeIs ?_);show wpAny _ _ (pure es[i].val) _ _ _;exact au (au ⟨_,rfl,au (hQ _ (gf x) (Heap.SameBut.update ..))⟩)
theorem vV {Q:Option Value->Shared->Prop}(hh:A.handled=none)(x:ItAt "dict_keyiterator" s.heap it d i es.size ep) (hod:s.heap.get? d=some od) (hdd:od.data=.dict es ep) (hge:es.size<=i)
  (hQ:∀h',Heap.ExtBut it s.heap h'->Q none { s with heap:=h' }):wpAny (model prog w) A (pyNext (.ref it)) Q E s:=by
 have hT:=x.typeIs;refine cq (id x) fun o ho hc hd=>?_;unfold pyNext;refine af (wpAny_attempt (wpAny_callSpecial?_slot (name:=Str.ofString "__next__") hT PySem.F.slot_dict_keyiterator_next
  (wpAny_call_entry PySem.F.slot_dict_keyiterator_next hT PySem.F.entry_dict_keyiterator_next ?_ (PySem.F.args_dict_keyiterator_next_1 _))))
 refine af (au (af (af ?_)))
 first|refine af (wpAny_typeNameOfWhole_keyiter hT (au ?_))|refine af (wpAny_typeNameOf_keyiter hT (au ?_))
 refine af (wpAny_fieldsOf ho hd ?_);rw[show Builtin.Dict_items.ownsTuple "dict_keyiterator" = false by decide,if_neg Bool.false_ne_true];show wpAny _ _ (if (Value.ref d==Value.none)=true then _ else _) _ _ s;rw[if_neg (show ¬ ((Value.ref d==Value.none)=true) from Bool.false_ne_true)];refine af (au (af (wpAny_dictEntries hod hdd ?_)));rw[if_neg (by simp)];refine af (au (af (wpAny_dictEpoch hod hdd ?_)));rw[if_neg (by simp)];refine au ?_;simp only[show ¬ ((i:Int) < 0) from by lia,if_false,Int.toNat_natCast,Array.getElem?_eq_none hge];refine af ?_
 first|refine af (wpAny_typeNameOfWhole_keyiter hT (au ?_))|refine af (wpAny_typeNameOf_keyiter hT (au ?_))
 show wpAny _ _ (setField (.ref it) 0 .none >>= _) _ _ s;refine af (wpAny_setField ho hd (by simp) ?_);show wpAny _ _ (newExc (.type "StopIteration") [] >>= _) _ _ _;refine af ?_;simp only[newExc,newTuple];refine af (wpAny_newObj_type ?_ (by size_fits));refine af (m:=firstArgMember _ _) (wpAny_of_eq (a:=Value.none) (by first|rfl|(simp only[firstArgMember];rfl)) ?_);refine wpAny_newObj_type ?_ (by size_fits);simp only[raiseNew];refine af (wpAny_handled ?_);rw[show A.in1.handled=none from hh];refine af (au (wpAny_throw ?_));refine af (wpAny_isInstance (T:="StopIteration") (b:=true) ⟨_,Heap.get?_push_size _ rfl,rfl⟩ isSubtype_stop ?_);exact au (hQ _ (((Heap.SameBut.update ..).extBut.push _).push _))
theorem vW {Q:Option Value->Shared->Prop}(hh:A.handled=none)(x:ItAt "dict_valueiterator" s.heap it d i es.size ep) (hod:s.heap.get? d=some od) (hdd:od.data=.dict es ep) (hge:es.size<=i)
  (hQ:∀h',Heap.ExtBut it s.heap h'->Q none { s with heap:=h' }):wpAny (model prog w) A (pyNext (.ref it)) Q E s:=by
 have hT:=x.typeIs;refine cq (id x) fun o ho hc hd=>?_;unfold pyNext;refine af (wpAny_attempt (wpAny_callSpecial?_slot (name:=Str.ofString "__next__") hT PySem.F.slot_dict_valueiterator_next
  (wpAny_call_entry PySem.F.slot_dict_valueiterator_next hT PySem.F.entry_dict_valueiterator_next ?_ (PySem.F.args_dict_valueiterator_next_1 _))))
 refine af (au (af (af ?_)))
 first|refine af (wpAny_typeNameOfWhole_valiter hT (au ?_))|refine af (wpAny_typeNameOf_valiter hT (au ?_))
 refine af (wpAny_fieldsOf ho hd ?_);rw[show Builtin.Dict_items.ownsTuple "dict_valueiterator" = false by decide,if_neg Bool.false_ne_true];show wpAny _ _ (if (Value.ref d==Value.none)=true then _ else _) _ _ s;rw[if_neg (show ¬ ((Value.ref d==Value.none)=true) from Bool.false_ne_true)];refine af (au (af (wpAny_dictEntries hod hdd ?_)));rw[if_neg (by simp)];refine af (au (af (wpAny_dictEpoch hod hdd ?_)));rw[if_neg (by simp)];refine au ?_;simp only[show ¬ ((i:Int) < 0) from by lia,if_false,Int.toNat_natCast,Array.getElem?_eq_none hge];refine af ?_
 first|refine af (wpAny_typeNameOfWhole_valiter hT (au ?_))|refine af (wpAny_typeNameOf_valiter hT (au ?_))
 show wpAny _ _ (setField (.ref it) 0 .none >>= _) _ _ s;refine af (wpAny_setField ho hd (by simp) ?_);show wpAny _ _ (newExc (.type "StopIteration") [] >>= _) _ _ _;refine af ?_;simp only[newExc,newTuple];refine af (wpAny_newObj_type ?_ (by size_fits));refine af (m:=firstArgMember _ _) (wpAny_of_eq (a:=Value.none) (by first|rfl|(simp only[firstArgMember];rfl)) ?_);refine wpAny_newObj_type ?_ (by size_fits);simp only[raiseNew];refine af (wpAny_handled ?_);rw[show A.in1.handled=none from hh];refine af (au (wpAny_throw ?_));refine af (wpAny_isInstance (T:="StopIteration") (b:=true) ⟨_,Heap.get?_push_size _ rfl,rfl⟩ isSubtype_stop ?_);exact au (hQ _ (((Heap.SameBut.update ..).extBut.push _).push _))
theorem rV {Q:Value->Shared->Prop}(hT:s.TypeIs (.ref d) "dict") (hod:s.heap.get? d=some od) (hdd:od.data=.dict es ep) (lo:(d==sysModules)=false)
  (hQ:Q (.ref s.heap.objs.size) { s with heap:=s.heap.push { cls:=.type "dict_keyiterator",data:=.fields #[.ref d,.int 0 0,.int es.size 0,.int ep 0] } }):wpAny (model prog w) A (pyIter (.ref d)) Q E s:=by
 refine wpAny_pyIter_slot hT PySem.F.slot_dict_iter (wpAny_call_entry PySem.F.slot_dict_iter hT PySem.F.entry_dict_iter ?_ (PySem.F.args_dict_iter_1 _));unfold Builtin.«dict.__iter__» Builtin.Dict.dictSlotNone;refine af (af (wpAny_notOrdered_dict hT ?_));show wpAny _ _ (pure (Value.ref d)) _ _ s;refine au ?_;show wpAny _ _ (Builtin.Dict.showsAll d >>= _) _ _ s;unfold Builtin.Dict.showsAll;rw[if_neg (by rw[lo];exact Bool.false_ne_true)];refine af (au (af (wpAny_dictEntries hod hdd (af (wpAny_dictEpoch hod hdd ?_)))));refine af (wpAny_newObj_type (au ⟨_,rfl,"dict_keyiterator",_,⟨_,Heap.get?_push_size _ rfl,rfl⟩,PySem.F.slot_dict_keyiterator_next.lookup,?_⟩));exact hQ
theorem rW {Q:Value->Shared->Prop}(hT:s.TypeIs (.ref d) "dict") (lo:(d==sysModules)=false)
  (hQ:Q (.ref s.heap.objs.size) { s with heap:=s.heap.push { cls:=.type "dict_values",data:=.fields #[.ref d] } }):wpAny (model prog w) A (call (.builtin "dict.values") [.ref d]) Q E s:=by
 refine wpAny_call_entry PySem.F.slot_dict_values hT PySem.F.entry_dict_values ?_ (PySem.F.args_dict_values_1 _);refine af ?_;unfold Builtin.Dict.noArgs;refine af (wpAny_notOrdered_dict hT ?_);show wpAny _ _ (pure d) _ _ s;refine au ?_;show wpAny _ _ (Builtin.Dict.showsAll d >>= _) _ _ s;unfold Builtin.Dict.showsAll;rw[if_neg (by rw[lo];exact Bool.false_ne_true)];exact af (au (af (wpAny_newObj_type (au ⟨_,rfl,hQ⟩))))
theorem rX {v:Addr}{Q:Value->Shared->Prop}(hv:s.heap.IsValuesView v d)(hod:s.heap.get? d=some od)(hdd:od.data=.dict es ep)
  (hQ:Q (.ref s.heap.objs.size) { s with heap:=s.heap.push { cls:=.type "dict_valueiterator",data:=.fields #[.ref d,.int 0 0,.int es.size 0,.int ep 0] } }):wpAny (model prog w) A (pyIter (.ref v)) Q E s:=by
 refine cq (id hv) fun ov hov hcv hdv=>?_;refine wpAny_pyIter_slot hv.typeIs PySem.F.slot_dict_values_iter (wpAny_call_entry PySem.F.slot_dict_values_iter hv.typeIs PySem.F.entry_dict_values_iter ?_ (PySem.F.args_dict_values_iter_1 _));unfold Builtin.«dict_values.__iter__»;refine af (au (af ?_));unfold Builtin.Dict_items.dictOf;refine af (wpAny_field hov hdv (x:=.ref d) rfl (au (af ?_)));unfold Builtin.Dict_items.newIterator;refine af (wpAny_dictEntries hod hdd (af (wpAny_dictEpoch hod hdd ?_)));simp only[show Builtin.Dict_items.ownsTuple "dict_valueiterator" = false by decide,Bool.false_eq_true,if_false];exact wpAny_newObj_type (au ⟨_,rfl,"dict_valueiterator",_,⟨_,Heap.get?_push_size _ rfl,rfl⟩,PySem.F.slot_dict_valueiterator_next.lookup,hQ⟩)
end
end
section
set_option genInjectivity true
set_option genSizeOfSpec true
section
variable {prog:Program}{w:World}{A:Around}{E:Value->Shared->Prop}{s:Shared}{a:Addr}
theorem vX:typeLookup (.type "list") "keys" = pure none:=by rw[typeLookup_type,builtinLookup_eq_fast];kernel_rfl
theorem qf {Q:Option Value->Shared->Prop}{xs:Array Value}{k:Nat}(hx:s.heap.get? a=some { cls:=.type "list",data:=.seq xs k }) (hA:A.handled=none)
  (hq:∀h' tk,(∀b o,s.heap.get? b=some o->h'.get? b=some o)->Q none { s with heap:=h',toks:=tk }):wpAny (model prog w) A (getAttr? (.ref a) "keys") Q E s:=by
 obtain ⟨hp,g,d,tk,os⟩:=s;have hT:∀tk',(⟨hp,g,d,tk',os⟩:Shared).TypeIs (.ref a) "list":=fun zz=>⟨_,hx,rfl⟩
 have f1:=sub_AttributeError;have f3:=PySem.F.slot_list_getattribute.lookup;have f4:=PySem.F.slot_list_getattribute.bind (.ref a);have f5:=am_list_getattr_none;unfold getAttr? getAttrBy? getAttrBy
 repeat (any_goals (first|assumption|exact hT _|((with_reducible show wpAny _ _ (call (Value.builtin "list.__getattribute__") _ _) _ _ _);refine call_meets PySem.F.slot_list_getattribute (hT _) am_entry_list_getattribute (PySem.F.args_list_getattribute_2 _ _) (meets_getattribute_miss_list a xs k #[] "keys" _ vX (by decide +kernel)) ⟨hx,hA,fun h' tk' e hx'=>?_⟩)|wp_step))
 refine dP hx'.there fun t' u' he=>?_;have hke:∀b o,hp.get? b=some o->h'.get? b=some o:=hx'.of.keeps;show wpAny _ _ (getattributeRaised _ _ _ _ _ _ _) _ _ _;unfold getattributeRaised;have hE:∀tk',(⟨h',g,d,tk',os⟩:Shared).TypeIs (.ref e) "AttributeError":=fun zz=>⟨_,he,rfl⟩
 refine af (wpAny_isInstance (hE _) f1 ?_);rw[if_pos rfl];show wpAny _ _ (hookBehind _ none >>= _) _ _ _;refine af (wpAny_of_eq (a:=none) ?_ ?_)
 ·unfold hookBehind
  split
  ·rfl
  ·exact am_list_getattr_none
 ·unfold hookOrError attributeErrorLeaves;show wpAny _ _ (throw _) _ _ _;refine wpAny_throw ?_;show wpAny _ _ (isInstance _ _ >>= _) _ _ _;refine af (wpAny_isInstance (hE _) f1 ?_);rw[if_pos rfl];exact au (hq h' _ hke)
end
end
section
set_option genInjectivity true
set_option genSizeOfSpec true
section
variable {prog:Program}{w:World}{A:Around}{E:Value->Shared->Prop}{s:Shared}{a d:Addr}{od:Obj}{es:Array DictEntry}{ep:Nat}
noncomputable abbrev TK (prog:Program) (w:World):=tupleKind (strKind prog w)
theorem qg {Q:Value->Shared->Prop}(hT:s.TypeIs (.ref d) "dict") (ho:s.heap.get? d=some od) (hc:od.ExactDict) (hd:od.data=.dict es ep) (hz:es.size<=sizeLine)
  (hq:∀h' o',h'.get? d=some o'->o'.ExactDict->o'.data=.dict #[] (ep+1)->Heap.SameBut d s.heap h'->Q .none { s with heap:=h' }):wpAny (model prog w) A (call (.builtin "dict.clear") [.ref d]) Q E s:=by
 refine wpAny_call_entry PySem.F.slot_dict_clear hT PySem.F.entry_dict_clear ?_ (PySem.F.args_dict_clear_1 _);unfold Builtin.«dict.clear»;refine af ?_;unfold Builtin.Dict.noArgs;refine af (wpAny_notOrdered_dict hT ?_);show wpAny _ _ (pure d) _ _ s;refine au (af (wpAny_dictEntries ho hd (af ?_)));unfold bearsInstanceDictMark;refine af (wpAny_load ho (au ?_));refine af (wpAny_updateDictKeys (hz:=hz) ho hd ?_);have fin:=hq _ _ (Heap.get?_update_self (Obj.mapDictKeys fun zz=>#[]) ho (Obj.isFreed_of_dict (Obj.data_mapDictKeys hd _))) (hc.mapDictKeys _) (Obj.data_mapDictKeys hd _) (Heap.SameBut.update ..)
 split
 ·exact af (wpAny_letGo (au ⟨.none,rfl,fin⟩))
 ·exact af (au (au ⟨.none,rfl,fin⟩))
theorem rY {dv:Value}{Q:Value->Shared->Prop}(hT:s.TypeIs (.ref d) "dict") (lo:(d==sysModules)=false) (ho:s.heap.get? d=some od) (hd:od.data=.dict #[] ep) (hq:Q dv s) :
  wpAny (model prog w) A (call (.builtin "dict.pop") [.ref d,.ref a,dv]) Q E s:=by
 refine wpAny_call_entry PySem.F.slot_dict_pop hT PySem.F.entry_dict_pop ?_ (PySem.F.args_dict_pop_3 _ _ _);unfold Builtin.«dict.pop»;refine af ?_;unfold Builtin.Dict.keyAndDefault;refine af (wpAny_notOrdered_dict hT ?_);show wpAny _ _ (pure (d,Value.ref a,some dv)) _ _ s;refine au ?_;simp only[show (keyPart (Value.ref a)).isSome=false from rfl,Bool.false_eq_true,if_false];refine af (wpAny_dictEntries ho hd (af (au ?_)));simp only[show (#[]:Array DictEntry).isEmpty=true from rfl,if_true];refine af (wpAny_rule (af (au ?_)));simp only[Option.isNone_none,if_true];refine af (wpAny_missedRemoval_other lo ?_);exact af (wpAny_rule (au ⟨dv,rfl,hq⟩))
theorem r0 {ks:List Str}{ka:Addr}{u dv:Value}{Q:Value->Shared->Prop}(hu:A.units+1 < cLine)(hkey:(TK prog w).is s.heap ks a)(hm:s.heap.DictOfH (TK prog w) d [(ks,ka,u)])
  (hq:∀h' o' ep tk,h'.get? d=some o'->o'.ExactDict->o'.data=.dict #[] ep->Heap.SameBut d s.heap h'->Q u { s with heap:=h',toks:=tk }) :
  wpAny (model prog w) A (call (.builtin "dict.pop") [.ref d,.ref a,dv]) Q E s:=by
 have hT:=hm.typeIs;refine ir (id hm) fun o es ep ho hc hd he his hn=>?_;have hsz:=size_of_entries he;refine wpAny_call_entry PySem.F.slot_dict_pop hT PySem.F.entry_dict_pop ?_ (PySem.F.args_dict_pop_3 _ _ _);unfold Builtin.«dict.pop»;refine af ?_;unfold Builtin.Dict.keyAndDefault;refine af (wpAny_notOrdered_dict hT ?_);show wpAny _ _ (pure (d,Value.ref a,some dv)) _ _ s;refine au ?_;simp only[show (keyPart (Value.ref a)).isSome=false from rfl,Bool.false_eq_true,if_false];have hes:es = #[⟨(TK prog w).hash ks,.ref ka,u⟩]:=by apply jO;rw[he];rfl
 subst hes;refine af (wpAny_dictEntries ho hd (af (au ?_)));simp only[show (#[(⟨(TK prog w).hash ks,Value.ref ka,u⟩:DictEntry)]).isEmpty=false from rfl,Bool.false_eq_true,if_false];refine af ?_;unfold Builtin.Dict.takeOut;refine wpAny_holding ?_;refine af ((TK prog w).pyHash hu hkey ?_);refine af (wpAny_dictFind_heap (s:={ s with toks:=s.toks+(TK prog w).draws ks }) hu hkey ho hd he his hn (fun h=>absurd rfl (h 0 (ka,u))) fun j p hj=>?_);have hj0:j=0:=by
  cases j with
  |zero=>rfl
  |succ j=>simp at hj
 subst hj0;refine af (wpAny_dictEntries (s:={ s with toks:=s.toks+(TK prog w).draws ks }) ho hd ?_);show wpAny _ _ (updateDictKeys d (·.eraseIdxIfInBounds 0) _ >>= _) _ _ _;refine af (wpAny_updateDictKeys (hz:=by show 1<=sizeLine;have:=bC;lia) (s:={ s with toks:=s.toks+(TK prog w).draws ks }) ho hd (au ?_));simp only[Option.isNone_some,Bool.false_eq_true,if_false];refine af (wpAny_letGo (au ⟨u,rfl,?_⟩));exact hq _ _ (ep+1) _ (Heap.get?_update_self _ ho (Obj.isFreed_of_dict (Obj.data_mapDictKeys hd _))) (hc.mapDictKeys _) ((Obj.data_mapDictKeys hd (fun x=>x.eraseIdxIfInBounds 0)).trans (by simp [Array.eraseIdxIfInBounds])) (Heap.SameBut.update ..)
end
theorem eL:entryFor table "dict.update.loop" = some Builtin.«dict.update.loop»:=entryFor_of_fast (by kernel_rfl)
theorem cg:plainId "dict.update.loop" = true:=by decide +kernel
section
variable {prog:Program}{w:World}{A:Around}{E:Value->Shared->Prop}{s:Shared}
theorem oy {R:Result->Shared->Prop}(hh:A.handled=none){I l D:Addr}{items:Array Value}{i:Nat}{j:Int}(hit:s.heap.IsListIter I l i)(hl:s.heap.IsList l items)(hi:items[i]? = none)
  (h:∀h',Heap.ExtBut I s.heap h'->R (.ok (.ret .none)) { s with heap:=h' }):codeAny (model prog w) A (.builtin "dict.update.loop" ⟨[.ref D,.ref I,rawInt j,.none],[]⟩) R s:=by
 refine codeAny_builtin eL ?_;rw[Around.under_plainId cg _];show wpAny _ _ (pyNext (.ref I) >>= _) _ _ s;refine af (wpAny_pyNext_list_end hh hit hl hi fun h' he'=>?_);show wpAny _ _ (Builtin.Dict.addKeywords D [] >>= _) _ _ _;exact af (au (au (h h' he')))
theorem vY {R:Result->Shared->Prop}(hh:A.handled=none)(hu:A.units+1 < cLine){I l D:Addr}{ks:List Str}{ka t:Addr}{u:Value}{nt:Nat}
  (hit:s.heap.IsListIter I l 0) (hl:s.heap.IsList l #[.ref t]) (hD:s.heap.DictOfH (TK prog w) D []) (hne:D≠I) (hlI:l≠I) (hlD:l≠D) (htI:t≠I) (hkI:ka≠I)
  (ht:s.heap.get? t=some { cls:=.type "tuple",data:=.seq #[.ref ka,u] nt }) (hk:(TK prog w).is s.heap ks ka)
  (h:∀h' tk,(∀b o,b≠I->b≠D->s.heap.get? b=some o->h'.get? b=some o)->h'.DictOfH (TK prog w) D [(ks,ka,u)]->R (.ok (.ret .none)) { s with heap:=h',toks:=tk }) :
  codeAny (model prog w) A (.builtin "dict.update.loop" ⟨[.ref D,.ref I,rawInt 0,.none],[]⟩) R s:=by
 refine codeAny_builtin eL ?_;rw[Around.under_plainId cg _];show wpAny _ _ (pyNext (.ref I) >>= _) _ _ s;refine af (wpAny_pyNext_list_item hit hl (x:=.ref t) rfl fun h₁ hit₁ hs₁=>?_);have k1:∀b o,b≠I->s.heap.get? b=some o->h₁.get? b=some o:=fun b o hb e=>(hs₁.2 b hb).trans e;have ht₁:=k1 _ _ htI ht;have hk₁:(TK prog w).is h₁ ks ka:=by
  obtain ⟨o,items,n,q1,q2⟩:=hk;exact ⟨o,items,n,k1 _ _ hkI q1,q2⟩
 have hD₁:h₁.DictOfH (TK prog w) D []:=by
  obtain ⟨o,es,ep,ho,r1,r2,r3,r4,r5⟩:=hD;exact ⟨o,es,ep,k1 _ _ hne ho,r1,r2,r3,(fun x hx=>nomatch hx),r5⟩
 refine af (wpAny_holding (af ?_));refine wpAny_tryCatch ?_;unfold Builtin.Dict.pairItems;refine af (wpAny_typeOf (T:="tuple") ⟨_,ht₁,rfl⟩ ?_);rw[if_pos (by decide)];unfold seqItems?;refine af (af (wpAny_load ht₁ (au (au ?_))));show wpAny _ _ (holding _ (dictSet D (.ref ka) u)) _ _ _;refine wpAny_holding (wpAny_dictSet_heap (knd:=TK prog w) (xs:=[]) hu hk₁ hD₁ (fun h₂ hm₂ hs₂=>?_) (bD _));have hm₂:h₂.DictOfH (TK prog w) D [(ks,ka,u)]:=hm₂;have hl₁:h₁.IsList l #[.ref t]:=let ⟨o,ho,r⟩:=hl;⟨o,k1 _ _ hlI ho,r⟩;have hl₂:h₂.IsList l #[.ref t]:=let ⟨o,ho,r⟩:=hl₁;⟨o,(hs₂.2 l hlD).trans ho,r⟩;have hit₂:h₂.IsListIter I l 1:=let ⟨o,ho,r⟩:=hit₁;⟨o,(hs₂.2 I (Ne.symm hne)).trans ho,r⟩;refine au ⟨plainId_quiet cg _,oy hh hit₂ hl₂ rfl fun h₃ he₃=>?_⟩;refine h h₃ _ (fun b o hb hbD e=>he₃ b o hb ((hs₂.2 b hbD).trans (k1 b o hb e))) ?_;obtain ⟨o,es,ep,ho,r1,r2,r3,r4,r5⟩:=hm₂;refine ⟨o,es,ep,he₃ _ _ hne ho,r1,r2,r3,fun x hx=>?_,r5⟩;obtain ⟨o',items,n,q1,q2⟩:=r4 x hx;have:x.2.1=ka:=by cases bg hx;rfl
 rw[this]at q1 ⊢;exact ⟨o',items,n,he₃ _ _ hkI q1,q2⟩
theorem jI {Q:Value->Shared->Prop}(hh:A.handled=none)(hu:A.units+3 < cLine){l:Addr}{items:Array Value}{n:Nat}(hl:s.heap.get? l=some { cls:=.type "list",data:=.seq items n })
  {e:Option (List Str×Addr×Value)} (he:(e=none/\items = #[])\/∃ks ka u t nt,e=some (ks,ka,u)/\items = #[.ref t]/\s.heap.get? t=some { cls:=.type "tuple",data:=.seq #[.ref ka,u] nt }/\(TK prog w).is s.heap ks ka)
  (h:∀h' tk,(∀b o,s.heap.get? b=some o->h'.get? b=some o)->h'.DictOfH (TK prog w) s.heap.objs.size e.toList->Q (.ref s.heap.objs.size) { s with heap:=h',toks:=tk }) :
  wpAny (model prog w) A (call (.type "dict") [.ref l]) Q E s:=by
 refine callType_codes (Q₁:=fun obj s₁=>obj=.ref s.heap.objs.size/\s₁={ s with heap:=s.heap.push { cls:=.type "dict",data:=.dict #[] } }) PySem.F.kt_called_dict (PySem.F.kt_typeCall_dict_1 _) PySem.F.entry_dict_init (kt_code_dict_new _ ⟨rfl,rfl⟩) ?_
 rintro obj s₁ ⟨rfl,rfl⟩
 have hnew:(s.heap.push { cls:=.type "dict",data:=.dict #[] }).DictOfH (TK prog w) s.heap.objs.size []:=Heap.DictOfH.new s.heap;have hl':=Heap.get?_push_of_some { cls:=.type "dict",data:=.dict #[] } hl;have hlt:=Heap.lt_size hl;refine ⟨hnew.typeIs,PySem.F.args_dict_init_2 _ _,?_⟩;unfold Builtin.«dict.__init__»;refine af ?_;unfold Builtin.Dict.selfAndRest;refine af (wpAny_notOrdered_dict hnew.typeIs ?_);show wpAny _ _ (pure (s.heap.objs.size,[Value.ref l])) _ _ _;refine au ?_;show wpAny _ _ (Builtin.Dict.updateFrom "dict.__init__" s.heap.objs.size (.ref l) [] .none) _ _ _;unfold Builtin.Dict.updateFrom;refine af (wpAny_typeOf (T:="list") ⟨_,hl',rfl⟩ ?_);rw[if_pos (by decide)];refine af (qf hl' hh fun h₁ tk₁ k₁=>?_);rw[if_pos (show (none:Option Value).isNone=true from rfl)];refine af (wpAny_rule (af ?_));have hl₁:h₁.IsList l items:=⟨_,k₁ _ _ hl',rfl,n,rfl⟩
 refine wpAny_pyIter_list hl₁ ?_;have hD₁:h₁.DictOfH (TK prog w) s.heap.objs.size []:=by
  obtain ⟨o,es,ep,ho,r1,r2,r3,r4,r5⟩:=hnew;exact ⟨o,es,ep,k₁ _ _ ho,r1,r2,r3,(fun x hx=>nomatch hx),r5⟩
 have hDlt:s.heap.objs.size < h₁.objs.size:=let ⟨_,_,_,ho,_⟩:=hD₁;Heap.lt_size ho;have old:∀b o,s.heap.get? b=some o->b < s.heap.objs.size/\h₁.get? b=some o:=fun b o e=>⟨Heap.lt_size e,k₁ _ _ (Heap.get?_push_of_some _ e)⟩
 have hD₂:∀ob:Obj,(h₁.push ob).DictOfH (TK prog w) s.heap.objs.size []:=fun ob=>by
  obtain ⟨o,es,ep,ho,r1,r2,r3,r4,r5⟩:=hD₁;exact ⟨o,es,ep,Heap.get?_push_of_some _ ho,r1,r2,r3,(fun x hx=>nomatch hx),r5⟩
 have hit:∀ob:Obj,ob={ cls:=.type "list_iterator",data:=.fields #[.ref l,.int 0 0] }->(h₁.push ob).IsListIter h₁.objs.size l 0:=fun ob e=>⟨_,Heap.get?_push_size _ (by rw[e];rfl),by rw[e],by rw[e];rfl⟩
 have hl₂:∀ob:Obj,(h₁.push ob).IsList l items:=fun ob=>⟨_,Heap.get?_push_of_some _ (k₁ _ _ hl'),rfl,n,rfl⟩
 refine au ⟨plainId_quiet cg _,?_⟩;rcases he with ⟨rfl,rfl⟩|⟨ks,ka,u,t,nt,rfl,rfl,ht,hk⟩
 ·refine oy (A:=A.in1) (s:={ s with heap:=h₁.push { cls:=.type "list_iterator",data:=.fields #[.ref l,.int 0 0] },toks:=tk₁ }) (items:=#[]) (i:=0) hh (hit _ rfl) (hl₂ _) rfl fun h₃ he₃=>?_;refine ⟨rfl,h h₃ _ (fun b o e=>he₃ b o (bJ (Nat.lt_trans (old b o e).1 hDlt)) (Heap.get?_push_of_some _ (old b o e).2)) ?_⟩;obtain ⟨o,es,ep,ho,r1,r2,r3,r4,r5⟩:=hD₂ { cls:=.type "list_iterator",data:=.fields #[.ref l,.int 0 0] };exact ⟨o,es,ep,he₃ _ _ (bJ hDlt) ho,r1,r2,r3,(fun x hx=>nomatch hx),r5⟩
 ·have hkk:=hk;obtain ⟨ok,ki,kn,hk1,hk2⟩:=hk;have ha:=old _ _ hk1;have hb:=old _ _ ht;refine vY (A:=A.in1) (s:={ s with heap:=h₁.push { cls:=.type "list_iterator",data:=.fields #[.ref l,.int 0 0] },toks:=tk₁ }) (t:=t) (ks:=ks) (ka:=ka) (u:=u) (nt:=nt) hh ?_ (hit _ rfl) (hl₂ _) (hD₂ _) (bJ hDlt) (bJ (Nat.lt_trans hlt hDlt)) (bJ hlt) (bJ (Nat.lt_trans hb.1 hDlt)) (bJ (Nat.lt_trans ha.1 hDlt))
   ?_ ?_ fun h₃ tk₃ k₃ hd₃=>?_
  ·first|lia|(show A.units+1+1 < _;lia)
  ·exact Heap.get?_push_of_some _ hb.2
  ·exact ⟨ok,ki,kn,Heap.get?_push_of_some _ ha.2,hk2⟩
  refine ⟨rfl,h h₃ _ (fun b o e=>k₃ b o (bJ (Nat.lt_trans (old b o e).1 hDlt)) (bJ (old b o e).1) (Heap.get?_push_of_some _ (old b o e).2)) hd₃⟩
end
end
abbrev RE:=Option (Nat×List Str×AV)
def zE (rd:Bool):AO->Option RE
 |.dic l=>match l with|[]=>some none|_::_=>none
 |.rws j ks v=>some (some (j,ks,v))
 |.rit _ e _ _=>@Bool.rec (fun zz=>Option RE) none (some e) rd
 |_=>none
def gJ (t:AV) (σ:ST):R (List Str):=et t σ fun zz es=>aE (eH es) fun ks=>.ok ks σ
def ym {α:Type} (r:R α) (p:α->Bool):Bool:=@R.rec α (fun zz=>Bool) (fun a zz=>p a) false r
def Eh (e:RE) (σ:ST):Bool:=@Option.rec _ (fun zz=>Bool) true (fun p=>ym (gJ (.obj p.1) σ) fun ks=>dC ks p.2.1) e
def i8 {β:Type} (rd:Bool) (v:AV) (σ:ST) (k:Nat->AO->RE->R β):R β:=eE v σ fun i o=>aE (zE rd o) fun e=>gd (Eh e σ) (k i o e)
structure ja (rd:Bool) (v:AV) (σ:ST) (i:Nat) (o:AO) (e:RE):Prop where
 hv:v=.obj i
 ho:aa σ.os i=some o
 he:zE rd o=some e
 hk:Eh e σ=true
def eM (e:RE) (ks:List Str):Option Bool:=@Option.rec _ (fun zz=>Option Bool) (some false) (fun p=>tt (dC ks p.2.1)) e
def ni (V:Vl) (e:RE) (xs:List (List Str×Addr×Value)):Prop:=match e with
 |none=>xs=[]
 |some p=>∃ka u,xs=[(p.2.1,ka,u)]/\V.ρ p.1=some ka/\Den V p.2.2 u
noncomputable def r6:RE->AO
 |none=>.dic []
 |some p=>.rws p.1 p.2.1 p.2.2
structure Ei (d:Dx) (V:Vl) (s:Shared) (i:Nat) (e:RE) (u:Value) (ax:Addr) (ob:Obj) (n ep:Nat) (xs:List (List Str×Addr×Value)):Prop where
 hu:u=.ref ax
 hρ:V.ρ i=some ax
 lo:(ax==sysModules)=false
 hg:s.heap.get? ax=some ob
 r:RowAt d.w V e ob n ep
 dh:s.heap.DictOfH (TK d.prog d.w) ax xs
 x:ni V e xs
 hn:n=xs.length
section
variable {d:Dx}{V W:Vl}{fr fr':AF}{σ σ':ST}{s:Shared}{E:Value->Shared->Prop}{β γ:Type}
theorem Snd.row {Φ:β->ST->Prop}{rd:Bool}{v:AV}{k:Nat->AO->RE->R β}(h:∀i o e,ja rd v σ i o e->Snd (k i o e) Φ):Snd (i8 rd v σ k) Φ:=
 Snd.ao fun i o hv ho=>Snd.opt fun e he=>Snd.gd fun hk=>h i o e ⟨hv,ho,he,hk⟩
theorem qh {prog:Program}{w:World}{us:List Value}{ks:List Str}(h:StrsAre us ks):PySem.ItemsAre (strKind prog w) ks us:=by
 induction h with
 |nil=>exact .nil
 |cons x t r ih=>exact .cons (strKind_is prog w x t) ih
theorem d7 {t:AV}{u:Value}(du:Den V t u):Snd (gJ t σ) fun ks σ'=>σ'=σ/\∀s,At d V fr σ s->∃j ka,t=.obj j/\u=.ref ka/\V.ρ j=some ka/\(TK d.prog d.w).is s.heap ks ka:=
 Snd.tup fun j es hv ho=>Snd.opt fun ks hk=>Snd.ok ⟨rfl,fun s a=>by
  obtain ⟨ax,us,rfl,hρ,ds,o,h1,h2,n,h3⟩:=a.tup hv ho du;exact ⟨j,ax,hv,rfl,hρ,o,us.toArray,n,h1,h2,h3,qh (by simpa using bX hk ds)⟩⟩
theorem r7 {α:Type}{r:R α}{p:α->Bool}(h:ym r p=true):∃a σ',r=.ok a σ'/\p a=true:=by
 induction r using R.casesOn with
 |ok a σ'=>exact ⟨a,σ',rfl,h⟩
 |no=>exact ak h
theorem nj {w:World}{e:RE}{es:Array DictEntry}{xs:List (List Str×Addr×Value)}(r:RowIs w V e es):∃xs,ni V e xs/\es.toList=xs.map (fun x=>⟨(tupleKeyHash (strKind default w) x.1),.ref x.2.1,x.2.2⟩)/\xs.length=es.size/\(∀x∈xs,∃p,e=some p/\x.1=p.2.1/\V.ρ p.1=some x.2.1)/\(xs.map (·.1)).Nodup:=by
 induction e using aF with
 |none=>obtain rfl:=(r:es = #[]);exact ⟨[],rfl,rfl,rfl,fun zz h=>(nomatch h),List.nodup_nil⟩
 |some p=>
  refine aR r fun ka u r'2 h2 h3=>?_;clear r;obtain rfl:=r'2;exact ⟨[(p.2.1,ka,u)],⟨ka,u,rfl,h2,h3⟩,rfl,rfl,fun x hx=>by obtain rfl:=bg hx;exact ⟨p,rfl,rfl,h2⟩,by simp⟩
set_option tactic.hygienic true in
theorem kD {w:World}{fl:FL}{rd:Bool}{i:Nat}{o:AO}{e:RE}{l:L2}(h:zE rd o=some e)(is:Is w V fl i o l):∃ax ob n ep r,V.ρ i=some ax/\(ax==sysModules)=false/\RowAt w V e ob n ep/\l=(ax,ob)::r/\(rd=false->r=[]):=by
 induction o using aN<;>first|exact ag h|skip
 ·rename_i kvs
  induction kvs using aV with
  |cons=>exact ag h
  |nil=>
   obtain rfl:=soo h;refine cK is fun x o us h1 lo h3 h4 is'7=>?_;clear is;obtain rfl:=is'7
   induction us using aV with
   |cons=>exact h4.elim
   |nil=>
    refine vj (h3 default) fun es ep q1 q2 q3 q4 q5=>?_;have hes:es = #[]:=jO (List.length_eq_zero_iff.mp q4.length);exact ⟨x,o,0,ep,[],h1,lo,⟨es,q1,q2,hes,by rw[hes];rfl⟩,rfl,fun zz=>rfl⟩
 ·obtain rfl:=soo h;refine bZ is fun x o ep h1 lo h3 is'6=>?_;clear is;obtain rfl:=is'6;exact ⟨x,o,1,ep,[],h1,lo,h3,rfl,fun zz=>rfl⟩
 ·induction rd using aH with
  |false=>exact ag h
  |true=>
   obtain rfl:=soo h;refine mX is fun x o y oi n ep h1 lo h3 h5 h6 h7 is'12=>?_;clear is;obtain rfl:=is'12;exact ⟨x,o,n,ep,_,h1,lo,h3,rfl,fun h=>ak h.symm⟩
theorem At.row (a:At d V fr σ s){rd:Bool}{v:AV}{i:Nat}{o:AO}{e:RE}{u:Value}(h:ja rd v σ i o e)(du:Den V v u){G:Prop}(k:∀ax ob n ep xs,Ei d V s i e u ax ob n ep xs->G):G:=
 a.has h.ho fun l hl g=>by
  rw[h.hv]at du;refine aj du fun ax hρ hu=>?_;clear du;refine pS (kD h.he hl) fun ax' ob n ep r h1 lo h3 z'8 zy=>?_;obtain rfl:=z'8;obtain rfl:=soo (hρ.symm.trans h1);have hg:=g _ (.head _);refine gE (id h3) fun es q1 q2 q3 q6=>?_;refine Hw (nj (xs:=[]) q3) fun xs x1 x2 x3 x4 x5=>?_;refine k ax ob n ep xs ⟨hu,hρ,lo,hg,h3,⟨_,es,ep,hg,q1,q2,x2,fun x hx=>?_,x5⟩,x1,q6.symm.trans x3.symm⟩;refine cq (x4 x hx) fun p hp e1 e2=>?_;have hk:=h.hk;rw[hp]at hk;refine aI (r7 hk) fun ks σ₁ t1 t2=>?_;refine ay (d7 (d:=d) (fr:=fr) (V:=V) (u:=.ref x.2.1) (t:=.obj p.1) ⟨_,e2,rfl⟩ ks σ₁ t1) fun zy t3=>?_;refine bt (t3 s a) fun j ka z1 z2 z3 z4=>?_;injection z2 with z2
  rw[e1,z2,<-bQ t2];exact z4
theorem nk {e:RE}{ks:List Str}{b:Bool}{xs:List (List Str×Addr×Value)}(h:eM e ks=some b)(x:ni V e xs):(b=false->e=none/\xs=[])/\(b=true->∃p ka u,e=some p/\p.2.1=ks/\xs=[(ks,ka,u)]/\V.ρ p.1=some ka/\Den V p.2.2 u):=by
 induction e using aF with
 |none=>obtain rfl:=soo h;exact ⟨fun zz=>⟨rfl,x⟩,fun h=>ak h⟩
 |some p=>
  refine ay (lL h) fun h1 z'1=>?_;obtain rfl:=z'1;refine aR x fun ka u x1 x2 x3=>?_;clear x;rw[<-bQ h1]at x1;exact ⟨fun h=>ak h.symm,fun zz=>⟨p,ka,u,rfl,(bQ h1).symm,x1,x2,x3⟩⟩
theorem gK {ks:List Str}{ka:Addr}{u:Value}:atKey [(ks,ka,u)] ks=some (ka,u):=by simp [atKey]
theorem kE (rm:Room d.A 0):d.A.units+9 < cLine:=by have:=rm.2;lia
theorem lR (rm:Room d.A 0):(TK d.prog d.w).room d.A.in1:=tupleKind_room_in1 (by have:=kE rm;lia)
theorem lS {e:RE}{ks:List Str}{b:Bool}{xs:List (List Str×Addr×Value)}(h:eM e ks=some b)(x:ni V e xs):(atKey xs ks).isSome=b:=by
 refine ay (nk h x) fun q1 q2=>?_
 induction b using aH with
 |false=>rw[(q1 rfl).2];rfl
 |true=>refine bZ (q2 rfl) fun zy zy zy zy zy q zy=>?_;rw[q,gK];rfl
theorem zF {rd:Bool}{v t:AV}{i:Nat}{o:AO}{e:RE}{ks:List Str}{b:Bool}{ut ud:Value}{σ₁:ST}(h1:ja rd v σ i o e)(h2:gJ t σ=.ok ks σ₁)(h3:eM e ks=some b)(rm:Room d.A 0)(dt:Den V t ut)(dd:Den V v ud) :
  Tr d V fr σ (compareOp .In ut ud) fr σ (DB (.bool b))/\Tr d V fr σ (compareOp .NotIn ut ud) fr σ (DB (.bool (!b))):=by
 refine ay (d7 (d:=d) (fr:=fr) dt ks σ₁ h2) fun zy g=>?_;refine ⟨fun s Q E a P=>a.row h1 dd fun ax ob n ep xs r=>?_,fun s Q E a P=>a.row h1 dd fun ax ob n ep xs r=>?_⟩
 ·refine bt (g s a) fun j ka zy z'3 zy hk=>?_;obtain rfl:=z'3;rw[r.hu];exact wpAny_in_heap (lR rm) hk r.lo r.dh (by rw[lS h3 r.x];exact P.tok a rfl _)
 ·refine bt (g s a) fun j ka zy z'3 zy hk=>?_;obtain rfl:=z'3;rw[r.hu];exact wpAny_notIn_heap (lR rm) hk r.lo r.dh (by rw[lS h3 r.x];exact P.tok a rfl _)
def vZ (b:Bool) (e:RE) (dv:AV):AV:=@Bool.rec (fun zz=>AV) dv (@Option.rec _ (fun zz=>AV) dv (fun p=>p.2.2) e) b
theorem v3 {rd:Bool}{v t:AV}{i:Nat}{o:AO}{e:RE}{ks:List Str}{b:Bool}{ut ud:Value}{σ₁:ST}(h1:ja rd v σ i o e)(h2:gJ t σ=.ok ks σ₁)(h3:eM e ks=some b)(rm:Room d.A 0)(dt:Den V t ut)(dd:Den V v ud) :
  TE d V fr σ (call (.builtin "dict.get") [ud,ut]) (vZ b e .non) σ:=fun s Q E a P=>a.row h1 dd fun ax ob n ep xs r=>by
 refine ay (d7 (d:=d) (fr:=fr) dt ks σ₁ h2) fun zy g=>?_;refine bt (g s a) fun j ka zy z'3 zy hk=>?_;obtain rfl:=z'3;rw[r.hu];refine call_meetsIn PySem.F.slot_dict_get r.dh.typeIs PySem.F.entry_dict_get (PySem.F.args_dict_get_2 _ _) (meetsH_dict_get (TK d.prog d.w) ax ka r.lo) ⟨lR rm,ks,xs,hk,r.dh,?_⟩;refine ay (nk h3 r.x) fun q1 q2=>?_
 induction b using aH with
 |false=>rw[(q1 rfl).2];exact P.tok a rfl _
 |true=>
  refine cK (q2 rfl) fun p ka' u' z'3 zy e2 zy e4=>?_;obtain rfl:=z'3;rw[e2,gK];exact P.tok a e4 _
theorem r8 {rd:Bool}{v t:AV}{i:Nat}{o:AO}{p:Nat×List Str×AV}{ks:List Str}{ut ud:Value}{σ₁:ST}(h1:ja rd v σ i o (some p))(h2:gJ t σ=.ok ks σ₁)(h3:dC ks p.2.1=true)(rm:Room d.A 0)(dt:Den V t ut)(dd:Den V v ud){Q:Value->Shared->Prop}(a:At d V fr σ s)(P:Po d V fr σ s (DE p.2.2) Q) :
  s.TypeIs ud "dict"/\wpAny d.M d.A (getItem ud ut) Q E s:=a.row h1 dd fun ax ob n ep xs r=>by
 refine ay (d7 (d:=d) (fr:=fr) dt ks σ₁ h2) fun zy g=>?_;refine bt (g s a) fun j ka zy z'3 zy hk=>?_;obtain rfl:=z'3;refine aR r.x fun ka' u x1 zy x3=>?_;have dh:=r.dh;rw[x1,<-bQ h3]at dh;rw[r.hu];exact ⟨dh.typeIs,wpAny_getItem_heap (lR rm) hk dh gK (P.tok a x3 _)⟩
theorem r9 {prog:Program}{w:World}{e:RE}{h':Heap}{ax:Addr}{xs:List (List Str×Addr×Value)}(hd:h'.DictOfH (TK prog w) ax xs)(hx:ni V e xs):∃o' ep,h'.get? ax=some o'/\RowAt w V e o' xs.length ep:=by
 refine ir hd fun o' es ep ho hc hdd he zy zy=>?_;refine ⟨o',ep,ho,es,hc,hdd,?_,by have:=congrArg List.length he;simpa using this⟩
 induction e using aF with
 |none=>
  have hx:xs=[]:=hx;subst hx;exact jO he
 |some p=>
  obtain ⟨ka,u,hx,h2,h3⟩:=hx;subst hx;exact ⟨ka,u,jO he,h2,h3⟩
theorem v4 {w:World}{o':Obj}{n ep:Nat}(h:RowAt w V none o' n ep):∀prog,o'.IsDictOf (strKind prog w) []:=by
 intro prog;refine gE h fun es q1 q2 q3 zy=>?_;clear h;have q3:es = #[]:=q3;subst q3;exact ⟨#[],ep,q1,q2,fun e he=>by simp at he,.nil,List.nodup_nil⟩
theorem nq {w:World}{fl:FL}{i:Nat}{e:RE}{ax:Addr}{o:Obj}{n ep:Nat}(hρ:V.ρ i=some ax)(lo:(ax==sysModules)=false)(h:RowAt w V e o n ep):Is w V fl i (r6 e) [(ax,o)]:=by
 induction e using aF with
 |none=>exact .dic hρ lo (v4 h) trivial
 |some p=>
  refine gE h fun es q1 q2 q3 q4=>?_;clear h;refine aI q3 fun ka u q5 q6=>?_;clear q3;subst q5;obtain rfl:=(q4:1=n)
  exact .rws hρ lo ⟨_,q1,q2,⟨ka,u,rfl,q6⟩,rfl⟩
theorem jb {v:AV}{i:Nat}{o:AO}{e e':RE}{u:Value}{ax:Addr}{ob o':Obj}{n ep n' ep' tk:Nat}{xs:List (List Str×Addr×Value)}{h':Heap}(h:ja false v σ i o e)(a:At d V fr σ s)(r:Ei d V s i e u ax ob n ep xs)
  (hg:h'.get? ax=some o') (r':RowAt d.w V e' o' n' ep') (hs:Heap.SameBut ax s.heap h'):At d V fr ⟨bf σ.os i (r6 e'),σ.nx⟩ (Shared.to s h' tk):=
 a.turn h.ho fun l hl g sw=>by
  refine pS (kD h.he hl) fun ax' ob' zy zy rr h1 zy zy z'8 hr=>?_;obtain rfl:=z'8;obtain rfl:=soo (r.hρ.symm.trans h1);obtain rfl:=hr rfl;exact sw _ [(ax,o')] h' tk (nq r.hρ r.lo r') (fun p hp=>by obtain rfl:=bg hp;exact hg) (.refl _) fun b o hb e=>(hs.2 b (fun q=>hb (by rw[q];exact .head _))).trans e
theorem v5 {v t x:AV}{i j:Nat}{o:AO}{ks:List Str}{ut ud ux:Value}{σ₁:ST}(h1:ja false v σ i o none)(ht:t=.obj j)(h2:gJ t σ=.ok ks σ₁)(rm:Room d.A 0)(dd:Den V v ud)(dt:Den V t ut)(dx:Den V x ux) :
  TU d V fr σ (setItem ud ut ux) () ⟨bf σ.os i (.rws j ks x),σ.nx⟩:=fun s Q E a P=>a.row h1 dd fun ax ob n ep xs r=>by
 refine ay (d7 (d:=d) (fr:=fr) dt ks σ₁ h2) fun zy g=>?_;refine bt (g s a) fun j' ka e1 z'3 hρ hk=>?_;obtain rfl:=z'3;rw[ht]at e1;injection e1 with e1
 have hx:xs=[]:=r.x;have dh:=r.dh;rw[hx]at dh;rw[r.hu];refine wpAny_setItem_heap (lR rm) hk dh (fun h' hm' hs'=>?_) (bD _);have hm':h'.DictOfH (TK d.prog d.w) ax [(ks,ka,ux)]:=hm';refine aI (r9 (V:=V) (e:=some (j,ks,x)) hm' ⟨ka,ux,rfl,by rw[e1];exact hρ,dx⟩) fun o' ep' ho' hr'=>?_;exact P () h' _ V (.refl V) trivial (jb h1 a r ho' hr' hs')
theorem v6 {v t dv:AV}{i:Nat}{o:AO}{e:RE}{ks:List Str}{b:Bool}{ut ud udv:Value}{σ₁:ST}(h1:ja false v σ i o e)(h2:gJ t σ=.ok ks σ₁)(h3:eM e ks=some b)(rm:Room d.A 0)(dd:Den V v ud)(dt:Den V t ut)(ddv:Den V dv udv) :
  TE d V fr σ (call (.builtin "dict.pop") [ud,ut,udv]) (vZ b e dv) ⟨bf σ.os i (.dic []),σ.nx⟩:=fun s Q E a P=>a.row h1 dd fun ax ob n ep xs r=>by
 refine ay (d7 (d:=d) (fr:=fr) dt ks σ₁ h2) fun zy g=>?_;refine bt (g s a) fun j' ka zy z'3 hρ hk=>?_;obtain rfl:=z'3;refine ay (nk h3 r.x) fun q1 q2=>?_;have sw:=fun {o' n' ep' tk h'}=>jb (e':=none) (o':=o') (n':=n') (ep':=ep') (tk:=tk) (h':=h') h1 a r;rw[r.hu]
 induction b using aH with
 |false=>
  refine ay (q1 rfl) fun z'0 zy=>?_;obtain rfl:=z'0;refine gE r.r fun es r1 r2 r3 zy=>?_;have r3:es = #[]:=r3;subst r3;exact rY r.dh.typeIs r.lo r.hg r2 (P udv s.heap s.toks V (.refl V) ddv (sw r.hg r.r (.refl ..)))
 |true=>
  refine cK (q2 rfl) fun p ka' u z'3 zy e2 x2 x3=>?_;obtain rfl:=z'3;have dh:=r.dh;rw[e2]at dh;exact r0 (by have:=kE rm;lia) hk dh fun h' o' ep' tk ho' hc' hd' hs'=>P u h' tk V (.refl V) x3 (sw ho' (n':=0) (ep':=ep') ⟨#[],hc',hd',rfl,rfl⟩ hs')
theorem sa {e:RE}{xs:List (List Str×Addr×Value)}(h:ni V e xs):xs.length<=1:=by
 induction e using aF with
 |none=>rw[show xs=[] from h];exact bD _
 |some p=>refine aI h fun zy zy h'2 zy=>?_;clear h;obtain rfl:=h'2;exact aP _
theorem qi {v:AV}{i:Nat}{o:AO}{e:RE}{ud:Value}(h1:ja false v σ i o e)(dd:Den V v ud):TE d V fr σ (call (.builtin "dict.clear") [ud]) .non ⟨bf σ.os i (.dic []),σ.nx⟩:=fun s Q E a P=>a.row h1 dd fun ax ob n ep xs r=>by
 refine gE r.r fun es r1 r2 r3 r4=>?_;rw[r.hu];refine qg r.dh.typeIs r.hg r1 r2 (by rw[r4,r.hn];have:=sa r.x;have:=bC;lia) fun h' o' ho' hc' hd' hs'=>?_;exact P .none h' s.toks V (.refl V) rfl (jb (e':=none) (n':=0) (ep':=ep+1) h1 a r ho' ⟨#[],hc',hd',rfl,rfl⟩ hs')
def jc (i:Nat) (ao:AO) (σ:ST):ST:=⟨(σ.nx,.dkt i)::bf σ.os i ao,σ.nx+1⟩
theorem At.pair {i:Nat}{ao ao':AO}{ax:Addr}{o oi:Obj}{tk:Nat}(a:At d V fr σ s)(ho:aa σ.os i=some ao)(one:∀l,Is d.w V d.tb.flds i ao l->∃o',l=[(ax,o')])(hg:s.heap.get? ax=some o)(hf:oi.isFreed=false)
  (is:∀W,V.le W->W.ρ σ.nx=some s.heap.objs.size->Is d.w W d.tb.flds i ao' [(ax,o),(s.heap.objs.size,oi)]):At d (V.addR σ.nx s.heap.objs.size) fr (jc i ao' σ) (Shared.to s (s.heap.push oi) tk):=
 a.swapK ho fun m pre l post x hl up=>by
  have le:=Vl.addR_le (a:=s.heap.objs.size) (a.v.fresh σ.nx (aP _)).1;refine av (one l hl) fun o' z'1=>?_;obtain rfl:=z'1;have hm:(ax,o')∈pre++([(ax,o')]++post):=a9 _ (.head _);obtain rfl:=soo (hg.symm.trans (x.N _ hm).1);have N1:=News.push x.F x.N oi hf;have off:=cR x.N;have nd:=qZ (p:=(ax,o)) (o:=o) (q:=(s.heap.objs.size,oi)) x.nd fun h=>by refine aj (List.mem_map.mp h) fun q hq e=>?_;exact off q hq e
  refine a.put le (σ₁:=jc i ao' σ) x (x.F.push _) (fun p hp=>N1 p ?_) (.cons .dkt (up _ le _ _ (is _ le Vl.addR_ρ))) nd a.v.addR;simp only[List.nil_append,List.mem_append,List.mem_cons,List.not_mem_nil,or_false]at hp ⊢;rcases hp with h|(h|h)|h
  ·exact .inr (.inl h)
  ·exact .inr (.inr (.inl h))
  ·exact .inl h
  ·exact .inr (.inr (.inr h))
theorem sd {b:Bool}{v:AV}{i:Nat}{o:AO}{e:RE}{y u:Value}{Q:Value->Shared->Prop}(h1:ja false v σ i o e)(a:At d V fr σ s)(dd:Den V v u)
  (hv:(b=true/\y=u)\/(b=false/\∀z,u=.ref z->∃x,y=.ref x/\s.heap.IsValuesView x z))
  (P:∀h tk W x,V.le W->W.ρ σ.nx=some x->At d W fr (jc i (.rit b e 0 σ.nx) σ) (Shared.to s h tk)->Q (.ref x) (Shared.to s h tk)):wpAny d.M d.A (pyIter y) Q E s:=a.row h1 dd fun ax ob n ep xs r=>by
 refine gE (id r.r) fun es r1 r2 r3 r4=>?_;have le:=Vl.addR_le (a:=s.heap.objs.size) (a.v.fresh σ.nx (aP _)).1;have fin:∀oi:Obj,oi={ cls:=.type (fV b),data:=.fields #[.ref ax,.int 0 0,.int es.size 0,.int ep 0] }->Q (.ref s.heap.objs.size) { s with heap:=s.heap.push oi }:=fun oi hoi=>by
  refine P _ s.toks _ _ le Vl.addR_ρ (a.pair h1.ho (fun l hl=>?_) r.hg (by rw[hoi];rfl) fun W le' hW=>?_)
  ·refine pS (kD h1.he hl) fun ax' ob' zy zy rr q1 zy zy z'8 hr=>?_;obtain rfl:=z'8;obtain rfl:=soo (r.hρ.symm.trans q1);obtain rfl:=hr rfl;exact ⟨_,rfl⟩
  ·exact .rit (k:=0) (le'.ρ _ _ r.hρ) r.lo (r.r.mono le') hW (by rw[hoi]) (by rw[hoi];rw[<-r4];rfl)
 rcases hv with ⟨rfl,rfl⟩|⟨rfl,hv⟩
 ·rw[r.hu];exact rV r.dh.typeIs r.hg r2 r.lo (fin _ rfl)
 ·refine aj (hv ax r.hu) fun x z'1 hx'=>?_;obtain rfl:=z'1;exact rX hx' r.hg r2 (fin _ rfl)
def se (b:Bool) (e:RE) (k:Nat):Option AV:=@Nat.rec (fun zz=>Option AV) (e.map fun p=>@Bool.rec (fun zz=>AV) p.2.2 (.obj p.1) b) (fun zz zz=>none) k
theorem zG {b:Bool}{e:RE}{j it k:Nat}{x:Addr}{Q:Option Value->Shared->Prop}(hj:aa σ.os j=some (.rit b e k it))(a:At d V fr σ s)(hx:V.ρ it=some x)
  (P1:∀v u h tk,se b e k=some v->Den V v u->At d V fr ⟨bf σ.os j (.rit b e (k+1) it),σ.nx⟩ (Shared.to s h tk)->Q (some u) (Shared.to s h tk))
  (P2:∀h tk,se b e k=none->At d V fr ⟨bf σ.os j (r6 e),σ.nx⟩ (Shared.to s h tk)->Q none (Shared.to s h tk)):wpAny d.M d.A (pyNext (.ref x)) Q E s:=a.turn hj fun l hl g1 sw=>by
 refine mX hl fun dd o y oi n ep h1 lo hr h5 hc hdt hl'12=>?_;clear hl;obtain rfl:=hl'12;obtain rfl:=soo (hx.symm.trans h5);refine gE (id hr) fun es r1 r2 r3 r4=>?_;obtain rfl:=r4;have hgd:=(g1 (dd,o) (.head _)).1;have hgi:=(g1 (x,oi) (.tail _ (.head _))).1;have hne:dd≠x:=by
  rintro rfl
  have e2:o=oi:=soo (hgd.symm.trans hgi);rw[<-e2,r1.1]at hc;injection hc with hc
  induction b using aH<;>exact absurd hc (by decide)
 have hat:ItAt (fV b) s.heap x dd k es.size ep:=⟨oi,hgi,hc,hdt⟩
 have item:∀(hlt:k < es.size) (u:Value),(u=if b then es[k].key else es[k].val)->∀h',ItAt (fV b) h' x dd (k+1) es.size ep->Heap.SameBut x s.heap h'->Q (some u) { s with heap:=h' }:=fun hlt u hu h' hit' hs'=>by
  refine cq hit' fun o' ho' c1 c2=>?_;clear hit';have:∃v,se b e k=some v/\Den V v u:=by
   induction e using aF with
   |none=>obtain rfl:=(r3:es = #[]);exact absurd hlt (Nat.not_lt_zero _)
   |some p=>
    refine aR r3 fun ka u' r3'2 q2 q3=>?_;clear r3;obtain rfl:=r3'2;have hk0:k=0:=by have:k < 1:=hlt;lia
    subst hk0
    induction b using aH with
    |true=>exact ⟨.obj p.1,rfl,ka,q2,hu⟩
    |false=>exact ⟨p.2.2,rfl,by rw[hu];exact q3⟩
  refine aj this fun v q1 q2=>?_;clear this;refine P1 v u h' s.toks q1 q2 (sw _ [(dd,o),(x,o')] h' _ (.rit h1 lo hr hx c1 c2) (fun p hp=>?_) (.refl _) fun b o hb e=>(hs'.2 b (fun q=>hb (q▸.tail _ (.head _)))).trans e);rcases aG hp with rfl|hp
  ·exact (hs'.2 dd hne).trans hgd
  ·obtain rfl:=bg hp;exact ho'
 have done:es.size<=k->∀h',Heap.ExtBut x s.heap h'->Q none { s with heap:=h' }:=fun hge h' he'=>by
  have:se b e k=none:=by
   cases k with
   |succ k=>rfl
   |zero=>
    induction e using aF with
    |none=>rfl
    |some p=>refine aI r3 fun ka u' r3'2 zy=>?_;clear r3;obtain rfl:=r3'2;exact absurd hge (Nat.not_succ_le_zero 0)
  refine P2 h' s.toks this (sw _ [(dd,o)] h' _ (nq h1 lo hr) (fun p hp=>?_) (by simp) fun b o hb e=>he' b o (fun q=>hb (q▸.tail _ (.head _))) e);obtain rfl:=bg hp;exact he' _ _ hne hgd
 by_cases hlt:k < es.size
 ·induction b using aH with
  |true=>exact rT hat hgd r2 hlt (item hlt _ rfl)
  |false=>exact rU hat hgd r2 hlt (item hlt _ rfl)
 ·induction b using aH with
  |true=>exact vV a.c.hh hat hgd r2 (Nat.not_lt.mp hlt) (done (Nat.not_lt.mp hlt))
  |false=>exact vW a.c.hh hat hgd r2 (Nat.not_lt.mp hlt) (done (Nat.not_lt.mp hlt))
theorem sf {b:Bool}{e:RE}{j it k:Nat}{x:Addr}{Q:Value->Shared->Prop}(hj:aa σ.os j=some (.rit b e k it))(a:At d V fr σ s)(hx:V.ρ it=some x)(q:Q (.ref x) s):wpAny d.M d.A (pyIter (.ref x)) Q E s:=a.has hj fun l hl g1=>by
 refine mX hl fun zy zy y oi zy zy h1 lo hr h5 hc hdt hl'12=>?_;clear hl;obtain rfl:=hl'12;obtain rfl:=soo (hx.symm.trans h5);have hgi:=g1 _ (.tail _ (.head _))
 induction b using aH with
 |true=>exact wpAny_pyIter_keyiter (i:=k) ⟨_,hgi,hc,hdt⟩ q
 |false=>exact wpAny_pyIter_valiter (i:=k) ⟨_,hgi,hc,hdt⟩ q
end
section
set_option genInjectivity true
set_option genSizeOfSpec true
noncomputable def bp {α:Type}:List α->Nat->Option α
 |[],_=>none
 |a::r,n=>@Nat.rec (fun zz=>Option α) (some a) (fun n zz=>bp r n) n
theorem br {α:Type}:∀(l:List α) (n:Nat),bp l n=l[n]?
 |[],_=>rfl
 |_::_,0=>rfl
 |_::r,n+1=>(br r n).trans List.getElem?_cons_succ.symm
def gdO {α:Type} (b:Bool) (a:α):Option α:=@Bool.rec (fun zz=>Option α) none (some a) b
theorem ci {α:Type}{b:Bool}{a c:α}(h:gdO b a=some c):b=true/\a=c:=by
 induction b using aH with
 |true=>exact ⟨rfl,soo h⟩
 |false=>exact ag h
def v7 (i:Int) (len:Nat):Option Nat:=match i with
 |.ofNat n=>gdO (Nat.blt n len) n
 |.negSucc m=>gdO (Nat.blt m len) (len - (m+1))
theorem kF {i:Int}{len j:Nat}(e:v7 i len=some j):seqIndex? i len=some j/\j < len/\(i=j\/(i < 0/\i+len=j)):=by
 cases i with
 |ofNat n=>
  refine ay (ci e) fun h z'1=>?_;obtain rfl:=z'1;have h:n < len:=az h;refine ⟨?_,h,.inl rfl⟩;unfold seqIndex?;simp only[if_neg (show ¬ (Int.ofNat n < 0) from Int.not_lt.mpr (Int.natCast_nonneg n))];rw[if_pos (by simp;exact h)];rfl
 |negSucc m=>
  refine ay (ci e) fun h z'1=>?_;obtain rfl:=z'1;have h:m < len:=az h;have e1:Int.negSucc m+(len:Int)=((len - (m+1):Nat):Int):=Int.subNatNat_of_le h;refine ⟨?_,Nat.sub_lt (Nat.zero_lt_of_lt h) (Nat.succ_pos m),.inr ⟨Int.negSucc_lt_zero m,e1⟩⟩;unfold seqIndex?;simp only[if_pos (Int.negSucc_lt_zero m),e1];rw[if_pos (by simp;exact Nat.sub_lt (Nat.zero_lt_of_lt h) (Nat.succ_pos m))];rfl
noncomputable def big (i:Int):Bool:=Z.ltB i 1000000000&&Z.ltB (-1000000000) i
theorem jd {i:Int}(h:big i=true):i < 1000000000/\-1000000000 < i:=by
 have a:=an1 h;have b:=an2 h;exact ⟨(Z.ltB_iff _ _).mp a,(Z.ltB_iff _ _).mp b⟩
def lT (es:List AV) (i:AV) (σ:ST):R AV:=bV i fun k=>gd (big k) (aE (v7 k es.length) fun j=>aE (bp es j) fun v=>.ok v σ)
def nu (kvs:List (Str×AV)) (i:AV) (σ:ST):R AV:=cQ i fun x=>aE (aw kvs ⟨x.toArray⟩) fun v=>.ok v σ
def sj {β:Type} (v:AV) (σ:ST) (k:List (Str×AV)->R β):R β:=eE v σ fun zz o=>match o with|.dit kvs _ _=>k kvs|_=>.no
def Ej (u i:AV) (σ:ST):R AV:=i8 true u σ fun zz zz e=>aE e fun p=>(gJ i σ).bind fun ks σ₁=>gd (dC ks p.2.1) (.ok p.2.2 σ)
def Ek (l:List Nat) (i:AV) (σ:ST):R AV:=bV i fun k=>gd (big k) (aE (v7 k l.length) fun j=>aE (bp l j) fun c=>.ok (.str [c]) σ)
def zH (tb:Tb) (u i:AV) (σ:ST):R AV:=match u with
 |.str l=>Ek l i σ
 |.st a=>aE (aa tb.dcs a) fun kvs=>nu kvs i σ
 |u=>(bz u σ fun zz es=>lT es i σ).or ((et u σ fun zz es=>lT es i σ).or ((eu u σ fun zz kvs=>nu kvs i σ).or ((Ej u i σ).or (sj u σ fun kvs=>nu kvs i σ))))
noncomputable def yn:AV->Option (Option Int)
 |.int i=>some (some i)
 |.non=>some none
 |_=>none
def lU (ex:EX) (e:Option Expr) (fr:AF) (σ:ST):R (Option Int):=@Option.rec _ (fun zz=>R (Option Int)) (.ok none σ) (fun e=>(ex e fr σ).bind fun v σ'=>aE (yn v) fun p=>.ok p σ') e
def je {α:Type} (es:List α) (lo hi st:Option Int):List α:=(sliceRange (sliceBounds lo hi st es.length).1 (sliceBounds lo hi st es.length).2.1 (sliceBounds lo hi st es.length).2.2).filterMap (bp es)
def zI (o:Option Int):Bool:=@Option.rec _ (fun zz=>Bool) true (fun i=>!(Z.eqB i 0)) o
noncomputable def eN (lo hi:Option Int)(n:Nat):List Nat:=Builtin.Str.strSliceIndices lo hi 1 n
def zJ (u:AV) (lo hi st:Option Int) (σ:ST):R AV:=match u with
 |.str l=>gd (@Option.rec _ (fun zz=>Bool) true (fun zz=>false) st) (itR (Nat.beq (eN lo hi l.length).length l.length) (.ok (.str l) σ) (gd (Nat.ble ((eN lo hi l.length).filterMap (bp l)).length 1000000) (.ok (.str ((eN lo hi l.length).filterMap (bp l))) σ)))
 |u=>bz u σ fun zz es=>gd (zI st&&Nat.ble es.length 1000) (eK (.lst (je es lo hi st)) σ)
def El (tb:Tb) (ex:EX) (value slice:Expr) (fr:AF) (σ:ST):R AV:=(ex value fr σ).bind fun u σ₁=>match slice with
 |.Slice lo hi st _=>(lU ex lo fr σ₁).bind fun l σ₂=>(lU ex hi fr σ₂).bind fun h σ₃=>(lU ex st fr σ₃).bind fun t σ₄=>zJ u l h t σ₄
 |slice=>(ex slice fr σ₁).bind fun i σ₂=>zH tb u i σ₂
section
variable {d:Dx}{V W:Vl}{fr fr':AF}{σ σ':ST}{s:Shared}{E:Value->Shared->Prop}{β γ:Type}
theorem Dens.nth:∀{es:List AV} {us:List Value} {j:Nat} {v:AV},Dens V es us->bp es j=some v->∃u,us[j]? = some u/\Den V v u
 |[],[],_,_,_,e=>ag e
 |_::_,u::_,0,_,⟨q,_⟩,e=>⟨u,rfl,soo e▸q⟩
 |_::_,_::_,n+1,_,⟨_,q⟩,e=>let ⟨u,a,b⟩:=q.nth (j:=n) e;⟨u,List.getElem?_cons_succ.trans a,b⟩
 |[],_::_,_,_,q,_|_::_,[],_,_,q,_=>q.elim
theorem Dens.pick {es:List AV}{us:List Value}(q:Dens V es us):∀js:List Nat,Dens V (js.filterMap (bp es)) (js.filterMap (us[·]?))
 |[]=>trivial
 |j::js=>by
  rw[List.filterMap_cons,List.filterMap_cons];generalize h:bp es j=x';induction x' using aF with
  |some v=>
   refine aj (q.nth h) fun u h1 h2=>?_;rw[h1];exact ⟨h2,q.pick js⟩
  |none=>
   rw[br]at h;have:us[j]? = none:=by rw[List.getElem?_eq_none_iff]at h ⊢;rw[q.length];exact h
   rw[this];exact q.pick js
theorem Zs.val {x:Str}:∀{a:List (Str×AV)} {b:List (Str×Value)},Zs V a b->(∀{v:AV},Nu.Internal.aw a x=some v->∃u,valueAt b x=some u/\Den V v u)/\(Nu.Internal.aw a x=none->valueAt b x=none)
 |[],[],_=>⟨fun h=>ag h,fun zz=>rfl⟩
 |p::r,q::t,⟨h1,h2,h3⟩=>by
  rw[aY];unfold valueAt;rw[List.find?_cons];by_cases e:p.1=x
  ·rw[if_pos e,decide_eq_true (h1▸e)];exact ⟨fun h=>⟨_,rfl,soo h▸h2⟩,fun h=>ag h.symm⟩
  ·rw[if_neg e,decide_eq_false fun z=>e (h1.trans z)];exact h3.val
 |[],_::_,h|_::_,[],h=>h.elim
theorem oz {es:List AV}{us:List Value}{i:AV}{ax:Addr}{ui:Value}(ds:Dens V es us)(di:Den V i ui):Snd (lT es i σ) fun v σ'=>∀s Q E,At d V fr σ s->Po d V fr σ' s (DE v) Q->(s.heap.IsList ax us.toArray\/IsTup s.heap ax us.toArray)->wpAny d.M d.A (getItem (.ref ax) ui) Q E s:=
 Snd.int fun k hk=>Snd.gd fun hb=>Snd.opt fun j hj=>Snd.opt fun v hv=>Snd.ok fun s Q E a P h=>by
  refine ay (jd hb) fun b1 b2=>?_;refine bU (kF hj) fun i1 i2 i3=>?_;refine aj (ds.nth hv) fun u hu du=>?_;refine av (di.i hk) fun t z'1=>?_;obtain rfl:=z'1;have hl:=ds.length;have q:=P.here a (u:=u) du;rcases h with h|h
  ·rcases i3 with rfl|⟨i4,i5⟩
   ·exact wpAny_getItem_list h (by lia) (by lia) (x:=u) (by simpa using hu) q
   ·exact wpAny_getItem_list_neg h i4 (by rw[List.size_toArray,hl];lia) (by lia) (x:=u) (by rw[List.size_toArray,hl,i5];simpa using hu) q
  ·exact PyProof.Rows.getItem_tuple h (by lia) (by lia) (j:=j) (x:=u) (by rw[List.size_toArray,hl];exact i1) (by simpa using hu) q
theorem At.dic (a:At d V fr σ s){v:AV}{i:Nat}{kvs:List (Str×AV)}{u:Value}(hv:v=.obj i)(ho:aa σ.os i=some (.dic kvs))(du:Den V v u) :
  ∃ax o us,u=.ref ax/\V.ρ i=some ax/\s.heap.get? ax=some o/\(ax==sysModules)=false/\(∀prog,o.IsDictOf (strKind prog d.w) us)/\Zs V kvs us:=a.has ho fun l hl g=>by
 rw[hv]at du;refine aj du fun ax hρ du'2=>?_;clear du;obtain rfl:=du'2;refine cK hl fun y o us h1 h2 h3 h4 hl'7=>?_;clear hl;obtain rfl:=hl'7;obtain rfl:=soo (hρ.symm.trans h1);exact ⟨ax,o,us,rfl,hρ,g _ (.head _),h2,h3,h4⟩
theorem d8 {prog:Program}{w:World}(x:List Nat)(t:Tok):(strKind prog w).is ⟨x.toArray⟩ (.str ⟨x.toArray⟩ t)=true:=strKind_is prog w _ t
theorem Den.str {a:AV}{x:List Nat}{u:Value}(h:a=.str x)(du:Den V a u):∃t,u=.str ⟨x.toArray⟩ t:=by rw[h]at du;exact du
def Itm (d:Dx) (o k:Value) (s:Shared) (Q:Value->Shared->Prop) (E:Value->Shared->Prop):Prop:=(∃T id,s.TypeIs o T/\typeLookup (.type T) "__getitem__" = pure (some (.builtin id)))/\wpAny d.M d.A (getItem o k) Q E s
def TI (d:Dx) (V:Vl) (fr:AF) (σ:ST) (o k:Value) (v:AV) (σ':ST):Prop:=∀s Q E,At d V fr σ s->Po d V fr σ' s (DE v) Q->Itm d o k s Q E
theorem nv {kvs:List (Str×AV)}{us:List (Str×Value)}{i:AV}{ax:Addr}{ui:Value}(z:Zs V kvs us)(di:Den V i ui):Snd (nu kvs i σ) fun v σ'=>∀s Q E,At d V fr σ s->Po d V fr σ' s (DE v) Q->∀o,s.heap.get? ax=some o->(∀prog,o.IsDictOf (strKind prog d.w) us)->Itm d (.ref ax) ui s Q E:=
 Snd.str fun x hx=>Snd.opt fun v hv=>Snd.ok fun s Q E a P o ho hd=>by
  refine av (di.str hx) fun t z'1=>?_;obtain rfl:=z'1;refine aj (z.val.1 hv) fun u h1 h2=>?_;have hD:=Heap.dictOf_iff.mpr ⟨o,ho,hd d.prog⟩;exact ⟨⟨_,_,hD.typeIs,slot_dict_getitem.lookup⟩,wpAny_getItem_of (d8 _ t) hD.mapOf h1 (P.tok a h2 _)⟩
theorem v8 {l:List Nat}{i:AV}{t:Tok}{ui:Value}(di:Den V i ui):Snd (Ek l i σ) (TI d V fr σ (.str ⟨l.toArray⟩ t) ui):=
 Snd.int fun k hk=>Snd.gd fun hb=>Snd.opt fun j hj=>Snd.opt fun c hc=>Snd.ok fun s Q E a P=>by
  refine av (di.i hk) fun t' z'1=>?_;obtain rfl:=z'1;refine ay (jd hb) fun b1 b2=>?_;refine bU (kF hj) fun i1 i2 i3=>?_;refine ⟨⟨_,_,typeIs_str s _ t,F.slot_str_getitem.lookup⟩,PyProof.Rows.getItem_str (c:=c) ?_ ?_ (P.tok a ⟨_,rfl⟩ _)⟩
  ·rw[Bool.or_eq_false_iff,decide_eq_false_iff_not,decide_eq_false_iff_not];lia
  ·show (seqIndex? k (Array.size _)).bind _=_;rw[List.size_toArray,i1,Option.bind_some];show l.toArray[j]? = _;rw[br]at hc;simpa using hc
theorem zK {u i:AV}{o ui:Value}(du:Den V u o)(di:Den V i ui):Snd (sj u σ fun kvs=>nu kvs i σ) (TI d V fr σ o ui):=
 Snd.ao fun j ob hv ho=>by
  induction ob using aN<;>first|exact Snd.no|skip
  exact fun v σ' e s Q E a P=>a.has ho fun l hl g=>by
   refine mX hl fun x ob us y oi ep h1 zy h3 h4 zy zy hl'12=>?_;clear hl;obtain rfl:=hl'12;rw[hv]at du;refine aj du fun ax hρ du'2=>?_;clear du;obtain rfl:=du'2;obtain rfl:=soo (hρ.symm.trans h1);exact nv h4 di v σ' e s Q E a P ob (g _ (.head _)) fun prog=>let ⟨es,r⟩:=h3 prog;⟨es,ep,r⟩
theorem v9 {u i:AV}{o ui:Value}(rm:Room d.A 0)(du:Den V u o)(di:Den V i ui):Snd ((bz u σ fun zz es=>lT es i σ).or ((et u σ fun zz es=>lT es i σ).or ((eu u σ fun zz kvs=>nu kvs i σ).or ((Ej u i σ).or (sj u σ fun kvs=>nu kvs i σ))))) (TI d V fr σ o ui):=
 Snd.or (Snd.lst fun j es hv ho v σ' e s Q E a P=>by
  refine bt (a.lst hv ho du) fun ax us z'2 zy ds h=>?_;obtain rfl:=z'2;exact ⟨⟨_,_,h.typeIs,slot_list_getitem.lookup⟩,oz ds di v σ' e s Q E a P (.inl h)⟩)
 (Snd.or (Snd.tup fun j es hv ho v σ' e s Q E a P=>by
  refine bt (a.tup hv ho du) fun ax us z'2 zy ds h=>?_;obtain rfl:=z'2;exact ⟨⟨_,_,h.typeIs,slot_tuple_getitem.lookup⟩,oz ds di v σ' e s Q E a P (.inr h)⟩)
 (Snd.or (Snd.dic fun j kvs hv ho v σ' e s Q E a P=>by
  refine ir (a.dic hv ho du) fun ax ob us z'3 zy hg zy hd z=>?_;obtain rfl:=z'3;exact nv z di v σ' e s Q E a P ob hg hd)
 (Snd.or (Snd.row fun j ob e h1=>Snd.opt fun p hp=>Snd.bind fun ks σ₁ h2=>Snd.gd fun h3=>Snd.ok fun s Q E a P=>by
  subst hp;refine ay (r8 (E:=E) h1 h2 h3 rm di du a P) fun q1 q2=>?_;exact ⟨⟨_,_,q1,slot_dict_getitem.lookup⟩,q2⟩) (zK du di))))
theorem zL {u i:AV}{o ui:Value}(rm:Room d.A 0)(du:Den V u o)(di:Den V i ui):Snd (zH d.tb u i σ) (TI d V fr σ o ui):=by
 induction u using aA<;>first|exact v9 rm du di|skip
 ·refine av du fun t du'1=>?_;clear du;obtain rfl:=du'1;exact v8 di
 ·obtain rfl:=du;exact Snd.opt fun kvs hk v σ' e s Q E a P=>by
   obtain ⟨_,o,us,h1,h2,h3⟩:=a.c.O.dcs _ _ hk;exact nv (h3 V) di v σ' e s Q E a P o (a.Xs _ _ h1) h2
theorem sm {v:AV}{p:Option Int}{u:Value}(h:yn v=some p)(du:Den V v u):IsPart u p:=by
 induction v using aA<;>first|exact ag h|obtain rfl:=soo h
 ·obtain rfl:=du;exact .none
 ·refine av du fun t du'1=>?_;clear du;obtain rfl:=du'1;exact .int _ t
def DP (p:Option Int) (_:Vl) (u:Value):Prop:=IsPart u p
theorem e9 {n:Nat}{ex:EX}(ie:EOk d.tb n ex)(rm:Room d.A n){e:Option Expr}:Snd (lU ex e fr σ) fun i σ'=>Tr d V fr σ (evalPart e d.ev) fr σ' (DP i):=by
 induction e using aF with
 |none=>exact Snd.ok fun s Q E a P=>au (P.here a .none)
 |some e=>exact Snd.bind fun v σ₁ h1=>Snd.opt fun p hp=>Snd.ok ((ie h1 rfl rm).map (g:=id) (fun h=>h) fun W u le du=>sm hp du)
theorem oA (us:List Value)(lo hi st:Option Int):slicePick us.toArray lo hi st=((sliceRange (sliceBounds lo hi st us.length).1 (sliceBounds lo hi st us.length).2.1 (sliceBounds lo hi st us.length).2.2).filterMap (us[·]?)).toArray:=by
 unfold slicePick;rw[List.size_toArray];congr 1;congr 1
 funext j
 simp
theorem lV {u:Value}{i:Option Int}(h:IsPart u i):∃l:Option (Int×Tok),u=partValue l/\l.map (·.1)=i:=by
 cases h with
 |none=>exact ⟨none,rfl,rfl⟩
 |int i t=>exact ⟨some (i,t),rfl,rfl⟩
theorem wa {u:AV}{o vl vu vs:Value}{lo hi st:Option Int}{sl:Addr}(du:Den V u o)(pl:IsPart vl lo)(pu:IsPart vu hi)(pt:IsPart vs st) :
  Snd (bz u σ fun zz es=>gd (zI st&&Nat.ble es.length 1000) (eK (.lst (je es lo hi st)) σ)) fun v σ'=>∀s Q E,At d V fr σ s->Po d V fr σ' s (DE v) Q->s.heap.IsSliceOf sl vl vu vs->Itm d o (.ref sl) s Q E:=
 Snd.lst fun i es hv ho=>Snd.gd fun hg=>Snd.ok fun s Q E a P hs=>by
  have hz:=an1 hg;have hl:=an2 hg;refine bt (a.lst hv ho du) fun ax us z'2 zy ds h=>?_;obtain rfl:=z'2;have hlen:=ds.length;have hl:=az hl;refine ⟨⟨_,_,h.typeIs,slot_list_getitem.lookup⟩,wpAny_getItem_list_slice h hs pl pu pt ?_ ?_ (by rw[List.size_toArray];have:=bC;lia)⟩
  ·rintro rfl;exact ak hz
  ·rw[oA,hlen];exact P.push (tk:=s.toks) a rfl (dZ (ds.pick _))
set_option tactic.hygienic true in
theorem wb {l:List Nat}{vl vu vs:Value}{lo hi st:Option Int}{sl:Addr}{t:Tok}(pl:IsPart vl lo)(pu:IsPart vu hi)(pt:IsPart vs st):Snd (zJ (.str l) lo hi st σ) fun v σ'=>∀s Q E,At d V fr σ s->Po d V fr σ' s (DE v) Q->s.heap.IsSliceOf sl vl vu vs->Itm d (.str ⟨l.toArray⟩ t) (.ref sl) s Q E:=by
 refine aj (lV pl) fun l' z'1 hl'=>?_;obtain rfl:=z'1;refine aj (lV pu) fun u' z'1 hu'=>?_;obtain rfl:=z'1;cases pt with
 |int=>exact Snd.no
 |none=>
  have hp:slicePicked ⟨l.toArray⟩ l' u' none=eN lo hi l.length:=by
   unfold slicePicked eN;rw[hl',hu'];show Builtin.Str.strSliceIndices lo hi 1 (Array.size _)=_;rw[List.size_toArray]
  have len:(Str.mk l.toArray).length=l.length:=d6 l;have e3:(fun j=>l.toArray[j]?)=bp l:=funext fun j=>by rw[br];simp
  have main:∀{s:Shared} {Q:Value->Shared->Prop} {E},(if ((eN lo hi l.length).length==(Str.mk l.toArray).length)=true then Q (.str ⟨l.toArray⟩ t) s else ((eN lo hi l.length).filterMap fun x=>(Str.mk l.toArray).cps[x]?).length<=sizeLine/\∀tk,Q (.str ⟨((eN lo hi l.length).filterMap (bp l)).toArray⟩ tk) { s with toks:=s.toks+1 })->s.heap.IsSliceOf sl (partValue l') (partValue u') .none->Itm d (.str ⟨l.toArray⟩ t) (.ref sl) s Q E:=fun {s Q E} h hs=>by
   refine ⟨⟨_,_,typeIs_str s _ t,F.slot_str_getitem.lookup⟩,wpAny_getItem_str_slice (l:=l') (u:=u') (st:=none) hs rfl ?_⟩;unfold sliceMade;rw[hp]
   split at h
   ·rename_i hb;rw[if_pos (show ((Option.map (fun x:Int×Tok=>x.1) none).getD 1==1&&_)=true from hb)];exact h
   ·rename_i hb;rw[if_neg (show ¬ ((Option.map (fun x:Int×Tok=>x.1) none).getD 1==1&&_)=true from hb)];refine ⟨by show Array.size _<=_;rw[List.size_toArray];exact h.1,?_⟩;rw[show (fun x=>(Str.mk l.toArray).cps[x]?)=(fun j=>l.toArray[j]?) from rfl,e3];exact h.2 _
  show Snd (gd true (itR (Nat.beq (eN lo hi l.length).length l.length) (.ok (AV.str l) σ) (gd (Nat.ble ((eN lo hi l.length).filterMap (bp l)).length 1000000) (.ok (AV.str ((eN lo hi l.length).filterMap (bp l))) σ)))) _;refine Snd.gd fun zz=>Snd.it (fun hb=>Snd.ok fun s Q E a P hs=>main (by rw[len,dY,if_pos hb];exact P.here a ⟨t,rfl⟩) hs) fun hb=>Snd.gd fun hg=>Snd.ok fun s Q E a P hs=>main ?_ hs;rw[len,dY,hb,if_neg (by decide)];rw[show (fun x=>(Str.mk l.toArray).cps[x]?)=(fun j=>l.toArray[j]?) from rfl,e3];exact ⟨by have:=bC;have:=az hg;lia,fun tk=>P.tok a ⟨_,rfl⟩ _⟩
theorem zM {u:AV}{o vl vu vs:Value}{lo hi st:Option Int}{sl:Addr}(du:Den V u o)(pl:IsPart vl lo)(pu:IsPart vu hi)(pt:IsPart vs st):Snd (zJ u lo hi st σ) fun v σ'=>∀s Q E,At d V fr σ s->Po d V fr σ' s (DE v) Q->s.heap.IsSliceOf sl vl vu vs->Itm d o (.ref sl) s Q E:=by
 induction u using aA<;>first|exact wa du pl pu pt|skip
 refine av du fun t du'1=>?_;clear du;obtain rfl:=du'1;exact wb pl pu pt
theorem At.junk {o:Obj}(a:At d V fr σ s):At d V fr σ { s with heap:=s.heap.push o }:=a.ext fun zz zz zz e=>Heap.get?_push_of_some _ e
noncomputable def yo:Expr->Bool
 |.Slice ..=>false
 |_=>true
theorem so {slice:Expr}{u v:Value}(h:yo slice=true):subscripted slice false u v=operate [u,v] (getItem u v):=by
 induction slice using bc<;>first|rfl|exact ak h
set_option tactic.hygienic true in
theorem wc {n:Nat}{ex:EX}(ie:EOk d.tb n ex)(rm:Room d.A n){value slice:Expr}{pos:Pos}:Snd (El d.tb ex value slice fr σ) (TE d V fr σ (eval (.Subscript value slice pos) d.ev)):=
 Snd.bind fun u σ₁ h1=>by
  have main:yo slice=true->Snd ((ex slice fr σ₁).bind fun i σ₂=>zH d.tb u i σ₂) (TE d V fr σ (eval (.Subscript value slice pos) d.ev)):=fun hn=>Snd.bind fun i σ₂ h2 v σ' e s Q E a P=>
   PyProof.Rows.Subscript_ (ie h1 rfl rm _ _ _ a fun uv h tk W le du a₁=>by
    have h3:wpAny d.M d.A (eval slice d.ev) (fun ui s₂=>wpAny d.M d.A (subscriptTail value slice uv ui) Q E s₂) E (Shared.to s h tk):=ie h2 rfl rm _ _ _ a₁ fun u' h' tk' W' le' du' a₂=>by
     refine ay (zL (rm.mono (bD _)) (du.mono le') du' v σ' e _ _ E a₂ ((P.from le).from le')) fun z'0 q3=>?_;refine aI z'0 fun T id q1 q2=>?_;clear z'0;exact tail_any (ops:=[uv,u']) q1 q2 q3 (so hn)
    exact h3)
  induction slice using bc<;>first|exact main rfl|skip
  rename_i lo hi st sp;exact Snd.bind fun l σ₂ h2=>Snd.bind fun hh σ₃ h3=>Snd.bind fun t σ₄ h4=>fun v σ' e s Q E a P=>
   PyProof.Rows.Subscript_ (ie h1 rfl rm _ _ _ a fun uv h tk W le du a₁=>wpAny_Slice (e9 ie rm l σ₂ h2 _ _ _ a₁ fun u' h' tk' W' le' d' a₂=>e9 ie rm hh σ₃ h3 _ _ _ a₂ fun u'' h'' tk'' W'' le'' d'' a₃=>e9 ie rm t σ₄ h4 _ _ _ a₃ fun u3 h3' tk3 W3 le3 d3 a₄=>by
    refine ay (zM (du.mono (le'.trans (le''.trans le3))) d' d'' d3 v σ' e _ _ E a₄.junk ((((P.from le).from le').from le'').from le3) (Heap.IsSliceOf.new _ _ _ _)) fun z'0 q3=>?_;refine aI z'0 fun T id q1 q2=>?_;clear z'0
    induction st using aF with
    |none=>exact tail_any (ops:=[_,_]) q1 q2 q3 rfl
    |some _=>exact tail_any (ops:=[_,_]) q1 q2 q3 rfl))
end
end
noncomputable def lW:List Nat->Bool
 |[]=>true
 |c::r=>Nat.blt c 1000000&&lW r
theorem lX:∀{l:List Nat},lW l=true->∀c∈l,c < 1000000
 |[]=>fun zz zz h=>by cases h
 |a::r=>fun e c h=>by
  have h1:=an1 e;have h2:=an2 e;rcases aG h with rfl|h
  ·exact az h1
  ·exact lX h2 c h
def bO {α β:Type} (o:Option α) (k:α->Option β):Option β:=@Option.rec _ (fun zz=>Option β) none k o
theorem bL {α β:Type}{o:Option α}{k:α->Option β}{b:β}(h:bO o k=some b):∃a,o=some a/\k a=some b:=by
 induction o using aF with
 |none=>exact ag h
 |some a=>exact ⟨a,rfl,h⟩
def cdL (f:AV->Option Cd):List AV->Option Cd
 |[]=>some .nil
 |a::r=>bO (f a) fun c=>bO (cdL f r) fun d=>some (.cons c d)
def yp (o:Option AO):Option (List AV):=@Option.rec _ (fun zz=>Option (List AV)) none (fun o=>match o with|.lst es=>some es|_=>none) o
theorem sv {o:Option AO}{es:List AV}(h:yp o=some es):o=some (.lst es):=by
 induction o using aF with
 |none=>exact ag h
 |some o=>induction o using aN<;>first|exact ag h|(obtain rfl:=soo h;rfl)
def zN (σ:ST):Nat->AV->Option Cd
 |0,_=>none
 |n+1,v=>match v with
  |.non=>some .non
  |.boo b=>some (.boo b)
  |.int i=>gdO (big i) (.int i)
  |.str l=>gdO (lW l&&Nat.ble l.length 10) (.str l)
  |.uv k=>some (.uv k)
  |.obj i=>bO (yp (aa σ.os i)) fun es=>bO (cdL (zN σ n) es) fun c=>gdO (Nat.ble es.length 16) (.lst c)
  |_=>none
structure lY (h:Heap) (u:Value) (d:PyData) (n:Nat):Prop where
 r:∃as,Reads h u d as
 s:d.showable=true
 nd:d.hasDict=false
 dp:d.depth<=n
 ln:d.shown.length<=110*17 ^ n
structure oD (h:Heap) (us:List Value) (ds:List PyData) (n:Nat):Prop where
 r:∃as,ReadsAll h us ds as
 s:PyData.showableAll ds=true
 nd:PyData.hasDictAll ds=false
 dp:PyData.depthAll ds<=n
 ln:((PyData.shownAll ds).map (·.length)).sum<=us.length*(110*17 ^ n)
 len:(PyData.shownAll ds).length=us.length
theorem sy (n:Nat):1<=17 ^ n:=Nat.one_le_pow _ _ (by decide)
theorem ny {i:Int}(h:i.natAbs < 10 ^ 10)(n:Nat):(PyData.int i).showable=true/\(PyData.shown (.int i)).length<=110*17 ^ n:=by
 refine ⟨?_,?_⟩
 ·show decide (i.natAbs.log2 < 1920)=true;refine decide_eq_true ?_;have h2:i.natAbs < 2 ^ 40:=Nat.lt_trans h (by decide);by_cases z:i.natAbs=0
  ·rw[z];decide
  ·exact Nat.lt_trans ((Nat.log2_lt z).mpr h2) (by decide)
 ·have e:(PyData.shown (.int i))=Str.ofString (toString i):=rfl;rw[e,PySem.ofString_length];have:=int_text_length_le10 (k:=10) (by decide) h;have:=sy n;lia
theorem lZ:(PyData.shown .none).length<=110:=by decide +kernel
theorem sE (b:Bool):(PyData.shown (.bool b)).length<=110:=by induction b using aH<;>decide +kernel
theorem iF {h:Heap}{u:Value}{d:PyData}{n:Nat}(r:∃as,Reads h u d as)(s:d.showable=true)(nd:d.hasDict=false)(dp:d.depth=0)(ln:d.shown.length<=110):lY h u d n:=
 ⟨r,s,nd,by rw[dp];exact bD _,ba ln (Nat.le_mul_of_pos_right 110 (sy n))⟩
theorem Em {i:Int}(h1 : -1000000000 < i)(h2:i < 1000000000):i.natAbs < 10 ^ 10:=by lia
theorem sF {h:Heap}{i:Int}{t:Tok}{n:Nat}(q:i.natAbs < 10 ^ 10):lY h (.int i t) (.int i) n:=⟨⟨_,.int _ _⟩,(ny q n).1,rfl,bD _,(ny q n).2⟩
theorem zO {h:Heap}{l:List Nat}{t:Tok}{n:Nat}(h1:lW l=true)(h2:Nat.ble l.length 10=true):lY h (.str ⟨l.toArray⟩ t) (.str ⟨l.toArray⟩) n:=by
 refine iF ⟨_,.str _ _⟩ rfl rfl rfl ?_;have:=PySem.StrLaws.reprText_len ⟨l.toArray⟩ (fun c hc=>Nat.lt_trans (lX h1 c (by simpa using hc)) (by decide));rw[d6 l]at this;have h2:=az h2;show (reprText _).length<=_;lia
theorem we {h:Heap}{ax:Addr}{us:List Value}{ds:List PyData}{n:Nat}(l1:h.IsList ax us.toArray)(z:oD h us ds n)(hl:us.length<=16):lY h (.ref ax) (.list ds) (n+1):=by
 obtain ⟨⟨as,r⟩,z1,z2,z3,z4,z5⟩:=z;obtain ⟨o,ho',hcl,k,hd⟩:=l1;refine ⟨⟨_,.list ho' hcl hd (by simpa using r)⟩,z1,z2,Nat.succ_le_succ z3,?_⟩;show (listText (PyData.shownAll _)).length<=_;have:=listText_len_le (PyData.shownAll ds);rw[z5]at this;have e3:110*17 ^ (n+1)=17*(110*17 ^ n):=by rw[Nat.pow_succ,<-Nat.mul_assoc,Nat.mul_comm]
 rw[e3];have e4:110<=110*17 ^ n:=Nat.le_mul_of_pos_right 110 (sy n);generalize 110*17 ^ n=B at *;have:us.length*B<=16*B:=Nat.mul_le_mul_right _ hl;lia
theorem sG {h:Heap}{u:Value}{us:List Value}{d:PyData}{ds:List PyData}{n:Nat}(x:lY h u d n)(y:oD h us ds n):oD h (u::us) (d::ds) n:=by
 obtain ⟨⟨a1,r1⟩,s1,n1,p1,l1⟩:=x;obtain ⟨⟨a2,r2⟩,s2,n2,p2,l2,q2⟩:=y;refine ⟨⟨_,.cons r1 r2⟩,?_,?_,Nat.max_le.mpr ⟨p1,p2⟩,?_,?_⟩
 ·show (PyData.showable _&&PyData.showableAll _)=true;rw[s1,s2];rfl
 ·show (PyData.hasDict _||PyData.hasDictAll _)=false;rw[n1,n2];rfl
 ·show (PyData.shown _).length+((PyData.shownAll _).map (·.length)).sum<=_;rw[List.length_cons,Nat.succ_mul];lia
 ·show (PyData.shownAll _).length+1=_;rw[q2];rfl
section
variable {d:Dx}{V W:Vl}{fr fr':AF}{σ σ':ST}{s:Shared}{E:Value->Shared->Prop}{β γ:Type}
theorem sH {h:Heap}{f:AV->Option Cd}{n:Nat}(ih:∀{v c u},f v=some c->Den V v u->lY h u (c.dat V) n):∀{vs:List AV} {c:Cd} {us:List Value},cdL f vs=some c->Dens V vs us->oD h us (c.dats V) n
 |[],c,[],e,q=>by obtain rfl:=soo e;exact ⟨⟨_,.nil⟩,rfl,rfl,bD _,bD _,rfl⟩
 |v::vs,c,u::us,e,⟨q,qs⟩=>by
  refine aj (bL e) fun c1 h1 e=>?_;refine aj (bL e) fun c2 h2 e=>?_;obtain rfl:=soo e;exact sG (ih h1 q) (sH ih h2 qs)
 |[],_,_::_,_,q|_::_,_,[],_,q=>q.elim
set_option tactic.hygienic true in
theorem wf (a:At d V fr σ s)(n:Nat):∀{v:AV} {c:Cd} {u:Value},zN σ n v=some c->Den V v u->lY s.heap u (c.dat V) n:=by
 induction n with
 |zero=>exact fun e zz=>ag e
 |succ n ih=>
  intro v c u e q
  induction v using aA<;>first|exact ag e|skip
  ·obtain rfl:=soo e;obtain rfl:=q;exact iF ⟨_,.none⟩ rfl rfl rfl lZ
  ·obtain rfl:=soo e;obtain rfl:=q;exact iF ⟨_,.bool _⟩ rfl rfl rfl (sE _)
  ·refine ay (ci e) fun hb z'1=>?_;obtain rfl:=z'1;refine av q fun t q'1=>?_;clear q;obtain rfl:=q'1;refine ay (jd hb) fun b1 b2=>?_;exact sF (Em b2 b1)
  ·refine ay (ci e) fun hb z'1=>?_;obtain rfl:=z'1;refine av q fun t q'1=>?_;clear q;obtain rfl:=q'1;have h1:=an1 hb;have h2:=an2 hb;exact zO h1 h2
  ·refine aj (bL e) fun es h1 e=>?_;refine aj (bL e) fun c' h2 e=>?_;refine ay (ci e) fun hl z'1=>?_;obtain rfl:=z'1;refine bt (a.lst rfl (sv h1) q) fun ax us z'2 zy ds l1=>?_;obtain rfl:=z'2;exact we l1 (sH ih h2 ds) (by rw[ds.length];exact az hl)
  ·rename_i k;obtain rfl:=soo e;obtain ⟨hk,q⟩:=q;refine ay (a.v.num.2.1 k hk) fun u1 u2=>?_;show lY _ _ (if V.ι k=-1 then PyData.none else PyData.int (V.ι k)) _;rcases q with ⟨h1,rfl⟩|⟨h1,t,rfl⟩
   ·rw[if_pos h1];exact iF ⟨_,.none⟩ rfl rfl rfl lZ
   ·rw[if_neg h1];exact sF (Em (Int.lt_of_lt_of_le (by decide) u1) (Int.lt_trans u2 (by decide)))
def Ep (v:AV) (σ:ST):R AV:=aE (zN σ 4 v) fun c=>.ok (.rp c) σ
theorem At.keep {h':Heap}(a:At d V fr σ s)(hk:∀b o,s.heap.get? b=some o->h'.get? b=some o):At d V fr σ { s with heap:=h' }:=a.ext fun b o zz e=>hk b o e
theorem zP (rm:Room d.A 1){v:AV}{u:Value}(du:Den V v u):Snd (Ep v σ) (TE d V fr σ (call (.builtin "repr") [u])):=
 Snd.opt fun c hc=>Snd.ok fun s Q E a P=>by
  obtain ⟨⟨as,r⟩,z1,z2,z3,z4⟩:=wf a 4 hc du;have hsz:(c.dat V).shown.length<=sizeLine:=ba z4 (by rw[sizeLine_eq];decide);have dn:∀t,Den V (.rp c) (.str (c.dat V).shown t):=fun t=>⟨t,rfl⟩
  generalize c.dat V=dd at *;have hu:d.A.units+20<=cLine:=by have:=rm.2;lia
  cases r with
  |none=>exact PySem.P.repr_of_none (P.tok a (dn _) _)
  |bool b=>exact PySem.P.repr_of_bool (P.tok a (dn _) _)
  |int i t=>exact PySem.P.repr_of_int (of_decide_eq_true z1) (P.tok a (dn _) _)
  |str x t=>exact PySem.P.repr_of_str (P.tok a (dn _) _) hsz
  |list h1 h2 h3 h4=>exact repr_of_reads' (.list h1 h2 h3 h4) z1 (PyData.noDict_hsm z2) a.c.hg (by lia) (fun zz zz e=>e) (fun h' u tk hk=>P _ h' tk V (.refl V) (dn _) ((a.keep hk).tok tk)) hsz
  |tuple h1 h2 h3 h4=>exact repr_of_reads' (.tuple h1 h2 h3 h4) z1 (PyData.noDict_hsm z2) a.c.hg (by lia) (fun zz zz e=>e) (fun h' u tk hk=>P _ h' tk V (.refl V) (dn _) ((a.keep hk).tok tk)) hsz
  |dict h1 h2 h3 h4 h5=>exact ak z2.symm
noncomputable def tyO:AO->Option Nat
 |.inst C _ _=>some (C+1000)
 |.lst _=>some 4
 |.tup _=>some 5
 |.dic _=>some 6
 |_=>none
def tyA (v:AV) (σ:ST):Option Nat:=match v with
 |.non=>some 0
 |.boo _=>some 1
 |.int _=>some 2
 |.si _ _=>some 2
 |.str _=>some 3
 |.ss _ _ _=>some 3
 |.ut _=>some 3
 |.rp _=>some 3
 |.lo _=>some 2
 |.obj i=>bO (aa σ.os i) tyO
 |_=>none
def clA:AV->Option Nat
 |.ty n=>gdO (Nat.blt n 1000) n
 |.st C=>some (C+1000)
 |_=>none
def Er (tb:Tb) (v c:AV) (σ:ST):R AV:=aE (tyA v σ) fun t=>aE (clA c) fun n=>aE (aa tb.isi t) fun l=>aE (aa l n) fun b=>.ok (.boo b) σ
theorem zQ (a:At d V fr σ s){i:Nat}{o:AO}{u:Value}{t:Nat}{l:List (Nat×Bool)}(ho:aa σ.os i=some o)(e:tyO o=some t)(el:aa d.tb.isi t=some l)(du:Den V (.obj i) u):∃H,KitX d.K u (hF t) H/\H s.heap/\u≠.builtin "__main__.__loader__#opaque":=by
 induction o using aN<;>first|exact ag e|obtain rfl:=soo e
 ·refine y0 (a.c.O.ti.own _ l el) fun g1 g2 g3 g4 g5 g6=>?_;exact a.inst rfl ho du fun m news y dx es k X hu zz En I=>by
   rw[hu,pX];exact ⟨_,(kitx_own g1 g2 g3 g4 g5 g6:KitX d.K (.ref y) (.ref _) _),I,nofun⟩
 ·obtain ⟨ax,us,rfl,_,_,o,h1,h2,h3⟩:=a.lst rfl ho du;exact ⟨_,kitx_list,⟨o,h1,h2⟩,nofun⟩
 ·obtain ⟨ax,us,rfl,_,_,o,h1,h2,h3⟩:=a.tup rfl ho du;exact ⟨_,kitx_tuple,⟨o,h1,h2⟩,nofun⟩
 ·refine ir (a.dic rfl ho du) fun ax o us z'3 zy hg zy hd zy=>?_;obtain rfl:=z'3;exact ⟨_,kitx_dict,⟨o,hg,(hd default).choose_spec.choose_spec.1.1⟩,nofun⟩
theorem zR (a:At d V fr σ s){v:AV}{u:Value}{t:Nat}{l:List (Nat×Bool)}(e:tyA v σ=some t)(el:aa d.tb.isi t=some l)(du:Den V v u):∃H,KitX d.K u (hF t) H/\H s.heap/\u≠.builtin "__main__.__loader__#opaque":=by
 induction v using aA<;>first
  |exact ag e
  |(refine aj (bL e) fun o ho e=>?_;exact zQ a ho e el du)
  |obtain rfl:=soo e
 ·obtain rfl:=du;exact ⟨_,kitx_none,trivial,nofun⟩
 ·obtain rfl:=du;exact ⟨_,kitx_bool,trivial,nofun⟩
 ·refine av du fun zy du'1=>?_;clear du;obtain rfl:=du'1;exact ⟨_,kitx_int,trivial,nofun⟩
 ·refine av du fun zy du'1=>?_;clear du;obtain rfl:=du'1;exact ⟨_,kitx_str,trivial,nofun⟩
 ·refine av du fun zy du'1=>?_;clear du;obtain rfl:=du'1;exact ⟨_,kitx_int,trivial,nofun⟩
 ·refine aI du fun zy zy zy du'3=>?_;clear du;obtain rfl:=du'3;exact ⟨_,kitx_str,trivial,nofun⟩
 ·refine av du fun zy du'1=>?_;clear du;obtain rfl:=du'1;exact ⟨_,kitx_str,trivial,nofun⟩
 ·refine aI du fun zy zy du'2 zy=>?_;clear du;obtain rfl:=du'2;exact ⟨_,kitx_str,trivial,nofun⟩
 ·refine aI du fun zy zy du'2 zy=>?_;clear du;obtain rfl:=du'2;exact ⟨_,kitx_int,trivial,nofun⟩
theorem zS {v c:AV}{u uc:Value}(du:Den V v u)(dc:Den V c uc):Snd (Er d.tb v c σ) (TE d V fr σ (call (.builtin "isinstance") [u,uc])):=
 Snd.opt fun t h1=>Snd.opt fun n h2=>Snd.opt fun l hl=>Snd.opt fun b hb=>Snd.ok fun s Q E a P=>by
  refine cq (zR a h1 hl du) fun H Z hH hn=>?_
  induction c using aA<;>first|exact ag h2|skip
  ·obtain rfl:=dc;obtain rfl:=soo h2;exact kia_one Z a.Xs hH (a.c.O.ti.cl _ _ _ _ hl hb) hn fun tk=>P.tok a rfl tk
  ·obtain rfl:=dc;refine ay (ci h2) fun hb' z'1=>?_;obtain rfl:=z'1;exact kia_one Z a.Xs hH (a.c.O.ti.ty _ _ _ _ hl hb (az hb')) hn fun tk=>P.tok a rfl tk
theorem Zs.length:∀{a:List (Str×AV)} {b:List (Str×Value)},Zs V a b->b.length=a.length
 |[],[],_=>rfl
 |_::_,_::_,⟨_,_,h⟩=>by rw[List.length_cons,List.length_cons,h.length]
 |[],_::_,h|_::_,[],h=>h.elim
def lnA (n:Nat) (σ:ST):R AV:=gd (Nat.ble n 1000000) (.ok (.int (.ofNat n)) σ)
def oE {β:Type} (v:AV) (σ:ST) (k:Nat->List Value->List AV->R β):R β:=eE v σ fun i o=>match o with|.lsu p q=>k i p q|_=>.no
theorem Snd.lsu {Φ:β->ST->Prop}{v:AV}{k:Nat->List Value->List AV->R β}(h:∀i p q,v=.obj i->aa σ.os i=some (.lsu p q)->Snd (k i p q) Φ):Snd (oE v σ k) Φ:=
 Snd.ao fun i o hv ho=>by induction o using aN<;>first|exact Snd.no|exact h i _ _ hv ho
def oF {β:Type} (v:AV) (σ:ST) (k:Nat->Obj->List Value->R β):R β:=eE v σ fun i o=>match o with|.lsx p q=>k i p q|_=>.no
theorem Snd.lsx {Φ:β->ST->Prop}{v:AV}{k:Nat->Obj->List Value->R β}(h:∀i p q,v=.obj i->aa σ.os i=some (.lsx p q)->Snd (k i p q) Φ):Snd (oF v σ k) Φ:=
 Snd.ao fun i o hv ho=>by induction o using aN<;>first|exact Snd.no|exact h i _ _ hv ho
def Es (v:AV) (σ:ST):R AV:=match v with
 |.str l=>lnA l.length σ
 |.ss p _ q=>gd (Nat.ble (p.length+q.length) 1000000) (.ok (.lo (p.length+q.length+1000)) σ)
 |v=>(bz v σ fun zz es=>lnA es.length σ).or ((et v σ fun zz es=>lnA es.length σ).or ((eu v σ fun zz es=>lnA es.length σ).or ((oE v σ fun zz pre ap=>gd (Nat.ble ap.length 1000) (.ok (.int (.ofNat (pre.length+ap.length))) σ)).or (oF v σ fun zz zz pre=>.ok (.int (.ofNat pre.length)) σ))))
theorem wg {v:AV}{u:Value}(du:Den V v u):Snd ((bz v σ fun zz es=>lnA es.length σ).or ((et v σ fun zz es=>lnA es.length σ).or ((eu v σ fun zz es=>lnA es.length σ).or ((oE v σ fun zz pre ap=>gd (Nat.ble ap.length 1000) (.ok (.int (.ofNat (pre.length+ap.length))) σ)).or (oF v σ fun zz zz pre=>.ok (.int (.ofNat pre.length)) σ))))) (TE d V fr σ (call (.builtin "len") [u])):=
 have sl:=bC
 Snd.or (Snd.lst fun i es hv ho=>Snd.gd fun hl=>Snd.ok fun s Q E a P=>by
  have hl:=az hl;refine bt (a.lst hv ho du) fun ax us z'2 zy ds l=>?_;obtain rfl:=z'2;have e1:=ds.length;exact call_len_list l (by rw[List.size_toArray];lia) (P.tok a ⟨s.toks+1,by rw[List.size_toArray,e1];rfl⟩ _))
 (Snd.or (Snd.tup fun i es hv ho=>Snd.gd fun hl=>Snd.ok fun s Q E a P=>by
  have hl:=az hl;refine bt (a.tup hv ho du) fun ax us z'2 zy ds l=>?_;obtain rfl:=z'2;have e1:=ds.length;exact PyProof.Rows.len_tuple l (by rw[List.size_toArray];lia) (P.tok a ⟨s.toks+1,by rw[List.size_toArray,e1];rfl⟩ _))
 (Snd.or (Snd.dic fun i es hv ho=>Snd.gd fun hl=>Snd.ok fun s Q E a P=>by
  have hl:=az hl;refine ir (a.dic hv ho du) fun ax o us z'3 zy hg hs hd z=>?_;obtain rfl:=z'3;have e1:=z.length;exact call_len_dict hs (Heap.dictOf_iff.mpr ⟨o,hg,hd d.prog⟩) (by lia) (P.tok a ⟨s.toks+1,by rw[e1];rfl⟩ _))
 (Snd.or (Snd.lsu fun i pre ap hv ho=>Snd.gd fun hl=>Snd.ok fun s Q E a P=>by
  have hl:=az hl;refine a.has ho fun l hl' g=>?_;rw[hv]at du;refine aj du fun ax hρ du'2=>?_;clear du;obtain rfl:=du'2;refine bZ hl' fun zy us k h1 h2 h3 hl''6=>?_;clear hl';obtain rfl:=hl''6;obtain rfl:=soo (hρ.symm.trans h1);have e1:=h2.length;have e2:(pre++us).toArray.size=pre.length+ap.length:=by rw[List.size_toArray,List.length_append,e1]
  exact call_len_list ⟨_,g _ (.head _),rfl,k,rfl⟩ (by rw[e2];lia) (P.tok a ⟨s.toks+1,by rw[e2];rfl⟩ _))
 (Snd.lsx fun i o pre hv ho=>Snd.ok fun s Q E a P=>by
  refine a.has ho fun l hl' g=>?_;rw[hv]at du;refine aj du fun ax hρ du'2=>?_;clear du;obtain rfl:=du'2;refine gE hl' fun zy h1 hl''2 hl''3 hl''4=>?_;clear hl';obtain ⟨h2,k,h3⟩:=hl''2;refine ay hl''3 fun h4 zy=>?_;clear hl''3;obtain rfl:=hl''4;obtain rfl:=soo (hρ.symm.trans h1);exact call_len_list ⟨_,g _ (.head _),h2,k,h3⟩ (by rw[List.size_toArray];lia) (P.tok a ⟨s.toks+1,by rw[List.size_toArray];rfl⟩ _)))))
theorem zT {v:AV}{u:Value}(du:Den V v u):Snd (Es v σ) (TE d V fr σ (call (.builtin "len") [u])):=by
 have sl:=bC;have e1:=Nu.Internal.d6
 induction v using aA<;>first|exact wg du|skip
 ·refine av du fun t du'1=>?_;clear du;obtain rfl:=du'1;exact Snd.gd fun hl=>Snd.ok fun s Q E a P=>PyProof.Rows.len_str (by rw[e1];have hl:=az hl;lia) (P.tok a ⟨s.toks+1,by rw[e1];rfl⟩ _)
 ·refine aI du fun l t hl' du'3=>?_;clear du;obtain rfl:=du'3;exact Snd.gd fun hl=>Snd.ok fun s Q E a P=>by
   have hl:=az hl;have e2:=(a.v.txt _ _ hl').len;refine PyProof.Rows.len_str (by rw[e1];simp only[List.length_append];lia) (P.tok a ⟨_,s.toks+1,rfl,?_⟩ _);rw[e1];simp only[List.length_append];lia
theorem Dens.i1 {a:AV}{us:List Value}(h:Dens V [a] us):∃u,us=[u]/\Den V a u:=match us,h with|[u],⟨h1,_⟩=>⟨u,rfl,h1⟩
theorem Dens.i2 {a b:AV}{us:List Value}(h:Dens V [a,b] us):∃u v,us=[u,v]/\Den V a u/\Den V b v:=match us,h with|[u,v],⟨h1,h2,_⟩=>⟨u,v,rfl,h1,h2⟩
theorem Dens.i3 {a b c:AV}{us:List Value}(h:Dens V [a,b,c] us):∃u v x,us=[u,v,x]/\Den V a u/\Den V b v/\Den V c x:=match us,h with|[u,v,x],⟨h1,h2,h3,_⟩=>⟨u,v,x,rfl,h1,h2,h3⟩
noncomputable def on1 {β:Type}(vs:List AV)(k:AV->R β):R β:=match vs with|[a]=>k a|_=>.no
noncomputable def on2 {β:Type}(vs:List AV)(k:AV->AV->R β):R β:=match vs with|[a,b]=>k a b|_=>.no
theorem Snd.n1 {Φ:β->ST->Prop}{vs:List AV}{us:List Value}{k:AV->R β}(dv:Dens V vs us)(h:∀a u,us=[u]->Den V a u->Snd (k a) Φ):Snd (on1 vs k) Φ:=
 match vs with
 |[]|_::_::_=>Snd.no
 |[a]=>let ⟨u,e,q⟩:=dv.i1;h a u e q
theorem Snd.n2 {Φ:β->ST->Prop}{vs:List AV}{us:List Value}{k:AV->AV->R β}(dv:Dens V vs us)(h:∀a b u v,us=[u,v]->Den V a u->Den V b v->Snd (k a b) Φ):Snd (on2 vs k) Φ:=
 match vs with
 |[]|[_]|_::_::_::_=>Snd.no
 |[a,b]=>let ⟨u,v,e,q,r⟩:=dv.i2;h a b u v e q r
def HR (v:AV) (σ:ST):R AV:=cQ v fun l=>match l with|[c]=>.ok (.int (.ofNat c)) σ|_=>.no
def biS (tb:Tb) (k:Nat) (vs:List AV) (σ:ST):R AV:=match k with
 |0=>on1 vs fun v=>Es v σ
 |1=>on2 vs fun v c=>Er tb v c σ
 |2=>on1 vs fun v=>Ep v σ
 |5=>on2 vs fun a b=>bV a fun i=>bV b fun j=>.ok (.int (@Bool.rec (fun zz=>Int) i j (Z.ltB j i))) σ
 |6=>on1 vs fun v=>HR v σ
 |_=>.no
theorem zU {tb:Tb}:gG nmB tb 1 (biS tb):=by
 intro k vs σ v σ' e d V fr us ht rm dv;subst ht;refine Snd.of e (Φ:=TE d V fr σ (call (nmB k) us)) ?_
 match k with
 |0=>exact Snd.n1 dv fun a u e q=>e▸zT q
 |1=>exact Snd.n2 dv fun a b u v e q r=>e▸zS q r
 |2=>exact Snd.n1 dv fun a u e q=>e▸zP rm q
 |3|4|_+7=>exact Snd.no
 |5=>
  exact Snd.n2 dv fun a b u v e q r=>e▸Snd.int fun i hi=>Snd.int fun j hj=>Snd.ok fun s Q E a0 P=>a0.stK fun m news x=>by
   refine av (q.i hi) fun t z'1=>?_;obtain rfl:=z'1;refine av (r.i hj) fun t' z'1=>?_;obtain rfl:=z'1;refine min_two_N a0.c.hh x.F x.N fun h' tk F' N'=>P _ h' tk V (.refl V) ⟨if j < i then t' else t,?_⟩ (a0.putV x F' N' x.D x.nd);generalize hb:Z.ltB j i=x';induction x' using aH with
   |true=>rw[if_pos ((Z.ltB_iff _ _).mp hb)]
   |false=>rw[if_neg fun z=>by rw[(Z.ltB_iff _ _).mpr z]at hb;cases hb]
 |6=>
  exact Snd.n1 dv fun a u e q=>e▸Snd.str fun l hl=>match l with
  |[]|_::_::_=>Snd.no
  |[c]=>Snd.ok fun s Q E a0 P=>by
   refine av (q.str hl) fun t z'1=>?_;obtain rfl:=z'1;exact PySem.P.ord_of_char (P.tok a0 ⟨_,rfl⟩ _)
def qj (x:Str):List Str->Bool
 |[]=>false
 |y::r=>sq y x||qj x r
theorem d9 (x:Str):∀l:List Str,l.any (· == x)=qj x l
 |[]=>rfl
 |y::r=>by
  show _=(sq y x||qj x r);rw[List.any_cons,d9 x r];generalize h:sq y x=x';induction x' using aH with
  |true=>rw[bh.mp h,beq_self_eq_true]
  |false=>rw[gI h]
def iG {α:Type} (o:Option α):Bool:=@Option.rec _ (fun zz=>Bool) false (fun zz=>true) o
def Et (tb:Tb) (x:List Nat) (ad:Addr) (σ:ST):R Bool:=(aE (aa tb.tps ad) fun es=>aE (eH es) fun ys=>.ok (qj ⟨x.toArray⟩ ys) σ).or (aE (aa tb.dcs ad) fun kvs=>.ok (iG (aw kvs ⟨x.toArray⟩)) σ)
def inO (x:List Nat) (b:AV) (σ:ST):R Bool:=(bz b σ fun zz es=>aE (eH es) fun ys=>.ok (qj ⟨x.toArray⟩ ys) σ).or ((et b σ fun zz es=>aE (eH es) fun ys=>.ok (qj ⟨x.toArray⟩ ys) σ).or (eu b σ fun zz kvs=>.ok (iG (aw kvs ⟨x.toArray⟩)) σ))
def inS (tb:Tb) (x:List Nat) (b:AV) (σ:ST):R Bool:=match b with
 |.str l=>.ok (!(Builtin.Str.occurrences ⟨l.toArray⟩ ⟨x.toArray⟩ 0 l.length 1).isEmpty) σ
 |.st ad=>Et tb x ad σ
 |b=>inO x b σ
def inA (tb:Tb) (a b:AV) (σ:ST):R Bool:=(cQ a (inS tb · b σ)).or (i8 true b σ fun zz zz e=>(gJ a σ).bind fun ks σ₁=>aE (eM e ks) fun c=>.ok c σ)
def InR (d:Dx) (V:Vl) (fr:AF) (σ:ST) (u v:Value) (c:Bool) (σ':ST):Prop:=Tr d V fr σ (compareOp .In u v) fr σ' (DB (.bool c))/\Tr d V fr σ (compareOp .NotIn u v) fr σ' (DB (.bool (!c)))
theorem dm {kvs:List (Str×AV)}{us:List (Str×Value)}{y:Str}(z:Zs V kvs us):(valueAt us y).isSome=iG (aw kvs y):=by
 generalize h:aw kvs y=x';induction x' using aF with
 |none=>rw[z.val.2 h];rfl
 |some q=>refine aj (z.val.1 h) fun w' h1 zy=>?_;rw[h1];rfl
theorem zV {x:List Nat}{t:Tok}{b:AV}{v:Value}(dv:Den V b v):Snd (inO x b σ) (InR d V fr σ (.str ⟨x.toArray⟩ t) v):=
 Snd.or (Snd.lst fun i es hv ho=>Snd.opt fun ys hy=>Snd.ok ⟨fun s Q E a P=>by
   refine bt (a.lst hv ho dv) fun ax us z'2 zy ds l=>?_;obtain rfl:=z'2;exact in_list_strs l (bX hy ds) (by rw[d9];exact P.here a rfl),fun s Q E a P=>by
   refine bt (a.lst hv ho dv) fun ax us z'2 zy ds l=>?_;obtain rfl:=z'2;exact notin_list_strs l (bX hy ds) (by rw[d9];exact P.here a rfl)⟩)
 (Snd.or (Snd.tup fun i es hv ho=>Snd.opt fun ys hy=>Snd.ok ⟨fun s Q E a P=>by
   refine bt (a.tup hv ho dv) fun ax us z'2 zy ds l=>?_;obtain rfl:=z'2;exact in_tuple_strs l (by simpa using bX hy ds) (by rw[d9];exact P.here a rfl),fun s Q E a P=>by
   refine bt (a.tup hv ho dv) fun ax us z'2 zy ds l=>?_;obtain rfl:=z'2;exact notin_tuple_strs l (by simpa using bX hy ds) (by rw[d9];exact P.here a rfl)⟩)
 (Snd.dic fun i kvs hv ho=>Snd.ok ⟨fun s Q E a P=>by
   refine ir (a.dic hv ho dv) fun ax o us z'3 zy hg hs hd z=>?_;obtain rfl:=z'3;exact wpAny_in_of (d8 _ t) hs (Heap.dictOf_iff.mpr ⟨o,hg,hd d.prog⟩:s.heap.DictOf (strKind d.prog d.w) ax us).mapOf (by rw[dm z];exact P.tok a rfl _),fun s Q E a P=>by
   refine ir (a.dic hv ho dv) fun ax o us z'3 zy hg hs hd z=>?_;obtain rfl:=z'3;exact wpAny_notIn_of (d8 _ t) hs (Heap.dictOf_iff.mpr ⟨o,hg,hd d.prog⟩:s.heap.DictOf (strKind d.prog d.w) ax us).mapOf (by rw[dm z];exact P.tok a rfl _)⟩))
theorem wh {x:List Nat}{t:Tok}{ad:Addr}:Snd (Et d.tb x ad σ) (InR d V fr σ (.str ⟨x.toArray⟩ t) (.ref ad)):=
 Snd.or (Snd.opt fun es ht=>Snd.opt fun ys hy=>Snd.ok ⟨fun s Q E a P=>by
   refine aI (a.c.O.tps _ _ ht) fun us n h1 h2=>?_;exact in_tuple_strs ⟨_,a.Xs _ _ h1,rfl,_,rfl⟩ (bX hy (h2 V)) (by rw[d9];exact P.here a rfl),fun s Q E a P=>by
   refine aI (a.c.O.tps _ _ ht) fun us n h1 h2=>?_;exact notin_tuple_strs ⟨_,a.Xs _ _ h1,rfl,_,rfl⟩ (bX hy (h2 V)) (by rw[d9];exact P.here a rfl)⟩)
 (Snd.opt fun kvs hk=>Snd.ok ⟨fun s Q E a P=>by
   obtain ⟨hs,o,us,h1,h2,h3⟩:=a.c.O.dcs _ _ hk;exact wpAny_in_of (d8 _ t) hs (Heap.dictOf_iff.mpr ⟨o,a.Xs _ _ h1,h2 d.prog⟩:s.heap.DictOf (strKind d.prog d.w) ad us).mapOf (by rw[dm (h3 V)];exact P.tok a rfl _),fun s Q E a P=>by
   obtain ⟨hs,o,us,h1,h2,h3⟩:=a.c.O.dcs _ _ hk;exact wpAny_notIn_of (d8 _ t) hs (Heap.dictOf_iff.mpr ⟨o,a.Xs _ _ h1,h2 d.prog⟩:s.heap.DictOf (strKind d.prog d.w) ad us).mapOf (by rw[dm (h3 V)];exact P.tok a rfl _)⟩)
theorem zX {x:List Nat}{t:Tok}{b:AV}{v:Value}(dv:Den V b v):Snd (inS d.tb x b σ) (InR d V fr σ (.str ⟨x.toArray⟩ t) v):=by
 induction b using aA<;>first|exact zV dv|skip
 ·refine av dv fun t' dv'1=>?_;clear dv;obtain rfl:=dv'1;exact Snd.ok ⟨fun s Q E a P=>PyProof.Rows.in_str (by rw[Nu.Internal.d6];exact P.here a rfl),fun s Q E a P=>PyProof.Rows.notIn_str (by rw[Nu.Internal.d6];exact P.here a rfl)⟩
 ·obtain rfl:=dv;exact wh
theorem yq {tb:Tb}:pZ tb (inA tb):=by
 intro a b σ c σ' e d V fr u v ht rm du dv;subst ht;refine Snd.of e (Φ:=InR d V fr σ u v) (Snd.or (Snd.str fun x hx=>?_) ?_)
 ·refine av (du.str hx) fun t z'1=>?_;obtain rfl:=z'1;exact zX dv
 ·exact Snd.row fun i o re h=>Snd.bind fun ks σ₁ h2=>Snd.opt fun c h3=>Snd.ok (zF h h2 h3 rm du dv)
end
section
set_option genInjectivity true
set_option genSizeOfSpec true
noncomputable def zY:List (Str×Nat):=[(⟨#[97,112,112,101,110,100]⟩,0),(⟨#[101,120,116,101,110,100]⟩,1),(⟨#[112,111,112]⟩,2),(⟨#[114,101,118,101,114,115,101]⟩,3),(⟨#[99,108,101,97,114]⟩,4)]
noncomputable def zZ:List (Str×Nat):=[(⟨#[97,112,112,101,110,100]⟩,0)]
noncomputable def nz:List (Str×Nat):=[(⟨#[103,101,116]⟩,5),(⟨#[112,111,112]⟩,6),(⟨#[99,108,101,97,114]⟩,7),(⟨#[118,97,108,117,101,115]⟩,8)]
noncomputable def z6:List (Str×Nat):=[(⟨#[106,111,105,110]⟩,9),(⟨#[117,112,112,101,114]⟩,10),(⟨#[105,115,100,105,103,105,116]⟩,11),(⟨#[105,115,97,108,110,117,109]⟩,12)]
theorem wj:zY=([("append",0),("extend",1),("pop",2),("reverse",3),("clear",4)]:List (Str×Nat)):=by decide +kernel
theorem wk:zZ=([("append",0)]:List (Str×Nat)):=by decide +kernel
theorem wm:nz=([("get",5),("pop",6),("clear",7),("values",8)]:List (Str×Nat)):=by decide +kernel
theorem wn:z6=([("join",9),("upper",10),("isdigit",11),("isalnum",12)]:List (Str×Nat)):=by decide +kernel
def SlotM (T:String) (x:Str) (k:Nat):Prop:=Slot T x (mnm k)/\typeOf (.builtin (mnm k))=pure (.type "method_descriptor")
def AllM (T:String):List (Str×Nat)->Prop
 |[]=>True
 |p::r=>SlotM T p.1 p.2/\AllM T r
theorem AllM.mem {T:String}{x:Str}{k:Nat}:∀{l:List (Str×Nat)},AllM T l->aw l x=some k->SlotM T x k
 |[],_=>fun e=>ag e
 |p::r,⟨h,q⟩=>fun e=>by
  rw[aY]at e;by_cases z:p.1=x
  ·rw[if_pos z]at e;obtain rfl:=soo e;exact z▸h
  ·rw[if_neg z]at e;exact q.mem e
theorem wo:AllM "list" zY:=by
 rw[wj];exact ⟨⟨PySem.F.slot_list_append,PySem.F.type_list_append⟩,⟨PySem.F.slot_list_extend,PySem.F.type_list_extend⟩,⟨PySem.F.slot_list_pop,PySem.F.type_list_pop⟩,⟨PySem.F.slot_list_reverse,PySem.F.type_list_reverse⟩,⟨PySem.F.slot_list_clear,PySem.F.type_list_clear⟩,trivial⟩
theorem wp:AllM "list" zZ:=by
 rw[wk];exact ⟨⟨PySem.F.slot_list_append,PySem.F.type_list_append⟩,trivial⟩
theorem kG:AllM "dict" nz:=by
 rw[wm];exact ⟨⟨PySem.F.slot_dict_get,PySem.F.type_dict_get⟩,⟨PySem.F.slot_dict_pop,PySem.F.type_dict_pop⟩,⟨PySem.F.slot_dict_clear,PySem.F.type_dict_clear⟩,⟨PySem.F.slot_dict_values,PySem.F.type_dict_values⟩,trivial⟩
theorem wq:AllM "str" z6:=by
 rw[wn];exact ⟨⟨PySem.F.slot_str_join,PySem.F.type_str_join⟩,⟨PySem.F.slot_str_upper,PySem.F.type_str_upper⟩,⟨PySem.F.slot_str_isdigit,PySem.F.type_str_isdigit⟩,⟨PySem.F.slot_str_isalnum,PySem.F.type_str_isalnum⟩,trivial⟩
def gmK:AO->List (Str×Nat)
 |.lst _=>zY
 |.dic _=>nz
 |.rws _ _ _=>nz
 |.fdc _=>nz
 |.lsu _ _=>zZ
 |_=>[]
noncomputable def HS:AV->Bool
 |.str _=>true
 |.ss _ _ _=>true
 |_=>false
def gmS (tb:Tb) (u:AV) (x:Str) (σ:ST):R Nat:=
 (eE u σ fun zz o=>aE (aw (gmK o) x) fun k=>.ok k σ).or ((gd (HS u) (aE (aw z6 x) fun k=>.ok k σ)).or (lH u fun a=>aE (aa tb.dcs a) fun zz=>aE (aw nz x) fun k=>.ok k σ))
def jf:List AV->Option (List AV×AV)
 |[]=>none
 |x::r=>@Option.rec _ (fun zz=>Option (List AV×AV)) (some ([],x)) (fun p=>some (x::p.1,p.2)) (jf r)
def upO (i:Nat) (ao:AO) (σ:ST):ST:=⟨bf σ.os i ao,σ.nx⟩
def z7:List AV->Option Nat
 |[]=>some 0
 |a::r=>bO (txL a) fun n=>bO (z7 r) fun m=>some (n+m)
def yr (sep:List Nat) (es:List AV) (n:Nat):AV:=@Option.rec _ (fun zz=>AV) (.ut (n+es.length*16)) (fun ys=>.str (Str.join ⟨sep.toArray⟩ ys).cps.toList) (eH es)
def yt (sep:List Nat) (es:List AV) (σ:ST):R AV:=aE (z7 es) fun n=>gd (Nat.ble (n+es.length) 100000&&Nat.ble sep.length 16) (.ok (yr sep es n) σ)
noncomputable def on0 {β:Type}(vs:List AV)(k:R β):R β:=match vs with|[]=>k|_=>.no
theorem Snd.n0 {β:Type}{V:Vl}{Φ:β->ST->Prop}{vs:List AV}{us:List Value}{k:R β}(dv:Dens V vs us)(h:us=[]->Snd k Φ):Snd (on0 vs k) Φ:=
 match vs,us,dv with
 |[],[],_=>h rfl
 |_::_,_,_=>Snd.no
def mcL (k:Nat) (i:Nat) (es:List AV) (r:List AV) (σ:ST):R AV:=gd (Nat.ble es.length 1000) (match k with
 |0=>on1 r fun v=>.ok .non (upO i (.lst (es++[v])) σ)
 |1=>on1 r fun w=>bz w σ fun j fs=>gd (Nat.ble (es.length+fs.length) 1000) (.ok .non (upO i (.lst (es++fs)) σ))
 |2=>on0 r (aE (jf es) fun p=>.ok p.2 (upO i (.lst p.1) σ))
 |3=>on0 r (.ok .non (upO i (.lst es.reverse) σ))
 |4=>on0 r (.ok .non (upO i (.lst []) σ))
 |_=>.no)
def sJ (kvs:List (Str×AV)) (x:List Nat) (dflt:AV):AV:=@Option.rec _ (fun zz=>AV) dflt (fun v=>v) (aw kvs ⟨x.toArray⟩)
def z8 (kvs:List (Str×AV)) (k:Nat) (r:List AV) (σ:ST):R AV:=gd (Nat.beq k 5) ((on1 r fun t=>cQ t fun x=>.ok (sJ kvs x .non) σ).or (on2 r fun t dv=>cQ t fun x=>.ok (sJ kvs x dv) σ))
def mcR (k:Nat) (i:Nat) (e:RE) (r:List AV) (σ:ST):R AV:=match k with
 |5=>on1 r fun t=>(gJ t σ).bind fun ks zz=>aE (eM e ks) fun b=>.ok (vZ b e .non) σ
 |6=>on2 r fun t dv=>(gJ t σ).bind fun ks zz=>aE (eM e ks) fun b=>.ok (vZ b e dv) ⟨bf σ.os i (.dic []),σ.nx⟩
 |7=>on0 r (.ok .non ⟨bf σ.os i (.dic []),σ.nx⟩)
 |8=>on0 r (eK (.vws i) σ)
 |_=>.no
def mcT (k:Nat) (l:List Nat) (r:List AV) (σ:ST):R AV:=match k with
 |9=>on1 r fun v=>bz v σ fun zz es=>yt l es σ
 |10=>on0 r (gd (Nat.ble l.length 1000) (.ok (.str (Txt.upper ⟨l.toArray⟩).cps.toList) σ))
 |11=>on0 r (.ok (.boo (Txt.isdigit ⟨l.toArray⟩)) σ)
 |12=>on0 r (.ok (.boo (Txt.isalnum ⟨l.toArray⟩)) σ)
 |_=>.no
def mcF (kvs:List (Str×AV)) (k:Nat) (r:List AV) (σ:ST):R AV:=gd (Nat.beq k 5) (on1 r fun t=>cQ t fun x=>aE (aw kvs ⟨x.toArray⟩) fun v=>.ok v σ)
def mc1 (tb:Tb) (k:Nat) (u:AV) (r:List AV) (σ:ST):R AV:=
 (bz u σ fun i es=>mcL k i es r σ).or ((eu u σ fun i kvs=>z8 kvs k r σ).or ((i8 false u σ fun i o e=>mcR k i e r σ).or ((nZ u σ fun i kvs=>mcF kvs k r σ).or
 ((oE u σ fun i pre ap=>gd (Nat.beq k 0&&Nat.ble ap.length 100) (on1 r fun v=>.ok .non (upO i (.lsu pre (ap++[v])) σ))).or ((cQ u fun l=>mcT k l r σ).or (lH u fun a=>aE (aa tb.dcs a) fun kvs=>z8 kvs k r σ))))))
def mcS (tb:Tb) (k:Nat) (vs:List AV) (σ:ST):R AV:=match vs with
 |u::r=>mc1 tb k u r σ
 |[]=>.no
section
variable {d:Dx}{V W:Vl}{fr fr':AF}{σ σ':ST}{s:Shared}{E:Value->Shared->Prop}{β γ:Type}
theorem At.upd (a:At d V fr σ s){i:Nat}{ao:AO}(ho:aa σ.os i=some ao)(one:∀l,Is d.w V d.tb.flds i ao l->∃p,l=[p]){G:Prop}
  (k:∀D ob m pre post,Sx d V fr σ.os s.heap m (pre++(D,ob)::post)->Is d.w V d.tb.flds i ao [(D,ob)]->
   (∀ob' ao' h' tk,Is d.w V d.tb.flds i ao' [(D,ob')]->Fr d.h₀ d.f.L h' m->News d.h₀ d.f.L h' (pre++(D,ob')::post)->At d V fr (upO i ao' σ) (Shared.to s h' tk))->G):G:=
 a.swapK ho fun m pre l post x hl up=>by
  refine av (one l hl) fun z'0 z'1=>?_;obtain ⟨D,ob⟩:=z'0;obtain rfl:=z'1;exact k D ob m pre post x hl fun ob' ao' h' tk is' F' N'=>a.putV x F' N' (up V (.refl V) ao' [(D,ob')] is') (show ((pre++([(D,ob')]++post)).map (·.1)).Nodup from f7 x.nd rfl)
theorem ql {prog:Program}{w:World}{A:Around}{h₀:Heap}{L D:Addr}{m:Str->Option Value}{news news':L2}{n:Nat}{Q:Value->Shared->Prop}(F:Fr h₀ L s.heap m)(N:News h₀ L s.heap news)(U:Upd D (listOf ([]:List Value).toArray n) (listOf ([]:List Value).toArray n) news news')
  (h:∀h',Fr h₀ L h' m->News h₀ L h' news'->Q .none { s with heap:=h' }):wpAny (model prog w) A (call (.builtin "list.clear") [.ref D]) Q E s:=by
 refine bt U.split fun pre post z'2 z'3 a c=>?_;obtain rfl:=z'2;obtain rfl:=z'3;have z:=N (D,listOf ([]:List Value).toArray n) (List.mem_append.mpr (.inr (.head _)));exact call_meets PySem.F.slot_list_clear ⟨_,z.1,rfl⟩ PySem.F.entry_list_clear (PySem.F.args_list_clear_1 _) (PySem.AutoSeq1.list_clear_list_0 D _ n (by simp)) ⟨z.1,h _ (F.change (Heap.SameBut.update ..) z.2.1 z.2.2) (kl_turn0 (fun zz=>#[]) N a c rfl rfl)⟩
theorem At.lup (a:At d V fr σ s){v:AV}{i:Nat}{es:List AV}{u:Value}(hv:v=.obj i)(ho:aa σ.os i=some (.lst es))(du:Den V v u){G:Prop}
  (k:∀D us n m pre post,u=.ref D->Sx d V fr σ.os s.heap m (pre++(D,listOf us.toArray n)::post)->Dens V es us->
   (∀us' n' es' h' tk,Dens V es' us'->Fr d.h₀ d.f.L h' m->News d.h₀ d.f.L h' (pre++(D,listOf us'.toArray n')::post)->At d V fr (upO i (.lst es') σ) (Shared.to s h' tk))->G):G:=
 a.upd ho (fun l hl=>by refine bu hl fun zy zy zy zy zy e=>?_;clear hl;exact ⟨_,e⟩) fun D ob m pre post x hl up=>by
  rw[hv]at du;refine aj du fun ax hρ du'2=>?_;clear du;obtain rfl:=du'2;refine bu hl fun zy us n h1 h2 e=>?_;clear hl;obtain rfl:=soo (hρ.symm.trans h1);refine ay (bo (cM e).1) fun z'0 z'1=>?_;obtain rfl:=z'0;obtain rfl:=z'1;exact k _ us n m pre post rfl x h2 fun us' n' es' h' tk d' F' N'=>up _ _ h' tk (.lst h1 d') F' N'
theorem z9 (a:At d V fr σ s){i k:Nat}{o:AO}{x:Str}{u:Value}(ho:aa σ.os i=some o)(e:aw (gmK o) x=some k)(du:Den V (.obj i) u):∃T ax ob,u=.ref ax/\s.heap.get? ax=some ob/\ob.cls=.type T/\ob.dict=none/\PlainAttrs T/\AllM T (gmK o):=
 a.has ho fun l hl g=>by
  refine aj du fun ax hρ du'2=>?_;clear du;obtain rfl:=du'2;have dic:∀{ob us},(∀prog,ob.IsDictOf (strKind prog d.w) us)->s.heap.get? ax=some ob->∃T ax' ob',Value.ref ax=.ref ax'/\s.heap.get? ax'=some ob'/\ob'.cls=.type T/\ob'.dict=none/\PlainAttrs T/\AllM T nz:=fun h hg=>by
   refine aI (h default) fun zy zy q zy=>?_;exact ⟨_,_,_,rfl,hg,q.1,q.2.1,F.plainAttrs_dict,kG⟩
  induction o using aN<;>first|exact ag e|skip
  ·refine bu hl fun zy us k h1 zy hl'5=>?_;clear hl;obtain rfl:=hl'5;obtain rfl:=soo (hρ.symm.trans h1);exact ⟨_,_,_,rfl,g _ (.head _),rfl,rfl,F.plainAttrs_list,wo⟩
  ·refine cK hl fun zy o us h1 h2 h3 h4 hl'7=>?_;clear hl;obtain rfl:=hl'7;obtain rfl:=soo (hρ.symm.trans h1);exact dic h3 (g _ (.head _))
  ·refine bZ hl fun zy o ep h1 h2 hl'5 hl'6=>?_;clear hl;refine cq hl'5 fun es q1 q2 zy=>?_;clear hl'5;obtain rfl:=hl'6;obtain rfl:=soo (hρ.symm.trans h1);exact ⟨_,_,_,rfl,g _ (.head _),q1.1,q1.2.1,F.plainAttrs_dict,kG⟩
  ·refine cK hl fun zy o us h1 h2 h3 h4 hl'7=>?_;clear hl;obtain rfl:=hl'7;obtain rfl:=soo (hρ.symm.trans h1);exact dic h3 (g _ (.head _))
  ·refine bZ hl fun zy us k h1 zy zy hl'6=>?_;clear hl;obtain rfl:=hl'6;obtain rfl:=soo (hρ.symm.trans h1);exact ⟨_,_,_,rfl,g _ (.head _),rfl,rfl,F.plainAttrs_list,wp⟩
theorem SlotM.get {T:String}{x:Str}{k:Nat}{ax:Addr}{ob:Obj}{pl:Sem Bool}{Q:Value×List Value->Shared->Prop}(m:SlotM T x k)(hg:s.heap.get? ax=some ob)(hc:ob.cls=.type T)(hd:ob.dict=none)(pa:PlainAttrs T)(h:Q (.builtin (mnm k),[.ref ax]) s) :
  wpAny d.M d.A (getMethod (.ref ax) x pl) Q E s:=getMethod_builtin ⟨ob,hg,hc⟩ pa m.1 m.2 (fun b e=>by injection e with e;exact ⟨ob,e▸hg,hd⟩) h
theorem Eu {tb:Tb}:GOk tb (gmS tb):=by
 intro g x σ k σ' e;refine Snd.of e (Φ:=fun k σ'=>σ'=σ/\∀{d:Dx} {V fr s u pl Q E},d.tb=tb->At d V fr σ s->Den V g u->(∀tk,Q (.builtin (mnm k),[u]) { s with toks:=tk })->wpAny d.M d.A (getMethod u x pl) Q E s) ?_;refine Snd.or (Snd.ao fun i o hv ho=>Snd.opt fun k hk=>Snd.ok ⟨rfl,fun {d V fr s u pl Q E} ht a du P=>?_⟩) (Snd.or (Snd.gd fun hi=>Snd.opt fun k hk=>Snd.ok ⟨rfl,fun {d V fr s u pl Q E} ht a du P=>?_⟩) (Snd.st fun A hv=>Snd.opt fun kvs hd=>Snd.opt fun k hk=>Snd.ok ⟨rfl,fun {d V fr s u pl Q E} ht a du P=>?_⟩))
 ·rw[hv]at du;refine ir (z9 a ho hk du) fun T ax ob z'3 h1 h2 h3 h4 h5=>?_;obtain rfl:=z'3;exact (h5.mem hk).get h1 h2 h3 h4 (P s.toks)
 ·have m:=wq.mem hk;have:∃y t,u=.str y t:=by
   induction g using aA<;>first|exact ak hi|skip
   ·refine av du fun t du'1=>?_;clear du;obtain rfl:=du'1;exact ⟨_,_,rfl⟩
   ·refine aI du fun zy t zy du'3=>?_;clear du;obtain rfl:=du'3;exact ⟨_,_,rfl⟩
  refine dP this fun y t this'2=>?_;clear this;obtain rfl:=this'2;exact PySem.GM.of (.str y t) (typeIs_str s y t) m.1 m.2 PySem.GM.noRef (P s.toks)
 ·subst ht;rw[hv]at du;obtain rfl:=du;obtain ⟨hs,o,us,h1,h2,h3⟩:=a.c.O.dcs _ _ hd;refine aI (h2 default) fun zy zy q zy=>?_;exact (kG.mem hk).get (a.Xs _ _ h1) q.1 q.2.1 F.plainAttrs_dict (P s.toks)
theorem l6:∀{es:List AV} {p:List AV×AV} {us:List Value},jf es=some p->Dens V es us->∃us' u,kl_last us=some (us',u)/\Dens V p.1 us'/\Den V p.2 u
 |x::r,p,v::us,e,⟨q,qs⟩=>by
  change @Option.rec _ (fun zz=>Option (List AV×AV)) _ _ (jf r)=_ at e;unfold kl_last;generalize h1:jf r=x';induction x' using aF with
  |some p'=>
   rw[h1]at e;obtain rfl:=soo e;refine aR (l6 h1 qs) fun us' u h2 h3 h4=>?_;rw[h2];exact ⟨v::us',u,rfl,⟨q,h3⟩,h4⟩
  |none=>
   rw[h1]at e;obtain rfl:=soo e;obtain rfl:us=[]:=by
    induction r using aV with
    |nil=>induction us using aV with|nil=>rfl|cons=>exact qs.elim
    |cons a r'=>
     change @Option.rec _ (fun zz=>Option (List AV×AV)) _ _ (jf r')=_ at h1;generalize jf r'=z at h1
     induction z using aF<;>exact ag h1.symm
   exact ⟨[],v,rfl,trivial,q⟩
 |[],_,_,e,_=>ag e
 |_::_,_,[],_,q=>q.elim
theorem oG {n0:Nat}(v:Vx V n0):∀{es:List AV} {n:Nat} {us:List Value},z7 es=some n->Dens V es us->∃ys,StrsAre us ys/\(ys.map (·.length)).sum<=n/\ys.length=es.length
 |[],n,[],e,_=>⟨[],.nil,bD _,rfl⟩
 |a::r,n,u::us,e,⟨q,qs⟩=>by
  refine aj (bL e) fun b hb e=>?_;refine aj (bL e) fun m hm e=>?_;obtain rfl:=soo e;refine cq (oG v hm qs) fun ys h1 h2 h3=>?_;refine aI (i6 (σ:=⟨[],n0⟩) v hb q) fun x t z'2 hx=>?_;obtain rfl:=z'2;refine ⟨x::ys,.cons _ t h1,?_,by rw[List.length_cons,List.length_cons,h3]⟩;rw[List.map_cons,List.sum_cons];lia
 |[],_,_::_,_,q|_::_,_,[],_,q=>q.elim
theorem eO (x:Str):(⟨x.cps.toList.toArray⟩:Str)=x:=by rw[Array.toArray_toList]
theorem l7 {us:List Value}{ys zs:List Str}(a:StrsAre us ys):StrsAre us zs->ys=zs:=by
 induction a generalizing zs with
 |nil=>intro b;cases b;rfl
 |cons x t r ih=>intro b;cases b with|cons _ _ r'=>rw[ih r']
theorem oH {kvs:List (Str×AV)}{us:List (Str×Value)}{x:List Nat}{t:Tok}{dv:AV}{ax:Addr}{o:Obj}{Q:Value->Shared->Prop}(a:At d V fr σ s)(hs:(ax==sysModules)=false)
  (ho:s.heap.get? ax=some o) (hd:∀prog,o.IsDictOf (strKind prog d.w) us) (z:Zs V kvs us) (P:Po d V fr σ s (DE (sJ kvs x dv)) Q) :
  (dv=.non->wpAny d.M d.A (call (.builtin "dict.get") [.ref ax,.str ⟨x.toArray⟩ t]) Q E s)/\∀ud,Den V dv ud->wpAny d.M d.A (call (.builtin "dict.get") [.ref ax,.str ⟨x.toArray⟩ t,ud]) Q E s:=by
 have hm:=Heap.dictOf_iff.mpr ⟨o,ho,hd d.prog⟩;have hv:∀ud,Den V dv ud->DE (sJ kvs x dv) V ((valueAt us ⟨x.toArray⟩).getD ud):=fun ud dd=>by
  unfold sJ;generalize h1:(aw kvs ⟨x.toArray⟩)=x';induction x' using aF with
  |some v=>refine aj (z.val.1 h1) fun u h2 h3=>?_;rw[h2];exact h3
  |none=>rw[z.val.2 h1];exact dd
 exact ⟨fun hn=>call_meetsIn PySem.F.slot_dict_get hm.typeIs PySem.F.entry_dict_get (PySem.F.args_dict_get_2 _ _) (meets_dict_get (strKind d.prog d.w) ax (d8 x t) hs) ⟨_,hm.mapOf,P.tok a (hv .none (by rw[hn];rfl)) _⟩,
  fun ud dd=>call_meetsIn PySem.F.slot_dict_get hm.typeIs PySem.F.entry_dict_get (PySem.F.args_dict_get_3 _ _ _) (meets_dict_get_default (strKind d.prog d.w) ax (d8 x t) hs ud) ⟨_,hm.mapOf,P.tok a (hv ud dd) _⟩⟩
theorem oI {kvs:List (Str×AV)}{k:Nat}{u:Value}{r:List AV}{ur:List Value}(dr:Dens V r ur)
  (h:∀s,At d V fr σ s->∃ax o us,u=.ref ax/\s.heap.get? ax=some o/\(ax==sysModules)=false/\(∀prog,o.IsDictOf (strKind prog d.w) us)/\Zs V kvs us):Snd (z8 kvs k r σ) (TE d V fr σ (call (nmM k) (u::ur))):=
 Snd.gd fun hk=>aK hk▸Snd.or (Snd.n1 dr fun t ut e q=>e▸Snd.str fun x hx=>Snd.ok fun s Q E a P=>by
   refine av (q.str hx) fun t' z'1=>?_;obtain rfl:=z'1;refine cK (h s a) fun ax o us z'3 h1 h2 h3 h4=>?_;obtain rfl:=z'3;exact (oH a h2 h1 h3 h4 P).1 rfl)
  (Snd.n2 dr fun t dv ut ud e q qd=>e▸Snd.str fun x hx=>Snd.ok fun s Q E a P=>by
   refine av (q.str hx) fun t' z'1=>?_;obtain rfl:=z'1;refine cK (h s a) fun ax o us z'3 h1 h2 h3 h4=>?_;obtain rfl:=z'3;exact (oH a h2 h1 h3 h4 P).2 ud qd)
theorem wr {sep:List Nat}{es:List AV}{v:AV}{i:Nat}{u:Value}{t:Tok}(hv:v=.obj i)(ho:aa σ.os i=some (.lst es))(q:Den V v u):Snd (yt sep es σ) (TE d V fr σ (call (.builtin "str.join") [.str ⟨sep.toArray⟩ t,u])):=
 Snd.opt fun n hn=>Snd.gd fun hb=>Snd.ok fun s Q E a P=>by
  refine bt (a.lst hv ho q) fun D us z'2 zy ds l=>?_;obtain rfl:=z'2;have q1:=an1 hb;have q2:=an2 hb;have q1:=az q1;have q2:=az q2;refine cq (oG a.v hn ds) fun ys h1 h2 h3=>?_;have e0:=d6 sep;refine join_listW l (by simpa using h1) (by rw[e0];exact q2) (by rw[h3];lia) fun t' k=>P.tok a ?_ k;have ej:Txt.join ⟨sep.toArray⟩ ys=Str.join ⟨sep.toArray⟩ ys:=StrLaws.glued_eq_join _ _;unfold yr;generalize hz:eH es=x';induction x' using aF with
  |some zs=>
   rw[<-l7 h1 (bX hz ds)];exact ⟨t',by rw[eO,ej]⟩
  |none=>
   refine ⟨_,t',rfl,?_⟩;rw[ej];have:=StrLaws.join_length_le ⟨sep.toArray⟩ ys;rw[e0,h3]at this;have:=Nat.mul_le_mul_left es.length q2;lia
theorem Aa {k:Nat}{l:List Nat}{t:Tok}{r:List AV}{ur:List Value}(dr:Dens V r ur):Snd (mcT k l r σ) (TE d V fr σ (call (nmM k) (.str ⟨l.toArray⟩ t::ur))):=by
 match k with
 |0|1|2|3|4|5|6|7|8|_+13=>exact Snd.no
 |9=>exact Snd.n1 dr fun v u e q=>e▸Snd.lst fun i es hv ho=>wr hv ho q
 |10=>exact Snd.n0 dr fun e=>e▸Snd.gd fun hb=>Snd.ok fun s Q E a P=>SCL.upper (by rw[d6];exact ba (az hb) (by decide)) fun zz=>P.tok a ⟨s.toks,by rw[eO]⟩ _
 |11=>exact Snd.n0 dr fun e=>e▸Snd.ok fun s Q E a P=>SC.isdigit (P.here a rfl)
 |12=>exact Snd.n0 dr fun e=>e▸Snd.ok fun s Q E a P=>SC.isalnum (P.here a rfl)
theorem jg {n m:Nat}(h:n+m<=1000)(b:Bool):¬(b&&Builtin.List.listTooLong (n+m))=true:=by
 intro z;have:=of_decide_eq_true (cL z).2;revert this;simp only[sizeLine_eq];lia
theorem sK {k i:Nat}{es r:List AV}{v:AV}{u:Value}{ur:List Value}(hv:v=.obj i)(ho:aa σ.os i=some (.lst es))(du:Den V v u)(dr:Dens V r ur):Snd (mcL k i es r σ) (TE d V fr σ (call (nmM k) (u::ur))):=
 Snd.gd fun hl=>by
  have hl:=az hl;have sl:=bC
  match k with
  |0=>
   exact Snd.n1 dr fun x ux e q=>e▸Snd.ok fun s Q E a P=>a.lup hv ho du fun D us n m pre post hu X ds up=>by
    rw[hu];have e1:us.toArray.push ux=(us++[ux]).toArray:=by simp
    exact append_K X.F X.N (Upd.of X.nd) (fun h' F' N'=>P .none h' s.toks V (.refl V) rfl (up (us++[ux]) _ _ h' _ (ds.app ⟨q,trivial⟩) F' (e1▸N'))) (by rw[List.size_toArray,ds.length];lia)
  |1=>
   exact Snd.n1 dr fun x ux e q=>e▸Snd.lst fun j fs hx hj=>Snd.gd fun h2=>Snd.ok fun s Q E a P=>a.lup hv ho du fun D us n m pre post hu X ds up=>by
    have h2:=az h2;refine aj (X.D.mem hj) fun l hl' hm'=>?_;rw[hx]at q;refine aj q fun y hρ hy=>?_;clear q;refine bu hl' fun zy vs n' h1 ds' hl''5=>?_;clear hl';obtain rfl:=hl''5;obtain rfl:=soo (hρ.symm.trans h1);have e1:=ds.length;have e2:=ds'.length;have hm:=hm' _ (.head _);rw[hu,hy];have nt:¬(!us.toArray.isEmpty&&Builtin.List.listTooLong (us.toArray.size+vs.toArray.size))=true:=jg (by rw[List.size_toArray,List.size_toArray];lia) _;by_cases hz:vs=[]
    ·subst hz;exact kxn_extend X.F X.N hm rfl (Upd.of X.nd) nt (by simp;lia) (by simp;lia) fun h' F' N'=>P .none h' s.toks V (.refl V) rfl (up us n _ h' _ (by have:=ds.app ds';rwa [List.append_nil]at this) F' N')
    ·exact kl_extend X.F X.N hm (l:=us++vs) (by simp) (by simpa using hz) (Upd.of X.nd) nt (by simp;lia) (by simp;lia) fun h' F' N'=>P .none h' s.toks V (.refl V) rfl (up _ _ _ h' _ (ds.app ds') F' N')
  |2=>
   exact Snd.n0 dr fun e=>e▸Snd.opt fun p hp=>Snd.ok fun s Q E a P=>a.lup hv ho du fun D us n m pre post hu X ds up=>by
    rw[hu];refine aR (l6 hp ds) fun us' y h3 h4 h5=>?_;exact kl_pop X.F X.N (by simpa using h3) (Upd.of X.nd) (by simp;rw[ds.length];lia) fun h' F' N'=>P y h' s.toks V (.refl V) h5 (up _ _ _ h' _ h4 F' N')
  |3=>
   exact Snd.n0 dr fun e=>e▸Snd.ok fun s Q E a P=>a.lup hv ho du fun D us n m pre post hu X ds up=>by
    rw[hu];exact kl_reverse X.F X.N (by simp) (Upd.of X.nd) (by simp;rw[ds.length];lia) fun h' F' N'=>P .none h' s.toks V (.refl V) rfl (up us.reverse _ _ h' _ ds.rev F' N')
  |4=>
   exact Snd.n0 dr fun e=>e▸Snd.ok fun s Q E a P=>a.lup hv ho du fun D us n m pre post hu X ds up=>by
    rw[hu];by_cases hz:us=[]
    ·subst hz;exact ql X.F X.N (Upd.of X.nd) fun h' F' N'=>P .none h' s.toks V (.refl V) rfl (up [] _ [] h' _ trivial F' N')
    ·exact kl_clear X.F X.N (Upd.of X.nd) (by simpa using hz) (by simp;rw[ds.length];lia) fun h' F' N'=>P .none h' s.toks V (.refl V) rfl (up [] _ [] h' _ trivial F' N')
  |_+5=>exact Snd.no
theorem Ab {k i:Nat}{o:AO}{e:RE}{v:AV}{r:List AV}{u:Value}{ur:List Value}(h:ja false v σ i o e)(rm:Room d.A 0)(du:Den V v u)(dr:Dens V r ur):Snd (mcR k i e r σ) (TE d V fr σ (call (nmM k) (u::ur))):=by
 match k with
 |0|1|2|3|4|_+9=>exact Snd.no
 |5=>exact Snd.n1 dr fun t ut e q=>e▸Snd.bind fun ks zz h2=>Snd.opt fun b h3=>Snd.ok (v3 h h2 h3 rm q du)
 |6=>exact Snd.n2 dr fun t dv ut ud e q qd=>e▸Snd.bind fun ks zz h2=>Snd.opt fun b h3=>Snd.ok (v6 h h2 h3 rm du q qd)
 |7=>exact Snd.n0 dr fun e=>e▸Snd.ok (qi h du)
 |8=>
  exact Snd.n0 dr fun e=>e▸Snd.ok fun s Q E a P=>a.row h du fun ax ob n ep xs r=>by
   rw[r.hu];exact rW r.dh.typeIs r.lo (P.push (tk:=s.toks) a rfl fun W le hW=>.vws hW (le.ρ _ _ r.hρ) rfl rfl)
theorem Ac {k i:Nat}{kvs:List (Str×AV)}{v:AV}{r:List AV}{u:Value}{ur:List Value}(hv:v=.obj i)(ho:aa σ.os i=some (.fdc kvs))(du:Den V v u)(dr:Dens V r ur):Snd (mcF kvs k r σ) (TE d V fr σ (call (nmM k) (u::ur))):=
 Snd.gd fun hk=>aK hk▸Snd.n1 dr fun t ut e q=>e▸Snd.str fun x hx=>Snd.opt fun v' h5=>Snd.ok fun s Q E a P=>a.has ho fun l hl g=>by
  refine av (q.str hx) fun t' z'1=>?_;obtain rfl:=z'1;rw[hv]at du;refine aj du fun ax hρ du'2=>?_;clear du;obtain rfl:=du'2;refine cK hl fun zy o us h1 lo h3 h4 hl'7=>?_;clear hl;obtain rfl:=hl'7;obtain rfl:=soo (hρ.symm.trans h1);have hm:=Heap.dictOf_iff.mpr ⟨_,g _ (.head _),h3 d.prog⟩;exact call_meetsIn PySem.F.slot_dict_get hm.typeIs PySem.F.entry_dict_get (PySem.F.args_dict_get_2 _ _) (meets_dict_get (strKind d.prog d.w) ax (d8 x t') lo) ⟨_,hm.mapOf,P.tok a (h4.at_ _ _ h5) _⟩
theorem Ad {i:Nat}{pre:List Value}{ap:List AV}{v:AV}{r:List AV}{u:Value}{ur:List Value}(hv:v=.obj i)(ho:aa σ.os i=some (.lsu pre ap))(hl:Nat.ble ap.length 100=true)(du:Den V v u)(dr:Dens V r ur):Snd (on1 r fun x=>R.ok AV.non (upO i (.lsu pre (ap++[x])) σ)) (TE d V fr σ (call (nmM 0) (u::ur))):=
 Snd.n1 dr fun x ux e q=>e▸Snd.ok fun s Q E a P=>a.upd ho (fun l hl=>by refine bZ hl fun zy zy zy zy zy zy e=>?_;clear hl;exact ⟨_,e⟩) fun D ob m pr post X is up=>by
  have hl:=az hl;have sl:=bC;rw[hv]at du;refine aj du fun ax hρ du'2=>?_;clear du;obtain rfl:=du'2;refine bZ is fun zy us n h1 h2 h3 e=>?_;clear is;obtain rfl:=soo (hρ.symm.trans h1);refine ay (bo (cM e).1) fun z'0 z'1=>?_;obtain rfl:=z'0;obtain rfl:=z'1;have e1:(pre++us).toArray.push ux=(pre++(us++[ux])).toArray:=by simp
  exact append_K (its:=(pre++us).toArray) X.F X.N (Upd.of X.nd) (fun h' F' N'=>P .none h' s.toks V (.refl V) rfl (up _ _ h' _ (.lsu hρ (h2.app (show Dens V [x] [ux] from ⟨q,trivial⟩)) h3) F' (e1▸N'))) (by rw[List.size_toArray,List.length_append,h2.length];lia)
theorem Af {tb:Tb}{k:Nat}{v:AV}{r:List AV}{u:Value}{ur:List Value}(ht:d.tb=tb)(rm:Room d.A 0)(du:Den V v u)(dr:Dens V r ur):Snd (mc1 tb k v r σ) (TE d V fr σ (call (nmM k) (u::ur))):=
 Snd.or (Snd.lst fun i es hv ho=>sK hv ho du dr) <| Snd.or (Snd.dic fun i kvs hv ho=>oI dr fun s a=>by
   refine ir (a.dic hv ho du) fun ax o us h1 zy h3 h4 h5 h6=>?_;exact ⟨ax,o,us,h1,h3,h4,h5,h6⟩) <|
 Snd.or (Snd.row fun i o e h=>Ab h rm du dr) <| Snd.or (Snd.fdc fun i kvs hv ho=>Ac hv ho du dr) <| Snd.or (Snd.lsu fun i p q hv ho=>Snd.gd fun hb=>by
   have h1:=an1 hb;have h2:=an2 hb;obtain rfl:=aK h1;exact Ad hv ho h2 du dr) <|
 Snd.or (Snd.str fun l hl=>by refine av (du.str hl) fun t z'1=>?_;obtain rfl:=z'1;exact Aa dr) <| Snd.st fun g hg=>Snd.opt fun kvs hk=>oI dr fun s a=>by
  subst ht;rw[hg]at du;obtain ⟨hs,o,us,h1,h2,h3⟩:=a.c.O.dcs _ _ hk;exact ⟨g,o,us,du,a.Xs _ _ h1,hs,h2,h3 V⟩
theorem Ew {tb:Tb}:gG nmM tb 0 (mcS tb):=by
 intro k vs σ v σ' e d V fr us ht rm dv
 match vs,us,dv with
 |[],_,_=>exact cI e
 |a::r,u::ur,⟨q,dr⟩=>exact Snd.of e (Af ht rm q dr)
end
end
section
set_option genInjectivity true
set_option genSizeOfSpec true
theorem cj (p:Str×Value)(r:List (Str×Value))(y:Str):valueAt (p::r) y=if p.1=y then some p.2 else valueAt r y:=by
 unfold valueAt;rw[List.find?_cons];by_cases h:p.1=y<;>simp [h]
theorem eP {p:Str×Value}{r:List (Str×Value)}{x:Str}{u:Value}(nd:((p::r).map (·.1)).Nodup):stored (p::r) x u=if p.1=x then (x,u)::r else p::stored r x u:=by
 rw[List.map_cons,List.nodup_cons]at nd;unfold stored;rw[List.any_cons,List.map_cons];by_cases h:p.1=x
 ·rw[if_pos h,decide_eq_true h,Bool.true_or,if_pos rfl,if_pos h,h];have e:(r.map fun kv=>if kv.1=x then (kv.1,u) else kv)=r.map id:=List.map_congr_left fun q hq=>if_neg fun e=>nd.1 (by rw[h,<-e];exact cP hq);rw[e,List.map_id]
 ·rw[if_neg h,decide_eq_false h,Bool.false_or,if_neg h];by_cases q:(r.any fun kv=>decide (kv.1=x))=true
  ·rw[if_pos q,if_pos q]
  ·rw[if_neg q,if_neg q];rfl
theorem eQ {x:Str}{u:Value}{y:Str}:∀{us:List (Str×Value)},(us.map (·.1)).Nodup->valueAt (stored us x u) y=if x=y then some u else valueAt us y
 |[]=>fun zz=>cj ..
 |p::r=>fun nd=>by
  have ih:=eQ (x:=x) (u:=u) (y:=y) (List.nodup_cons.mp nd).2;rw[eP nd];by_cases h:p.1=x
  ·rw[if_pos h,cj,cj,h];by_cases q:x=y
   ·rw[if_pos q,if_pos q]
   ·rw[if_neg q,if_neg q,if_neg q]
  ·rw[if_neg h,cj,cj,ih];by_cases q:p.1=y
   ·rw[if_pos q,if_pos q,if_neg fun e=>h (q.trans e.symm)]
   ·rw[if_neg q,if_neg q]
theorem Zs.put {V:Vl}{x:Str}{v:AV}{u:Value}(dv:Den V v u):∀{kvs:List (Str×AV)} {us:List (Str×Value)},(us.map (·.1)).Nodup->Zs V kvs us->Zs V (put kvs x v) (stored us x u)
 |[],[],_,_=>⟨rfl,dv,trivial⟩
 |p::r,q::t,nd,⟨h1,h2,h3⟩=>by
  have ih:=Zs.put (x:=x) dv (List.nodup_cons.mp nd).2 h3;rw[eP nd,eB,h1];by_cases h:q.1=x
  ·rw[if_pos h,if_pos h];exact ⟨rfl,dv,h3⟩
  ·rw[if_neg h,if_neg h];exact ⟨h1,h2,ih⟩
 |[],_::_,_,h|_::_,[],_,h=>h.elim
theorem jh {x y:Str}{v:AV}:∀{l:List (Str×AV)},y∈l.map (·.1)\/y=x->y∈(put l x v).map (·.1)
 |[]=>fun h=>h.elim (fun h=>nomatch h) fun h=>h▸.head _
 |p::r=>fun h=>by
  rw[eB];by_cases q:p.1=x
  ·rw[if_pos q];rcases h with h|h
   ·rcases aG h with e|e
    ·exact (e.trans q)▸.head _
    ·exact .tail _ e
   ·exact h▸.head _
  ·rw[if_neg q];rcases h with h|h
   ·rcases aG h with e|e
    ·exact e▸.head _
    ·exact .tail _ (jh (.inl e))
   ·exact .tail _ (jh (.inr h))
theorem hJ {x:Str}{u:Value}{e:Str×Value}:∀{us:List (Str×Value)},(us.map (·.1)).Nodup->e∈stored us x u->e.1∈us.map (·.1)\/e.1=x
 |[]=>fun zz h=>.inr (congrArg Prod.fst (bg h))
 |p::r=>fun nd h=>by
  rw[eP nd]at h;by_cases q:p.1=x
  ·rw[if_pos q]at h;rcases aG h with e|e
   ·exact .inr (congrArg Prod.fst e)
   ·exact .inl (.tail _ (cP e))
  ·rw[if_neg q]at h;rcases aG h with e|e
   ·exact .inl (e▸.head _)
   ·exact (hJ (List.nodup_cons.mp nd).2 e).imp (.tail _) id
theorem FdcOk.put {V:Vl}{kvs:List (Str×AV)}{us:List (Str×Value)}{x:Str}{v:AV}{u:Value}(dv:Den V v u)(nd:(us.map (·.1)).Nodup)(m:FdcOk V kvs us):FdcOk V (put kvs x v) (stored us x u):=
 ⟨fun e he=>jh ((hJ nd he).imp (fun h=>by refine aj (List.mem_map.mp h) fun q hq e=>?_;exact e▸m.ks q hq) id),fun y b hy=>by
  rw[fU]at hy;rw[eQ nd];by_cases q:x=y
  ·rw[if_pos q]at hy ⊢;obtain rfl:=soo hy;exact dv
  ·rw[if_neg q]at hy ⊢;exact m.at_ _ _ hy⟩
def siL (j:Nat) (es:List AV) (i v:AV) (σ:ST):R Unit:=bV i fun k=>gd (big k&&Z.leB 0 k) (aE (v7 k es.length) fun n=>.ok () (upO j (.lst (es.set n v)) σ))
def siS (a i v:AV) (σ:ST):R Unit:=
 (bz a σ fun j es=>siL j es i v σ).or ((eu a σ fun j kvs=>cQ i fun x=>gd (Nat.ble kvs.length 1000) (.ok () (upO j (.dic (put kvs ⟨x.toArray⟩ v)) σ))).or
 ((i8 false a σ fun j o e=>fY i fun t=>(gJ i σ).bind fun ks zz=>@Option.rec _ (fun zz=>R Unit) (.ok () ⟨bf σ.os j (.rws t ks v),σ.nx⟩) (fun zz=>.no) e).or
 (nZ a σ fun j kvs=>cQ i fun x=>gd (iG (aw kvs ⟨x.toArray⟩)&&Nat.ble kvs.length 100) (.ok () (upO j (.fdc (put kvs ⟨x.toArray⟩ v)) σ)))))
section
variable {d:Dx}{V W:Vl}{fr fr':AF}{σ σ':ST}{s:Shared}{E:Value->Shared->Prop}{β γ:Type}
theorem jX {w:World}{prog prog':Program}{es:List DictEntry}{us:List (Str×Value)}(h:Pairs (strKind prog w) es us):Pairs (strKind prog' w) es us:=by
 induction h with
 |nil=>exact .nil
 |cons a b _ ih=>exact .cons a b ih
theorem ji {w:World}{prog:Program}{o:Obj}{us:List (Str×Value)}(h:o.IsDictOf (strKind prog w) us):∀prog',o.IsDictOf (strKind prog' w) us:=fun zz=>by
 refine vj h fun es ep h1 h2 h3 h4 h5=>?_;clear h;exact ⟨es,ep,h1,h2,h3,jX h4,h5⟩
theorem kH {w:World}{prog:Program}{o:Obj}{us:List (Str×Value)}(h:o.IsDictOf (strKind prog w) us):(us.map (·.1)).Nodup:=by
 obtain ⟨_,_,_,_,_,_,h⟩:=h;exact h
theorem Dens.set {v:AV}{u:Value}(dv:Den V v u):∀{es:List AV} {us:List Value},Dens V es us->∀n,Dens V (es.set n v) (us.set n u)
 |[],[],_,_=>trivial
 |_::_,_::_,⟨_,h2⟩,0=>⟨dv,h2⟩
 |_::_,_::_,⟨h1,h2⟩,n+1=>⟨h1,h2.set dv n⟩
 |[],_::_,h,_|_::_,[],h,_=>h.elim
theorem Ag {a i v:AV}{j:Nat}{es:List AV}{ua ui uv:Value}(ha:a=.obj j)(ho:aa σ.os j=some (.lst es))(da:Den V a ua)(di:Den V i ui)(dv:Den V v uv):Snd (siL j es i v σ) fun zz σ'=>TU d V fr σ (setItem ua ui uv) () σ':=
 Snd.int fun k hi=>Snd.gd fun hb=>Snd.opt fun n hn=>Snd.ok fun s Q E at_ P=>at_.lup ha ho da fun D us nn m pre post hu X ds up=>by
  have h0:=an2 hb;have hb:=an1 hb;refine ay (jd hb) fun b1 b2=>?_;have h0:=(Z.leB_iff _ _).mp h0;refine bU (kF hn) fun zy i2 i3=>?_;rw[hi]at di;refine av di fun t di'1=>?_;clear di;obtain rfl:=di'1;rw[hu];have hl:=ds.length;have hk:k.toNat=n/\k < (us.length:Int):=i3.elim (fun e=>⟨by rw[e];rfl,by rw[e,hl];exact Int.ofNat_lt.mpr i2⟩) fun e=>absurd h0 (Int.not_le.mpr e.1);refine bt ((Upd.of (o':=listOf (us.set n uv).toArray nn) X.nd).split) fun pr po e1 e2 q1 q2=>?_;have N:=X.N;rw[e1]at N;have z:=N (D,listOf us.toArray nn) (List.mem_append.mpr (.inr (.head _)));refine ki_setAt z.1 h0 (by lia) (by rw[List.size_toArray];exact hk.2) (P () _ s.toks V (.refl V) trivial (up _ nn _ _ _ (ds.set dv n) (X.F.change (Heap.SameBut.update ..) z.2.1 z.2.2) (e2▸ki_turn _ N q1 q2 ?_ ?_)))
  ·rw[hk.1];exact jO (by simp)
  ·simp
theorem sM {a:AV}{i:Nat}{ao ao':AO}{x:List Nat}{j:AV}{ua ui uv:Value}(ha:a=.obj i)(hj:j=.str x)(ho:aa σ.os i=some ao)(da:Den V a ua)(di:Den V j ui)
  (h:∀l,Is d.w V d.tb.flds i ao l->∃ax o us,V.ρ i=some ax/\l=[(ax,o)]/\(∀prog,o.IsDictOf (strKind prog d.w) us)/\us.length<=1000/\∀o',(∀prog,o'.IsDictOf (strKind prog d.w) (stored us ⟨x.toArray⟩ uv))->Is d.w V d.tb.flds i ao' [(ax,o')]) :
  TU d V fr σ (setItem ua ui uv) () (upO i ao' σ):=fun s Q E at_ P=>at_.upd ho (fun l hl=>by refine bu (h l hl) fun zy zy zy zy e zy=>?_;exact ⟨_,e⟩) fun D ob m pre post X is up=>by
 refine av (di.str hj) fun t z'1=>?_;obtain rfl:=z'1;rw[ha]at da;refine aj da fun y hρ da'2=>?_;clear da;obtain rfl:=da'2;refine cK (h _ is) fun ax o us h1 e h2 h3 h4=>?_;obtain rfl:=soo (hρ.symm.trans h1);refine ay (bo (cM e).1) fun z'0 z'1=>?_;obtain rfl:=z'0;obtain rfl:=z'1;exact kda_set (knd:=strKind d.prog d.w) X.F X.N (UpdF.of X.nd) (h2 d.prog) (d8 _ t) (ba h3 (by have:=bC;lia)) fun h' o' F' N' hd'=>P () h' _ V (.refl V) trivial (up o' ao' h' _ (h4 o' (ji hd')) F' N')
theorem ew {tb:Tb}:eI tb siS:=by
 intro a i v σ u σ' e d V fr ua ui uv ht rm da di dv;refine Snd.of e (Φ:=fun zz σ'=>TU d V fr σ (setItem ua ui uv) () σ') (Snd.or (Snd.lst fun j es ha ho=>Ag ha ho da di dv) <| Snd.or (Snd.dic fun j kvs ha ho=>Snd.str fun x hi=>Snd.gd fun hb=>Snd.ok (sM ha hi ho da di fun l hl=>?_)) <|
  Snd.or (Snd.row fun j o e h=>Snd.obj fun t ht=>Snd.bind fun ks σ₁ h2=>?_) <| Snd.fdc fun j kvs ha ho=>Snd.str fun x hi=>Snd.gd fun hb=>Snd.ok (sM ha hi ho da di fun l hl=>?_))
 ·refine cK hl fun ax o us h1 h2 h3 h4 hl'7=>?_;clear hl;obtain rfl:=hl'7;exact ⟨ax,o,us,h1,rfl,h3,by rw[h4.length];exact az hb,fun o' hd'=>.dic h1 h2 hd' (h4.put dv (kH (h3 default)))⟩
 ·induction e using aF with
  |none=>exact Snd.ok (v5 h ht h2 rm da di dv)
  |some p=>exact Snd.no
 ·refine cK hl fun ax o us h1 h2 h3 h4 hl'7=>?_;clear hl;obtain rfl:=hl'7;have nd:=kH (h3 default);exact ⟨ax,o,us,h1,rfl,h3,ba (h4.len nd) (ba (az (cL hb).2) (by decide)),fun o' hd'=>.fdc h1 h2 hd' (h4.put dv nd)⟩
end
end
section
open PySem PySem.W PySem.Calls PyProof.Rows PySem.Spec
set_option genInjectivity true
set_option genSizeOfSpec true
section
variable {prog:Program}{w:World}{A:Around}{E:Value->Shared->Prop}{s:Shared}
set_option backward.match.sparseCases true in
theorem kI {d:Addr}{us:List (Str×Value)}{Q:List Value->Shared->Prop}(hh:A.handled=none)(lo:(d==sysModules)=false)(hd:s.heap.DictOf (strKind prog w) d us)(hn:us.length<=sizeLine)
  (h:∀vs h₁ tk₁,StrsAre vs (us.map (·.1))->(∀b o,s.heap.get? b=some o->h₁.get? b=some o)->Q vs { s with heap:=h₁,toks:=tk₁ }) :
  wpAny (model prog w) A (collect (.ref d)) Q E s:=by
 refine av hd.dictAt fun ep hat=>?_;have hlt:=hat.lt_size;unfold collect;refine af (wpAny_runValue (codeAny_builtin entry_proto_collect' ?_));show wpAny _ _ (do again (.builtin "list.__iadd__" ⟨[<-newList [],.ref d],[]⟩)) _ _ s;refine af (wpAny_newList (au ⟨Code.quiet_builtin _ (by decide +kernel),codeAny_builtin entry_list_iadd' ?_⟩));show wpAny _ _ (Builtin.List.listExtendWith (.ref s.heap.objs.size) (.ref d) (.ref s.heap.objs.size)) _ _ { s with heap:=s.heap.push (seqObj "list" #[] 0) };rw[Around.under_plainId PySem.F.plain_list_iadd _];refine kdl_extend (R:=wants (fun v s'=>wpAny (model prog w) A (match v with
  |.ref a=>do match (<-load a).data with
   |.seq xs _=>pure xs.toList
   |_=>unsupported "internal:collect"
  |_=>unsupported "internal:collect") Q E s') E) (s:={ s with heap:=s.heap.push (seqObj "list" #[] 0) }) (kdl_dict (knd:=strKind prog w) (kvs:=us) (ep:=ep) lo) ?_ (hat.push _) _ (Nat.ne_of_gt hlt) (Nat.ne_of_gt hlt) _ 0 (Heap.get?_push_size _ rfl) (fun h' tk acc' c' hk hS' hacc=>?_) hn
 ·exact hh
 ·show wpAny (model prog w) A (do match (<-load s.heap.objs.size).data with
   |.seq xs _=>pure xs.toList
   |_=>unsupported "internal:collect") Q E _
  refine af (wpAny_load hS' ?_);refine au (h _ _ _ ?_ fun b o e=>hk b o (bJ (Heap.lt_size e)) (Heap.get?_push_of_some _ e));have key:∀(us:List (Str×Value)) (vs:List Value),vs.length=us.length->(∀(j:Nat) (v:Value),vs[j]? = some v->∃k x,us[j]? = some (k,x)/\(strKind prog w).is k v=true)->StrsAre vs (us.map (·.1)):=by
   intro us
   induction us with
   |nil=>intro vs hl _;rw[List.eq_nil_of_length_eq_zero hl];exact .nil
   |cons p r ih=>
    intro vs hl hv
    match vs,hl with
    |v::vs,hl=>
     refine aI (hv 0 v rfl) fun k x e1 e2=>?_;cases e1;refine av (Value.isStrOf_shape e2) fun t z'1=>?_;obtain rfl:=z'1;exact .cons _ t (ih vs (by simpa using hl) fun j v hj=>hv (j+1) v (by simpa using hj))
  refine key us _ (by rw[Array.length_toList];exact hacc.1) fun j v hj=>hacc.2 j v (by rw[<-Array.getElem?_toList];exact hj)
theorem l8 {l:Addr}{ss:List Str}{Q:Value->Shared->Prop}
  (C:∀Q':List Value->Shared->Prop,(∀vs h₁ tk₁,StrsAre vs ss->(∀b o,s.heap.get? b=some o->h₁.get? b=some o)->Q' vs { s with heap:=h₁,toks:=tk₁ })->wpAny (model prog w) A.in1 (collect (.ref l)) Q' E s)
  (h64:ss.length < 64)
  (h:∀D h' tk vs' ss' c,(∀b o,s.heap.get? b=some o->h'.get? b=some o/\b < D)->h'.get? D=some (listOf vs'.toArray c)->StrsAre vs' ss'->ss'.Perm ss->sortedS ss'=true->Q (.ref D) { s with heap:=h',toks:=tk }) :
  wpAny (model prog w) A (call (.builtin "sorted") [.ref l]) Q E s:=by
 refine Calls.call_function_entry kind_sorted plain_sorted entry_sorted (args_sorted1 _) ?_;unfold Builtin.«sorted»;refine af (m:=checkCount "sorted" 1 1 _) (au ?_);refine af (C _ fun vs h₁ tk₁ hS hk=>?_);have hl:=hS.length;refine af (wpAny_newList ?_ (by have:=sizeLine_eq;rw[this];lia));have hoL:(h₁.push (seqObj "list" vs.toArray 0)).get? h₁.objs.size=some (seqObj "list" vs.toArray 0):=Heap.get?_push_size _ rfl;show wpAny _ _ _ _ _ { s with heap:=h₁.push (seqObj "list" vs.toArray 0),toks:=tk₁ };refine af (wpAny_holding (wpAny_call_entry slot_list_sort ⟨_,hoL,rfl⟩ entry_list_sort (list_sort_treeK strKind_oneLt hoL hS.keysOf (fun v₁ v₂ rest e=>keyKind_strs (by rw[<-e];exact hS)) (by lia) fun st' a1 a2=>⟨_,rfl,?_⟩) (args_list_sort _)));refine cq (sorted_out_str hS a1 a2) fun ss' h1 h2 h3=>?_;refine av (sortedHeap_at (out:=(arrOf st').map (·.2)) hoL) fun e he=>?_;refine au ⟨_,rfl,?_⟩;refine h _ _ _ _ ss' e (fun b o hb=>⟨?_,Heap.lt_size (hk b o hb)⟩) (by rw[Array.toArray_toList];exact he) h1 h2 h3;have hb':=hk b o hb;have hlt:=Heap.lt_size hb';rw[sortedHeap_old (Nat.ne_of_lt hlt) (by rw[size_push'];exact Nat.lt_succ_of_lt hlt)];exact Heap.get?_push_of_some _ hb'
end
def qm (x:Str):List Str->List Str
 |[]=>[x]
 |y::r=>@Bool.rec (fun zz=>List Str) (x::y::r) (y::qm x r) (ltCps y.cps.toList x.cps.toList)
def qo:List Str->List Str
 |[]=>[]
 |x::r=>qm x (qo r)
noncomputable def l9:List Str->List AV
 |[]=>[]
 |x::r=>.str x.cps.toList::l9 r
noncomputable def sO:List (Str×AV)->List AV
 |[]=>[]
 |p::r=>.str p.1.cps.toList::sO r
def yu (v:AV) (σ:ST):R AV:=
 (bz v σ fun zz es=>aE (eH es) fun ys=>gd (Nat.blt ys.length 60) (eK (.lst (l9 (qo ys))) σ)).or (eu v σ fun zz kvs=>gd (Nat.blt kvs.length 60) (eK (.lst (l9 (qo (kvs.map (·.1))))) σ))
def biT (tb:Tb) (k:Nat) (vs:List AV) (σ:ST):R AV:=@Nat.rec (fun zz=>R AV) (biS tb k vs σ) (fun zz zz=>on1 vs fun v=>yu v σ) (@Bool.rec (fun zz=>Nat) 0 1 (Nat.beq k 3))
def Ex (σ:ST):R AV:=eK (.dic []) σ
def tyL (v:AV) (σ:ST):R AV:=
 (bz v σ fun zz es=>gd (Nat.ble es.length 1000) (eK (.lst es) σ)).or ((et v σ fun zz es=>gd (Nat.ble es.length 1000) (eK (.lst es) σ)).or (eu v σ fun zz kvs=>gd (Nat.ble kvs.length 1000) (eK (.lst (sO kvs)) σ)))
def Ey (t:AV) (σ:ST):R AV:=et t σ fun zz es=>on2 es fun k v=>fY k fun kt=>(gJ k σ).bind fun ks zz=>eK (.rws kt ks v) σ
def tyD (v:AV) (σ:ST):R AV:=
 (eu v σ fun zz kvs=>gd (Nat.ble kvs.length 1000) (eK (.dic kvs) σ)).or ((nZ v σ fun zz kvs=>gd (Nat.ble kvs.length 1000) (eK (.fdc kvs) σ)).or
 (bz v σ fun zz es=>(on0 es (eK (.dic []) σ)).or (on1 es fun t=>Ey t σ)))
def HT (v:AV) (σ:ST):R AV:=bV v fun i=>match i with|.ofNat n=>eK (.rng n) σ|_=>.no
def HU (b:Bool):Int:=@Bool.rec (fun zz=>Int) 0 1 b
def HV (v:AV) (σ:ST):R AV:=match v with|.boo b=>.ok (.int (HU b)) σ|_=>.no
def tyS (k:Nat) (vs:List AV) (σ:ST):R AV:=match k with
 |0=>on1 vs fun v=>HV v σ
 |2=>on1 vs fun v=>bV v fun i=>gd (big i) (.ok (.ut 11) σ)
 |3=>on1 vs fun v=>tyL v σ
 |4=>on1 vs fun v=>tyD v σ
 |6=>on1 vs fun v=>HT v σ
 |_=>.no
theorem sQ (a b:Str):ltCps a.cps.toList b.cps.toList=decide (a.cps.toList < b.cps.toList):=ltCps_eq _ _
theorem wt {a b:Str}(h:a.cps.toList=b.cps.toList):a=b:=by
 cases a with|mk x=>cases b with|mk y=>exact congrArg Str.mk (jO h)
theorem jY (x y:Str)(r:List Str):qm x (y::r)=if ltCps y.cps.toList x.cps.toList=true then y::qm x r else x::y::r:=by
 show @Bool.rec (fun zz=>List Str) _ _ _=_;cases ltCps y.cps.toList x.cps.toList<;>rfl
theorem gL (x:Str):∀l,(qm x l).Perm (x::l)
 |[]=>.refl _
 |y::r=>by
  rw[jY];by_cases h:ltCps y.cps.toList x.cps.toList=true
  ·rw[if_pos h];exact ((gL x r).cons y).trans (.swap x y r)
  ·rw[if_neg h]
theorem jZ:∀l,(qo l).Perm l
 |[]=>.refl _
 |x::r=>(gL x _).trans ((jZ r).cons x)
def Le (a b:Str):Prop:=¬ b.cps.toList < a.cps.toList
theorem Le.trans {a b c:Str}(h1:Le a b)(h2:Le b c):Le a c:=by
 unfold Le at *;have h1:a.cps.toList<=b.cps.toList:=List.not_lt.mp h1;have h2:b.cps.toList<=c.cps.toList:=List.not_lt.mp h2;exact List.not_lt.mpr (List.le_trans h1 h2)
theorem Le.anti {a b:Str}(h1:Le a b)(h2:Le b a):a=b:=
 wt (List.le_antisymm (List.not_lt.mp h1) (List.not_lt.mp h2))
theorem hM (x:Str):∀l:List Str,l.Pairwise Le->(qm x l).Pairwise Le
 |[]=>fun zz=>List.pairwise_singleton _ _
 |y::r=>fun h=>by
  have ⟨h1,h2⟩:=List.pairwise_cons.mp h;rw[jY,sQ];by_cases q:y.cps.toList < x.cps.toList
  ·rw[if_pos (decide_eq_true q)];refine List.pairwise_cons.mpr ⟨fun z hz=>?_,hM x r h2⟩;rcases aG ((gL x r).mem_iff.mp hz) with rfl|hz
   ·exact List.not_lt.mpr (List.le_of_lt q)
   ·exact h1 z hz
  ·rw[if_neg (by rw[decide_eq_false q];exact nofun)];refine List.pairwise_cons.mpr ⟨fun z hz=>?_,h⟩;rcases aG hz with rfl|hz
   ·exact q
   ·exact Le.trans (b:=y) q (h1 z hz)
theorem hR:∀l,(qo l).Pairwise Le
 |[]=>.nil
 |x::r=>hM x _ (hR r)
theorem jk:∀{p:Str} {l:List Str},risingS p l=true->(p::l).Pairwise Le
 |p,[]=>fun zz=>List.pairwise_singleton _ _
 |p,x::r=>fun h=>by
  have h:(!ltCps x.cps.toList p.cps.toList&&risingS x r)=true:=h;rw[Bool.and_eq_true,Bool.not_eq_true',sQ,decide_eq_false_iff_not]at h;have ih:=jk h.2;refine List.pairwise_cons.mpr ⟨fun z hz=>?_,ih⟩;rcases aG hz with rfl|hz
  ·exact h.1
  ·exact Le.trans (b:=x) h.1 ((List.pairwise_cons.mp ih).1 z hz)
theorem nA:∀{l:List Str},sortedS l=true->l.Pairwise Le
 |[]=>fun zz=>.nil
 |x::r=>fun h=>jk (p:=x) (l:=r) h
theorem ma {a b:List Str}(hp:a.Perm b)(ha:a.Pairwise Le)(hb:b.Pairwise Le):a=b:=by
 exact hp.eq_of_pairwise (fun x y zz zz h1 h2=>Le.anti h1 h2) ha hb
theorem qp {V:Vl}:∀{us:List Value} {ys:List Str},StrsAre us ys->Dens V (l9 ys) us:=by
 intro us ys h
 induction h with
 |nil=>trivial
 |cons x t r ih=>exact ⟨⟨t,by rw[eO]⟩,ih⟩
section
variable {d:Dx}{V W:Vl}{fr fr':AF}{σ σ':ST}{s:Shared}{E:Value->Shared->Prop}{β γ:Type}
theorem Zs.names:∀{a:List (Str×AV)} {b:List (Str×Value)},Zs V a b->b.map (·.1)=a.map (·.1)
 |[],[],_=>rfl
 |p::r,q::t,⟨h1,_,h3⟩=>by rw[List.map_cons,List.map_cons,h3.names,h1]
 |[],_::_,h|_::_,[],h=>h.elim
theorem me {ys:List Str}{l:Addr}{Q:Value->Shared->Prop}(a:At d V fr σ s)(P:Po d V fr (ey (.lst (l9 (qo ys))) σ) s (DE (.obj σ.nx)) Q)
  (C:∀Q':List Value->Shared->Prop,(∀vs h₁ tk₁,StrsAre vs ys->(∀b o,s.heap.get? b=some o->h₁.get? b=some o)->Q' vs { s with heap:=h₁,toks:=tk₁ })->wpAny d.M d.A.in1 (collect (.ref l)) Q' E s)
  (h64:ys.length < 64):wpAny d.M d.A (call (.builtin "sorted") [.ref l]) Q E s:=
 l8 C h64 fun D h' tk vs' ss' c hk hD hS hp hs=>a.stK fun m news x=>by
  have e:=ma (hp.trans (jZ ys).symm) (nA hs) (hR ys);subst e;refine P.new (o:={ cls:=.type "list",data:=.seq vs'.toArray c }) a x (x.F.kept fun b o e=>(hk b o e).1) ?_ (fun q hq=>bJ (hk _ _ (x.N q hq).1).2) (dZ (qp hS));refine mV x.F.ns fun oL zy zy hL zy=>?_;intro q hq;rcases aG hq with rfl|hq
  ·refine ⟨hD,Nat.ne_of_gt (hk _ _ hL).2,?_⟩;generalize hz:(d.h₀.get? D)=x';induction x' using aF with
   |none=>rfl
   |some o=>exact absurd (hk _ _ (x.F.keep _ _ hz)).2 (Nat.lt_irrefl _)
  ·exact ⟨(hk _ _ (x.N q hq).1).1,(x.N q hq).2⟩
theorem wu {v:AV}{u:Value}(du:Den V v u):Snd (yu v σ) (TE d V fr σ (call (.builtin "sorted") [u])):=
 Snd.or (Snd.lst fun i es hv ho=>Snd.opt fun ys hy=>Snd.gd fun hl=>Snd.ok fun s Q E a P=>by
  have hl:_ < 60:=az hl;refine bt (a.lst hv ho du) fun ax us z'2 zy ds l=>?_;obtain rfl:=z'2;have hS:=bX hy ds;have e1:=hS.length;exact me a P (fun Q' h=>collect_list l (h _ _ s.toks hS fun b o e=>(Heap.get?_update_other _ _ (Nat.ne_of_gt (Heap.lt_size e))).trans (Heap.get?_push_of_some _ e)) (by have:=bC;lia)) (by lia))
 (Snd.dic fun i kvs hv ho=>Snd.gd fun hl=>Snd.ok fun s Q E a P=>by
  have hl:_ < 60:=az hl;refine ir (a.dic hv ho du) fun ax o us z'3 zy hg hs hd z=>?_;obtain rfl:=z'3;have e1:=z.length;exact me a P (fun Q' h=>kI a.c.hh hs (Heap.dictOf_iff.mpr ⟨o,hg,hd d.prog⟩) (by have:=bC;lia) fun vs h₁ tk₁ hS hk=>h vs h₁ tk₁ (z.names▸hS) hk) (by rw[List.length_map];lia))
theorem Ah {tb:Tb}:gG nmB tb 1 (biT tb):=by
 intro k vs σ v σ' e d V fr us ht rm dv;change @Nat.rec (fun zz=>R AV) _ _ (@Bool.rec (fun zz=>Nat) 0 1 (Nat.beq k 3))=_ at e;generalize hk:Nat.beq k 3=x';induction x' using aH with
 |false=>rw[hk]at e;exact zU e ht rm dv
 |true=>
  rw[hk]at e;obtain rfl:=aK hk;exact Snd.of e (Φ:=TE d V fr σ (call (nmB 3) us)) (Snd.n1 dv fun a u e q=>e▸wu q)
theorem wv {pos:Pos}:Snd (Ex σ) (TE d V fr σ (eval (.Dict [] [] pos) d.ev)):=
 Snd.ok fun s Q E a P=>a.stK fun m news x=>newDict_K x.F x.N a.c.T.nolimit fun D h' o F' N' l1 lo hd zz zz zz=>P.new a x F' N' (fun q hq=>bJ (l1 q hq)) fun W zz hW=>.dic hW lo (ji hd) trivial
theorem ww {i:Int}(hb:big i=true):(Str.ofString (toString i)).length<=11/\i.natAbs.log2 < 1920:=by
 refine ay (jd hb) fun b1 b2=>?_;have q:i.natAbs < 10 ^ 10:=by lia
 exact ⟨by rw[PySem.ofString_length];exact int_text_length_le10 (a:=i) (k:=10) (by decide) q,of_decide_eq_true (ny q 0).1⟩
theorem mf {kn:Str->Value->Bool}(hk:∀k v,kn k v=true->∃t,v=.str k t):∀{kvs:List (Str×AV)} {us:List (Str×Value)} (vs:List Value),Zs V kvs us->vs.length=us.length->(∀(j:Nat) (v:Value),vs[j]? = some v->∃k x,us[j]? = some (k,x)/\kn k v=true)->Dens V (sO kvs) vs
 |[],[],vs,_,hl,_=>by rw[List.eq_nil_of_length_eq_zero hl];trivial
 |p::r,q::t,v::vs,⟨h1,_,h3⟩,hl,hv=>by
  refine aI (hv 0 v rfl) fun k x e1 e2=>?_;refine av (hk _ _ e2) fun u z'1=>?_;obtain rfl:=z'1;obtain rfl:=soo e1;exact ⟨⟨u,by rw[h1,eO]⟩,mf hk vs h3 (Nat.succ.inj hl) fun j v hj=>hv (j+1) v hj⟩
 |[],_::_,_,h,_,_|_::_,[],_,h,_,_=>h.elim
 |_::_,_::_,[],_,hl,_=>Nat.noConfusion hl
theorem Sx.one {m:Str->Option Value}{news:L2}(x:Sx d V fr σ.os s.heap m news){v:AV}{i:Nat}{ao:AO}{u:Value}(hv:v=.obj i)(ho:aa σ.os i=some ao)(du:Den V v u):∃ax l,u=.ref ax/\V.ρ i=some ax/\Is d.w V d.tb.flds i ao l/\∀p∈l,p∈news:=by
 rw[hv]at du;refine aj du fun ax hρ du'2=>?_;clear du;obtain rfl:=du'2;refine aj (x.D.mem ho) fun l h1 h2=>?_;exact ⟨ax,l,rfl,hρ,h1,h2⟩
theorem Sx.lst {m:Str->Option Value}{news:L2}(x:Sx d V fr σ.os s.heap m news){v:AV}{i:Nat}{es:List AV}{u:Value}(hv:v=.obj i)(ho:aa σ.os i=some (.lst es))(du:Den V v u):∃ax us n,u=.ref ax/\(ax,listOf us.toArray n)∈news/\Dens V es us:=by
 refine bt (x.one hv ho du) fun ax l h1 h2 hl hm=>?_;refine bu hl fun zy us n h3 h4 hl'5=>?_;clear hl;obtain rfl:=hl'5;obtain rfl:=soo (h2.symm.trans h3);exact ⟨ax,us,n,h1,hm _ (.head _),h4⟩
theorem Sx.tup {m:Str->Option Value}{news:L2}(x:Sx d V fr σ.os s.heap m news){v:AV}{i:Nat}{es:List AV}{u:Value}(hv:v=.obj i)(ho:aa σ.os i=some (.tup es))(du:Den V v u):∃ax us n,u=.ref ax/\(ax,({ cls:=.type "tuple",data:=.seq us.toArray n }:Obj))∈news/\Dens V es us:=by
 refine bt (x.one hv ho du) fun ax l h1 h2 hl hm=>?_;refine bu hl fun zy us n h3 h4 hl'5=>?_;clear hl;obtain rfl:=hl'5;obtain rfl:=soo (h2.symm.trans h3);exact ⟨ax,us,n,h1,hm _ (.head _),h4⟩
theorem Sx.dic {m:Str->Option Value}{news:L2}(x:Sx d V fr σ.os s.heap m news){v:AV}{i:Nat}{kvs:List (Str×AV)}{u:Value}(hv:v=.obj i)(ho:aa σ.os i=some (.dic kvs))(du:Den V v u) :
  ∃ax o us,u=.ref ax/\(ax,o)∈news/\(ax==sysModules)=false/\(∀prog,o.IsDictOf (strKind prog d.w) us)/\Zs V kvs us:=by
 refine bt (x.one hv ho du) fun ax l h1 h2 hl hm=>?_;refine cK hl fun zy o us h3 h4 h5 h6 hl'7=>?_;clear hl;obtain rfl:=hl'7;obtain rfl:=soo (h2.symm.trans h3);exact ⟨ax,o,us,h1,hm _ (.head _),h4,h5,h6⟩
theorem gg {n:Nat}(h:Nat.ble n 1000=true):n<=sizeLine:=ba (az h) (by rw[sizeLine_eq];decide)
theorem Ai {v:AV}{u:Value}(du:Den V v u):Snd (tyL v σ) (TE d V fr σ (call (.type "list") [u])):=
 Snd.or (Snd.lst fun i es hv ho=>Snd.gd fun hl=>Snd.ok fun s Q E a P=>a.stK fun m news x=>by
  refine bu (x.lst hv ho du) fun ax us n z'3 hm ds=>?_;obtain rfl:=z'3;exact kup_listOf x.F x.N hm (zs:=us) rfl (fun D c h' F' N' l1=>P.new a x F' N' (fun q hq=>bJ (l1 q hq)) (dZ ds)) (by rw[show us.toArray.toList=us from rfl,ds.length];exact gg hl))
 (Snd.or (Snd.tup fun i es hv ho=>Snd.gd fun hl=>Snd.ok fun s Q E a P=>a.stK fun m news x=>by
  refine bu (x.tup hv ho du) fun ax us n z'3 hm ds=>?_;obtain rfl:=z'3;exact kup_listOfT x.F x.N hm (zs:=us) rfl (fun D c h' F' N' l1=>P.new a x F' N' (fun q hq=>bJ (l1 q hq)) (dZ ds)) (by rw[show us.toArray.toList=us from rfl,ds.length];exact gg hl))
 (Snd.dic fun i kvs hv ho=>Snd.gd fun hl=>Snd.ok fun s Q E a P=>a.stK fun m news x=>by
  refine cK (x.dic hv ho du) fun ax o us z'3 hm lo hd z=>?_;obtain rfl:=z'3;refine av ((kda_dict x.N hm (hd d.prog)).dictAt) fun ep hat=>?_;exact kdl_N (kdl_dict (knd:=strKind d.prog d.w) (kvs:=us) (ep:=ep) lo) a.c.hh x.F x.N hat (by rw[z.length];exact gg hl) fun D c h' tk vs F' N' l1 hl hv=>P.new a x F' N' (fun q hq=>bJ (l1 q hq)) (dZ (mf (kn:=(strKind d.prog d.w).is) (fun k v e=>Value.isStrOf_shape e) vs z hl hv))))
theorem oJ {ao ao':AO}{i:Nat}{v:AV}{u:Value}(hv:v=.obj i)(ho:aa σ.os i=some ao)(du:Den V v u)
  (h:∀l,Is d.w V d.tb.flds i ao l->∃ax o us,V.ρ i=some ax/\l=[(ax,o)]/\(ax==sysModules)=false/\(∀prog,o.IsDictOf (strKind prog d.w) us)/\us.length<=sizeLine/\∀W y o',V.le W->W.ρ σ.nx=some y->(y==sysModules)=false->(∀prog,o'.IsDictOf (strKind prog d.w) us)->Is d.w W d.tb.flds σ.nx ao' [(y,o')]) :
  TE d V fr σ (call (.type "dict") [u]) (.obj σ.nx) (ey ao' σ):=fun s Q E a P=>a.stK fun m news x=>by
 refine bt (x.one hv ho du) fun ax l z'2 h2 hl hm=>?_;obtain rfl:=z'2;refine ir (h l hl) fun zy o us h3 z'4 lo hd h5 h6=>?_;obtain rfl:=z'4;obtain rfl:=soo (h2.symm.trans h3);refine kt_call_dict lo (kda_dict x.N (hm _ (.head _)) (hd d.prog)) h5 fun h' hm' hs'=>?_;refine aj (Heap.dictOf_iff.mp hm') fun o' ho' hd'=>?_;have N1:=News.push x.F x.N { cls:=.type "dict",data:=.dict #[] };exact P.new a x ((x.F.push _).change hs' (N1 _ (.head _)).2.1 (N1.fresh (.head _))) (N1.setHead x.N.apart hs' ho') (fun q hq=>x.N.apart q hq) fun W le hW=>h6 W _ o' le hW (x.F.notModules (modules_low a.c.T.nolimit)) (ji hd')
theorem mh {es:List AV}{i:Nat}{re:RE}{v:AV}{u:Value}(rm:Room d.A 0)(hv:v=.obj i)(ho:aa σ.os i=some (.lst es))(du:Den V v u)
  (h:∀s m news,At d V fr σ s->Sx d V fr σ.os s.heap m news->∀us,Dens V es us->∃e:Option (List Str×Addr×Value),((e=none/\us.toArray = #[])\/∃ks ka u t nt,e=some (ks,ka,u)/\us.toArray = #[.ref t]/\s.heap.get? t=some { cls:=.type "tuple",data:=.seq #[.ref ka,u] nt }/\(TK d.prog d.w).is s.heap ks ka)/\ni V re e.toList) :
  TE d V fr σ (call (.type "dict") [u]) (.obj σ.nx) (ey (r6 re) σ):=fun s Q E a P=>a.stK fun m news x=>by
 refine bu (x.lst hv ho du) fun ax us n z'3 hm ds=>?_;obtain rfl:=z'3;refine aj (h s m news a x us ds) fun e h1 h2=>?_;refine jI (prog:=d.prog) a.c.hh (by have:=kE rm;lia) (x.N.get hm) h1 fun h' tk hk hd=>?_;refine aI (r9 hd h2) fun o' ep' ho' hr'=>?_;exact P.new a x (x.F.kept hk) (news_pushed x.F x.N hk ho' rfl) (cR x.N) fun W le hW=>nq hW (x.F.notModules (modules_low a.c.T.nolimit)) (hr'.mono le)
theorem Aj (rm:Room d.A 0){v:AV}{u:Value}(du:Den V v u):Snd (tyD v σ) (TE d V fr σ (call (.type "dict") [u])):=
 Snd.or (Snd.dic fun i kvs hv ho=>Snd.gd fun hl=>Snd.ok (oJ hv ho du fun l hl'=>by
  refine cK hl' fun ax o us h1 h2 h3 h4 hl''7=>?_;clear hl';obtain rfl:=hl''7;exact ⟨ax,o,us,h1,rfl,h2,h3,by rw[h4.length];exact gg hl,fun W y o' le q1 q2 q3=>.dic q1 q2 q3 (h4.mono le)⟩))
 (Snd.or (Snd.fdc fun i kvs hv ho=>Snd.gd fun hl=>Snd.ok (oJ hv ho du fun l hl'=>by
  refine cK hl' fun ax o us h1 h2 h3 h4 hl''7=>?_;clear hl';obtain rfl:=hl''7;exact ⟨ax,o,us,h1,rfl,h2,h3,ba (h4.len (kH (h3 default))) (gg hl),fun W y o' le q1 q2 q3=>.fdc q1 q2 q3 (h4.mono le)⟩))
 (Snd.lst fun i es hv ho=>by
  match es,ho with
  |[],ho=>
   exact Snd.or (Snd.ok (mh (re:=none) rm hv ho du fun s m news a x us ds=>by
    induction us using aV with
    |nil=>exact ⟨none,.inl ⟨rfl,rfl⟩,rfl⟩
    |cons=>exact ds.elim)) Snd.no
  |[t],ho=>
   exact Snd.or Snd.no (Snd.tup fun j fs ht hf=>by
    match fs,hf with
    |[],_|[_],_|_::_::_::_,_=>exact Snd.no
    |[k,v'],hf=>
     exact Snd.obj fun kt hk=>Snd.bind fun ks σ₁ h2=>Snd.ok (mh (re:=some (kt,ks,v')) rm hv ho du fun s m news a x us ds=>by
      refine aj ds.i1 fun ut z'1 dt=>?_;obtain rfl:=z'1;refine bu (x.tup ht hf dt) fun at_ us2 n2 z'3 hm2 ds2=>?_;obtain rfl:=z'3;refine aR ds2.i2 fun uk uv z'2 dk dv=>?_;obtain rfl:=z'2;refine ay (d7 (d:=d) (fr:=fr) dk ks σ₁ h2) fun zy g=>?_;refine bt (g s a) fun j' ka e1 z'3 hρ hka=>?_;obtain rfl:=z'3;rw[hk]at e1;injection e1 with e1
      exact ⟨some (ks,ka,uv),.inr ⟨ks,ka,uv,at_,n2,rfl,rfl,x.N.get hm2,hka⟩,ka,uv,rfl,by rw[e1];exact hρ,dv⟩))
  |_::_::_,_=>exact Snd.or Snd.no Snd.no))
set_option tactic.hygienic true in
theorem Ez {tb:Tb}:gG nmT tb 0 tyS:=by
 intro k vs σ v σ' e d V fr us ht rm dv;refine Snd.of e (Φ:=TE d V fr σ (call (nmT k) us)) ?_
 match k with
 |0=>
  exact Snd.n1 dv fun a u e q=>e▸by
   induction a using aA<;>first|exact Snd.no|skip
   rename_i b;obtain rfl:=q;exact Snd.ok fun s Q E a P=>call_int_bool (P.tok a ⟨s.toks,by induction b using aH<;>rfl⟩ _)
 |2=>
  exact Snd.n1 dv fun a u e q=>e▸Snd.int fun i hi=>Snd.gd fun hb=>Snd.ok fun s Q E a P=>by
   rw[hi]at q;refine av q fun t q'1=>?_;clear q;obtain rfl:=q'1;refine ay (ww hb) fun l1 l2=>?_;exact PySem.P.str_of_int l2 (P.tok a ⟨_,_,rfl,l1⟩ _)
 |3=>exact Snd.n1 dv fun a u e q=>e▸Ai q
 |4=>exact Snd.n1 dv fun a u e q=>e▸Aj rm q
 |6=>
  exact Snd.n1 dv fun a u e q=>e▸Snd.int fun i hi=>by
   cases i with
   |negSucc=>exact Snd.no
   |ofNat n=>
    rw[hi]at q;refine av q fun t q'1=>?_;clear q;obtain rfl:=q'1;exact Snd.ok fun s Q E a P=>a.stK fun m news x=>call_range_1 (P.new a x (x.F.push _) (News.push x.F x.N _) (cR x.N) fun W zz hW=>.rng hW fun h hh=>⟨_,_,_,hh⟩)
 |1|5|_+7=>exact Snd.no
end
end
section
set_option genInjectivity true
set_option genSizeOfSpec true
noncomputable def nC:List Nat->List AV
 |[]=>[]
 |c::r=>.str [c]::nC r
noncomputable def cF (n:Nat):Nat->List AV
 |0=>[]
 |k+1=>.int (.ofNat n)::cF (n+1) k
def yv {β:Type} (v:AV) (σ:ST) (k:Nat->R β):R β:=eE v σ fun zz o=>match o with|.rng n=>k n|_=>.no
def yw {β:Type} (v:AV) (σ:ST) (k:Nat->R β):R β:=eE v σ fun zz o=>match o with|.vws n=>k n|_=>.no
def sR (ao:AO) (σ:ST):R Nat:=.ok σ.nx (ey ao σ)
def itA (tb:Tb) (v:AV) (σ:ST):R Nat:=
 (bz v σ fun j zz=>sR (.itr j 0) σ).or ((et v σ fun j zz=>sR (.itu (.obj j) 0) σ).or ((yv v σ fun n=>gd (Nat.ble n 1000) (sR (.itg (cF 0 n) 0) σ)).or
 ((eu v σ fun j kvs=>.ok σ.nx (jc j (.dit kvs 0 σ.nx) σ)).or ((i8 false v σ fun j zz e=>.ok σ.nx (jc j (.rit true e 0 σ.nx) σ)).or
 ((yw v σ fun i=>i8 false (.obj i) σ fun zz zz e=>.ok σ.nx (jc i (.rit false e 0 σ.nx) σ)).or
 ((lH v fun a=>aE (aa tb.tps a) fun zz=>sR (.itu (.st a) 0) σ).or (cQ v fun l=>sR (.itg (nC l) 0) σ)))))))
def hU (o:Option AV) (it:Nat) (ao:AO) (σ:ST):R (Option AV):=@Option.rec _ (fun zz=>R (Option AV)) (.ok none (upO it .gone σ)) (fun v=>.ok (some v) (upO it ao σ)) o
def nxI (it j k:Nat) (σ:ST):R (Option AV):=bz (.obj j) σ fun zz es=>hU (bp es k) it (.itr j (k+1)) σ
def nxT (tb:Tb) (it:Nat) (t:AV) (k:Nat) (σ:ST):R (Option AV):=(et t σ fun zz es=>hU (bp es k) it (.itu t (k+1)) σ).or (lH t fun a=>aE (aa tb.tps a) fun es=>hU (bp es k) it (.itu t (k+1)) σ)
def nxG (it:Nat) (es:List AV) (k:Nat) (σ:ST):R (Option AV):=gd (Nat.ble k es.length) (hU (bp es k) it (.itg es (k+1)) σ)
def nxD (it j:Nat) (kvs:List (Str×AV)) (k i:Nat) (σ:ST):R (Option AV):=gd (Nat.beq i it) (@Option.rec _ (fun zz=>R (Option AV)) (.ok none ⟨bf σ.os j (.dic kvs),σ.nx⟩) (fun p=>.ok (some (.str p.1.cps.toList)) ⟨bf σ.os j (.dit kvs (k+1) it),σ.nx⟩) (bp kvs k))
def nxR (it j:Nat) (b:Bool) (e:RE) (k i:Nat) (σ:ST):R (Option AV):=gd (Nat.beq i it) (@Option.rec _ (fun zz=>R (Option AV)) (.ok none ⟨bf σ.os j (r6 e),σ.nx⟩) (fun v=>.ok (some v) ⟨bf σ.os j (.rit b e (k+1) it),σ.nx⟩) (se b e k))
def nxJ (it j:Nat) (σ:ST):R (Option AV):=aE (aa σ.os j) fun o=>match o with
 |.dit kvs k i=>nxD it j kvs k i σ
 |.rit b e k i=>nxR it j b e k i σ
 |_=>.no
def nxA (tb:Tb) (it:Nat) (σ:ST):R (Option AV):=aE (aa σ.os it) fun o=>match o with
 |.itr j k=>nxI it j k σ
 |.itu t k=>nxT tb it t k σ
 |.itg es k=>nxG it es k σ
 |.dkt j=>nxJ it j σ
 |_=>.no
def HW (W:Vl):Option AV->Option Value->Prop
 |none,none=>True
 |some a,some u=>Den W a u
 |_,_=>False
def NX (d:Dx) (V:Vl) (fr:AF) (σ:ST) (it:Nat) (r:Option AV) (σ':ST):Prop:=∀s (Q:Option Value->Shared->Prop) E x,At d V fr σ s->V.ρ it=some x->
 (∀ou h tk,HW V r ou->At d V fr σ' (Shared.to s h tk)->Q ou (Shared.to s h tk))->wpAny d.M d.A (pyNext (.ref x)) Q E s
section
variable {d:Dx}{V W:Vl}{fr fr':AF}{σ σ':ST}{s:Shared}{E:Value->Shared->Prop}{β γ:Type}
theorem Snd.rng {Φ:β->ST->Prop}{v:AV}{k:Nat->R β}(h:∀i n,v=.obj i->aa σ.os i=some (.rng n)->Snd (k n) Φ):Snd (yv v σ k) Φ:=
 Snd.ao fun i o hv ho=>by induction o using aN<;>first|exact Snd.no|exact h i _ hv ho
theorem Snd.vws {Φ:β->ST->Prop}{v:AV}{k:Nat->R β}(h:∀i n,v=.obj i->aa σ.os i=some (.vws n)->Snd (k n) Φ):Snd (yw v σ k) Φ:=
 Snd.ao fun i o hv ho=>by induction o using aN<;>first|exact Snd.no|exact h i _ hv ho
theorem mj {c:Nat}:∀{x:List Nat} {i:Nat},x[i]? = some c->(nC x)[i]? = some (.str [c])
 |[],_=>fun h=>ag h
 |_::_,0=>fun h=>by obtain rfl:=soo h;rfl
 |_::r,i+1=>fun h=>mj (x:=r) (i:=i) h
theorem oK {x:List Nat}{i:Nat}{v:Value}(h:SignAt ⟨x.toArray⟩ i v):∃a,(nC x)[i]? = some a/\Den V a v:=by
 refine aI h fun c u h1 h'3=>?_;clear h;obtain rfl:=h'3;exact ⟨_,mj (by simpa using h1),⟨u,rfl⟩⟩
theorem mn:∀x:List Nat,(nC x).length=x.length
 |[]=>rfl
 |_::r=>congrArg Nat.succ (mn r)
theorem iH:∀(k n i:Nat),i < k->(cF n k)[i]? = some (.int ((n+i:Nat):Int))
 |0,_,_=>fun h=>absurd h (Nat.not_lt_zero _)
 |k+1,n,0=>fun zz=>rfl
 |k+1,n,i+1=>fun h=>(iH k (n+1) i (Nat.lt_of_succ_lt_succ h)).trans (by rw[show n+1+i=n+(i+1) by lia])
theorem eR:∀(k n:Nat),(cF n k).length=k
 |0=>fun zz=>rfl
 |k+1=>fun n=>congrArg Nat.succ (eR k (n+1))
theorem Ak {n:Nat}{v:AV}{i:Nat}{u:Value}(hb:n<=1000)(hv:v=.obj i)(ho:aa σ.os i=some (.rng n))(du:Den V v u):TE d V fr σ (pyIter u) (.obj σ.nx) (ey (.itg (cF 0 n) 0) σ):=fun s Q E a P=>a.has ho fun l hl g=>by
 rw[hv]at du;refine aj du fun ax hρ du'2=>?_;clear du;obtain rfl:=du'2;refine aR hl fun zy zy h1 h2 hl'4=>?_;clear hl;obtain rfl:=hl'4;obtain rfl:=soo (hρ.symm.trans h1);refine vk (h2 s.heap (g _ (.head _))) fun t u v hr=>?_;have hn:Builtin.Range.rangeSize 0 n 1=(n:Int):=by rw[rangeSize_nat];lia
 refine wpAny_pyIter_range hr (small_one (by decide) (by decide) (by lia) (by lia)) (P.push (tk:=s.toks) a rfl fun W le hW=>.itg hW ⟨fun i h=>IsRangeIter h s.heap.objs.size (0+(i:Nat)*1) ((n:Int) - (i:Nat)) 1,fun i v=>i < n/\∃t,v=.int (0+i*1) t,n,fun prog A hh=>?_,(eR _ _).symm,fun h hh=>?_,fun i h hi=>⟨_,hi⟩,fun i v hv=>?_⟩)
 ·exact (Walks.range hh _ 0 1 n).bound
 ·rw[hn]at hh;simpa [IsRangeIter] using hh
 ·obtain ⟨hi,t,rfl⟩:=hv;exact ⟨_,iH _ _ _ hi,⟨t,by congr 1;lia⟩⟩
theorem Al {kvs:List (Str×AV)}{v:AV}{i:Nat}{u:Value}(hv:v=.obj i)(ho:aa σ.os i=some (.dic kvs))(du:Den V v u):TE d V fr σ (pyIter u) (.obj σ.nx) (jc i (.dit kvs 0 σ.nx) σ):=fun s Q E a P=>by
 refine ir (a.dic hv ho du) fun ax o us z'3 hρ hg lo hd z=>?_;obtain rfl:=z'3;refine vj (hd d.prog) fun es ep q1 q2 q3 q4 q5=>?_;have hat:∀prog',KdkAt (strKind prog' d.w) o us ep:=fun prog'=>⟨es,q1,q2,q3,jX q4,q5⟩
 have le:=Vl.addR_le (a:=s.heap.objs.size) (a.v.fresh σ.nx (aP _)).1;exact wpAny_pyIter_dict lo ((hat d.prog).dictAt hg) (P (.ref s.heap.objs.size) _ s.toks _ le ⟨_,Vl.addR_ρ,rfl⟩ (a.pair ho (fun l hl=>by
  refine cK hl fun zy zy zy h1 zy zy zy hl'7=>?_;clear hl;obtain rfl:=hl'7;obtain rfl:=soo (hρ.symm.trans h1);exact ⟨_,rfl⟩) hg rfl fun W le hW=>.dit (k:=0) (le.ρ _ _ hρ) lo hat (z.mono le) hW (oi:={ cls:=.type "dict_keyiterator",data:=.fields #[.ref ax,.int 0 0,.int us.length 0,.int ep 0] }) ⟨rfl,rfl⟩))
theorem Am {l:List Nat}{t:Tok}:TE d V fr σ (pyIter (.str ⟨l.toArray⟩ t)) (.obj σ.nx) (ey (.itg (nC l) 0) σ):=fun s Q E a P=>by
 have hN:(Str.mk l.toArray).cps.size=(nC l).length:=by rw[mn];simp
 cases ha:(Str.mk l.toArray).cps.all (· < 128)
 ·exact wpAny_pyIter_wide ha (P.push (tk:=s.toks) a rfl fun W le hW=>.itg hW ⟨_,_,_,fun prog A hh=>Walks.strWide hh _ ⟨l.toArray⟩ t,hN,fun h hh=>⟨_,hh,rfl,rfl⟩,fun i h hi=>let ⟨o,ho,_⟩:=hi;⟨o,ho⟩,fun i v hv=>oK hv⟩)
 ·exact wpAny_pyIter_ascii ha (P.push (tk:=s.toks) a rfl fun W le hW=>.itg hW ⟨_,_,_,fun prog A hh=>Walks.strAscii hh _ ⟨l.toArray⟩ t,hN,fun h hh=>⟨_,hh,rfl,rfl⟩,fun i h hi=>let ⟨o,ho,_⟩:=hi;⟨o,ho⟩,fun i v hv=>oK hv⟩)
theorem oM {v:AV}{u:Value}(du:Den V v u):Snd (itA d.tb v σ) fun it σ'=>TE d V fr σ (pyIter u) (.obj it) σ':=
 Snd.or (Snd.lst fun j es hv ho=>Snd.ok fun s Q E a P=>by
  refine bt (a.lst hv ho du) fun ax us z'2 hρ ds l=>?_;obtain rfl:=z'2;exact wpAny_pyIter_list l (P.push (tk:=s.toks) a rfl fun W le hW=>.itr hW (le.ρ _ _ hρ) fun h hh=>⟨_,hh,rfl,rfl⟩)) <|
 Snd.or (Snd.tup fun j es hv ho=>Snd.ok fun s Q E a P=>by
  refine bt (a.tup hv ho du) fun ax us z'2 hρ ds l=>?_;obtain rfl:=z'2;exact wpAny_pyIter_tuple l (P.push (tk:=s.toks) a rfl fun W le hW=>.itu hW (show Den W (.obj j) (.ref ax) from ⟨ax,le.ρ _ _ hρ,rfl⟩) fun h hh=>⟨_,hh,rfl,rfl⟩)) <|
 Snd.or (Snd.rng fun i n hv ho=>Snd.gd fun hb=>Snd.ok (Ak (az hb) hv ho du)) <|
 Snd.or (Snd.dic fun i kvs hv ho=>Snd.ok (Al hv ho du)) <|
 Snd.or (Snd.row fun i o e h=>Snd.ok fun s Q E a P=>sd h a du (.inl ⟨rfl,rfl⟩) fun h tk W x le hx a'=>P _ h tk W le ⟨x,hx,rfl⟩ a') <|
 Snd.or (Snd.vws fun j i hv ho=>Snd.row fun i' o e h=>Snd.ok fun s Q E a P=>a.has ho fun l hl g=>by
  rw[hv]at du;refine aj du fun ax hρ du'2=>?_;clear du;obtain rfl:=du'2;refine cK hl fun zy zy dd g1 g2 g3 g4 hl'7=>?_;clear hl;obtain rfl:=hl'7;obtain rfl:=soo (hρ.symm.trans g1);obtain rfl:i=i':=aoo h.hv;exact sd h a (u:=.ref dd) ⟨dd,g2,rfl⟩ (.inr ⟨rfl,fun z hz=>by obtain rfl:=Value.ref.inj hz;exact ⟨ax,rfl,_,g _ (.head _),g3,g4⟩⟩) fun h tk W x le hx a'=>P _ h tk W le ⟨x,hx,rfl⟩ a') <|
 Snd.or (Snd.st fun ad hv=>Snd.opt fun es ht=>Snd.ok fun s Q E a P=>by
  rw[hv]at du;obtain rfl:=du;refine aI (a.c.O.tps _ _ ht) fun us n h1 h2=>?_;exact wpAny_pyIter_tuple ⟨_,a.Xs _ _ h1,rfl,_,rfl⟩ (P.push (tk:=s.toks) a rfl fun W le hW=>.itu hW (show Den W (.st ad) (.ref ad) from rfl) fun h hh=>⟨_,hh,rfl,rfl⟩)) <|
 Snd.str fun l hl=>Snd.ok (by refine av (du.str hl) fun t z'1=>?_;obtain rfl:=z'1;exact Am)
theorem Zs.nth:∀{kvs:List (Str×AV)} {us:List (Str×Value)} {k:Nat} {p:Str×AV},Zs V kvs us->bp kvs k=some p->∃q,us[k]? = some q/\p.1=q.1
 |[],[],_,_,_,h=>ag h
 |_::_,q::_,0,_,z,h=>by obtain rfl:=soo h;exact ⟨q,rfl,z.1⟩
 |_::_,_::_,k+1,_,z,h=>Zs.nth (k:=k) z.2.2 h
 |[],_::_,_,_,z,_|_::_,[],_,_,z,_=>z.elim
theorem iI {it:Nat}{o:Option AV}{ao0 ao:AO}(ho:aa σ.os it=some ao0)(one:∀l x,V.ρ it=some x->Is d.w V d.tb.flds it ao0 l->∃ob,l=[(x,ob)])
  (h:∀s (Q:Option Value->Shared->Prop) E x ob,At d V fr σ s->V.ρ it=some x->Is d.w V d.tb.flds it ao0 [(x,ob)]->s.heap.get? x=some ob->
   (∀v u h' o' tk,o=some v->Den V v u->h'.get? x=some o'->Is d.w V d.tb.flds it ao [(x,o')]->Heap.ExtBut x s.heap h'->Q (some u) (Shared.to s h' tk))->
   (∀h' tk,o=none->Heap.ExtBut x s.heap h'->Q none (Shared.to s h' tk))->wpAny d.M d.A (pyNext (.ref x)) Q E s):Snd (hU o it ao σ) (NX d V fr σ it):=by
 have key:∀r σ',hU o it ao σ=.ok r σ'->NX d V fr σ it r σ':=fun r σ' e s Q E x a hx P=>a.turn ho fun l hl g sw=>by
  refine av (one l x hx hl) fun ob z'1=>?_;obtain rfl:=z'1;refine h s Q E x ob a hx hl (g _ (.head _)).1 (fun v u h' o' tk ev dv hg is he=>?_) fun h' tk ev he=>?_
  ·rw[ev]at e;refine ay (roo e) fun z'0 z'1=>?_;obtain rfl:=z'0;obtain rfl:=z'1;exact P (some u) h' tk dv (sw _ [(x,o')] h' tk is (fun p hp=>by obtain rfl:=bg hp;exact hg) (.refl _) fun b o hb e=>he b o (fun q=>hb (q▸.head _)) e)
  ·rw[ev]at e;refine ay (roo e) fun z'0 z'1=>?_;obtain rfl:=z'0;obtain rfl:=z'1;exact P none h' tk trivial (sw .gone [] h' tk .gone (fun p hp=>nomatch hp) (List.nil_sublist _) fun b o hb e=>he b o (fun q=>hb (q▸.head _)) e)
 exact key
theorem mo {es:List AV}{us:List Value}{k:Nat}(ds:Dens V es us)(h:bp es k=none):us.length<=k:=by
 rw[br,List.getElem?_eq_none_iff]at h;rwa [ds.length]
theorem sT {x tx:Addr}{k:Nat}{es:List AV}{us:List Value}{Q:Option Value->Shared->Prop}(hh:d.A.handled=none)(hit:s.heap.IsTupleIter x tx k)(l:IsTup s.heap tx us.toArray)(ds:Dens V es us)
  (P1:∀v u h' o',bp es k=some v->Den V v u->h'.get? x=some o'->(∀h:Heap,h.get? x=some o'->h.IsTupleIter x tx (k+1))->Heap.ExtBut x s.heap h'->Q (some u) (Shared.to s h' s.toks))
  (P2:∀h',bp es k=none->Heap.ExtBut x s.heap h'->Q none (Shared.to s h' s.toks)):wpAny d.M d.A (pyNext (.ref x)) Q E s:=by
 generalize hv:bp es k=x';induction x' using aF with
 |some v=>
  refine aj (ds.nth hv) fun u hu du=>?_;refine wpAny_pyNext_tuple_item hit l (x:=u) (by simpa using hu) fun h' hit' hs'=>?_;refine aj hit' fun o' ho' r=>?_;clear hit';exact P1 v u h' o' hv du ho' (fun h hh=>⟨o',hh,r⟩) fun b o hb e=>hs'.extBut b o hb e
 |none=>
  have:=mo ds hv;exact wpAny_pyNext_tuple_end hh hit l (by simp;exact this) fun h' he'=>P2 h' hv fun b o hb e=>he' b o hb e
theorem An {it j k:Nat}(ho:aa σ.os it=some (.itr j k)):Snd (nxI it j k σ) (NX d V fr σ it):=
 Snd.lst fun j' es hj' hj=>iI ho (fun l x hx hl=>by refine bZ hl fun zy zy zy h1 zy zy hl'6=>?_;clear hl;obtain rfl:=hl'6;obtain rfl:=soo (hx.symm.trans h1);exact ⟨_,rfl⟩) fun s Q E x ob a hx is g P1 P2=>by
  obtain rfl:=aoo hj';refine bZ is fun zy zy l h1 h2 h3 e=>?_;clear is;obtain rfl:=soo (hx.symm.trans h1);obtain rfl:=(bo (cM e).1).2;refine bt (a.lst rfl hj ⟨_,h2,rfl⟩) fun ax us e1 hρ ds hli=>?_;obtain rfl:=Value.ref.inj e1;have hit:=h3 s.heap g;generalize hv:bp es k=x';induction x' using aF with
  |some v=>
   refine aj (ds.nth hv) fun u hu du=>?_;refine wpAny_pyNext_list_item hit hli (x:=u) (by simpa using hu) fun h' hit' hs'=>?_;refine aj hit' fun o' ho' r=>?_;clear hit';exact P1 v u h' o' s.toks hv du ho' (.itr hx h2 fun h hh=>⟨o',hh,r⟩) fun b o hb e=>hs'.extBut b o hb e
  |none=>
   have:=mo ds hv;exact wpAny_pyNext_list_end a.c.hh hit hli (by simp;exact this) fun h' he'=>P2 h' s.toks hv fun b o hb e=>he' b o hb e
theorem Ao {it k:Nat}{t:AV}(ho:aa σ.os it=some (.itu t k)):Snd (nxT d.tb it t k σ) (NX d V fr σ it):=
 have one:∀l x,V.ρ it=some x->Is d.w V d.tb.flds it (.itu t k) l->∃ob,l=[(x,ob)]:=fun l x hx hl=>by refine bZ hl fun zy zy zy h1 zy zy hl'6=>?_;clear hl;obtain rfl:=hl'6;obtain rfl:=soo (hx.symm.trans h1);exact ⟨_,rfl⟩
 Snd.or (Snd.tup fun j es ht hj=>iI ho one fun s Q E x ob a hx is g P1 P2=>by
  refine bZ is fun zy zy tx h1 h2 h3 e=>?_;clear is;obtain rfl:=soo (hx.symm.trans h1);obtain rfl:=(bo (cM e).1).2;refine bt (a.tup ht hj h2) fun ax us e1 hρ ds l=>?_;obtain rfl:=Value.ref.inj e1;exact sT a.c.hh (h3 s.heap g) l ds (fun v u h' o' e1 e2 e3 e4 e5=>P1 v u h' o' s.toks e1 e2 e3 (.itu hx h2 e4) e5) fun h' e1 e2=>P2 h' s.toks e1 e2)
 (Snd.st fun ad ht=>Snd.opt fun es hk=>iI ho one fun s Q E x ob a hx is g P1 P2=>by
  refine bZ is fun zy zy tx h1 h2 h3 e=>?_;clear is;obtain rfl:=soo (hx.symm.trans h1);obtain rfl:=(bo (cM e).1).2;have h2':=h2;rw[ht]at h2';obtain rfl:=Value.ref.inj h2';refine aI (a.c.O.tps _ _ hk) fun us n t1 t2=>?_;exact sT a.c.hh (h3 s.heap g) (us:=us.toList) ⟨_,a.Xs _ _ t1,rfl,n,by simp⟩ (t2 V) (fun v u h' o' e1 e2 e3 e4 e5=>P1 v u h' o' s.toks e1 e2 e3 (.itu hx h2 e4) e5) fun h' e1 e2=>P2 h' s.toks e1 e2)
theorem Ap {it k:Nat}{es:List AV}(ho:aa σ.os it=some (.itg es k)):Snd (nxG it es k σ) (NX d V fr σ it):=
 Snd.gd fun hb=>iI ho (fun l x hx hl=>by refine aR hl fun zy zy h1 zy hl'4=>?_;clear hl;obtain rfl:=hl'4;obtain rfl:=soo (hx.symm.trans h1);exact ⟨_,rfl⟩) fun s Q E x ob a hx is g P1 P2=>by
  refine aR is fun zy o h1 h2 e=>?_;clear is;obtain rfl:=soo (hx.symm.trans h1);obtain rfl:=(bo (cM e).1).2;refine cK h2.ex fun St Pz N hw z'4 hst hob hP=>?_;obtain rfl:=z'4;have W:=hw d.prog d.A a.c.hh;have st:=hst s.heap g;generalize hv:bp es k=x';induction x' using aF with
  |some v=>
   rw[br]at hv;refine W.item k s _ _ (List.getElem?_eq_some_iff.mp hv).1 st fun u h' tk hp st' hk'=>?_;refine aj (hP k u hp) fun a' e1 da=>?_;obtain rfl:=soo (hv.symm.trans e1);refine av (hob _ _ st') fun o' ho'=>?_;exact P1 v u h' o' tk (by rw[br];exact hv) da ho' (.itg hx ⟨St,Pz,_,hw,rfl,fun h hh=>W.frame _ _ _ st' fun b hb o e=>by rw[List.mem_singleton.mp hb]at e ⊢;rw[hh,<-ho',e],hob,hP⟩) fun b o hb e=>hk' b o (fun q=>hb (bg q)) e
  |none=>
   have hk:k=es.length:=Nat.le_antisymm (az hb) (by rw[br,List.getElem?_eq_none_iff]at hv;exact hv);refine W.done s _ _ (hk▸st) fun h' tk hk'=>P2 h' tk hv fun b o hb e=>hk' b o (fun q=>hb (bg q)) e
theorem Aq {it j k i:Nat}{b:Bool}{re:RE}(hj:aa σ.os j=some (.rit b re k i)):Snd (nxR it j b re k i σ) (NX d V fr σ it):=
 Snd.gd fun hb=>fun r σ' e s Q E x a hx P=>by
  obtain rfl:=aK hb;refine zG hj a hx (fun v' u h tk q1 q2 a'=>?_) fun h tk q1 a'=>?_
  ·rw[q1]at e;refine ay (roo e) fun z'0 z'1=>?_;obtain rfl:=z'0;obtain rfl:=z'1;exact P (some u) h tk q2 a'
  ·rw[q1]at e;refine ay (roo e) fun z'0 z'1=>?_;obtain rfl:=z'0;obtain rfl:=z'1;exact P none h tk trivial a'
theorem Ar {it j k i:Nat}{kvs:List (Str×AV)}(hj:aa σ.os j=some (.dit kvs k i)):Snd (nxD it j kvs k i σ) (NX d V fr σ it):=
 Snd.gd fun hb=>fun r σ' e s Q E x a hx P=>a.turn hj fun l hl g1 sw=>by
  obtain rfl:=aK hb;refine mX hl fun dx o us y oi ep h1 lo h3 h4 h5 h6 hl'12=>?_;clear hl;obtain rfl:=hl'12;obtain rfl:=soo (hx.symm.trans h5);have gd:=(g1 (dx,o) (.head _)).1;have gi:=(g1 (x,oi) (.tail _ (.head _))).1;have hne:dx≠x:=by
   rintro rfl
   have e2:o=oi:=soo (gd.symm.trans gi);have c1:=h6.1;refine aj (h3 d.prog) fun zy c2 zy=>?_;rw[<-e2,c2.1]at c1;injection c1 with c1
   exact absurd c1 (by decide)
  have hd:=(h3 d.prog).dictAt gd;have hi:=h6.at gi;generalize hv:bp kvs k=x';induction x' using aF with
  |some p=>
   rw[hv]at e;refine ay (roo e) fun z'0 z'1=>?_;obtain rfl:=z'0;obtain rfl:=z'1;refine aj (h4.nth hv) fun z'0 hq e2=>?_;obtain ⟨qk,qv⟩:=z'0;refine wpAny_pyNext_dict_item hi hd hq fun key h' hkey hit' hs'=>?_;refine av (Value.isStrOf_shape hkey) fun t z'1=>?_;obtain rfl:=z'1;refine cq hit' fun o' ho' r1 r2=>?_;clear hit';refine P _ h' s.toks (show Den V (.str p.1.cps.toList) (.str qk t) from ⟨t,by rw[eO,e2]⟩) (sw _ [(dx,o),(x,o')] h' _ (.dit h1 lo h3 h4 h5 ⟨r1,r2⟩) (fun p hp=>?_) (.refl _) fun b o hb e=>hs'.extBut b o (fun q=>hb (q▸.tail _ (.head _))) e);rcases aG hp with rfl|hp
   ·exact hs'.extBut _ _ hne gd
   ·obtain rfl:=bg hp;exact ho'
  |none=>
   rw[hv]at e;refine ay (roo e) fun z'0 z'1=>?_;obtain rfl:=z'0;obtain rfl:=z'1;have hz:=h4.length;rw[br,List.getElem?_eq_none_iff]at hv;refine wpAny_pyNext_dict_end a.c.hh hi hd (by rw[List.getElem?_eq_none_iff];lia) fun h' he'=>?_;refine P none h' s.toks trivial (sw _ [(dx,o)] h' _ (.dic h1 lo (fun prog'=>let ⟨es,r⟩:=h3 prog';⟨es,ep,r⟩) h4) (fun p hp=>?_) (by simp) fun b o hb e=>he' b o (fun q=>hb (q▸.tail _ (.head _))) e);obtain rfl:=bg hp;exact he' _ _ hne gd
theorem j3 {it:Nat}:Snd (nxA d.tb it σ) (NX d V fr σ it):=
 Snd.opt fun o ho=>by
  induction o using aN<;>first|exact Snd.no|skip
  ·exact An ho
  ·exact Ao ho
  ·exact Ap ho
  ·exact Snd.opt fun o hj=>by
    induction o using aN<;>first|exact Snd.no|exact Ar hj|exact Aq hj
end
end
section
set_option genInjectivity true
set_option genSizeOfSpec true
noncomputable def EA:AO->Bool
 |.itr _ _=>true
 |_=>false
noncomputable def EB:Expr->Option (List Expr)
 |.Tuple ts _ _=>some ts
 |_=>none
def tgF (tb:Tb) (ex:EX) (si:SI) (t:Expr) (it:Nat) (v:AV) (fr:AF) (σ:ST):R AF:=
 (gd (dg t) (tg1 tb ex si t v fr σ)).or (aE (EB t) fun ts=>aE (aa σ.os it) fun o=>gd (EA o) ((lO v σ).bind fun es σ₁=>tgL tb ex si ts es fr σ₁))
noncomputable def oN (q:AFl×AF)(σ:ST)(again:RS):RS:=match q.1 with
 |.next=>again
 |.cont=>again
 |.brk=>.ok (.next,q.2) σ
 |.ret r=>.ok (.ret r,q.2) σ
def lpT (tb:Tb) (ex:EX) (si:SI) (bl:BL) (t:Expr) (body:List Stmt) (it:Nat) (again:AF->ST->RS) (v:AV) (fr:AF) (σ:ST):RS:=(tgF tb ex si t it v fr σ).bind fun fr₂ σ₂=>(bl body fr₂ σ₂).bind fun q σ₃=>oN q σ₃ (again q.2 σ₃)
def lpS (tb:Tb) (ex:EX) (si:SI) (bl:BL) (t:Expr) (body:List Stmt) (it:Nat):Nat->AF->ST->RS
 |0,_,_=>.no
 |n+1,fr,σ=>(nxA tb it σ).bind fun r σ₁=>@Option.rec _ (fun zz=>RS) (.ok (.next,fr) σ₁) (fun v=>lpT tb ex si bl t body it (lpS tb ex si bl t body it n) v fr σ₁) r
def EC (tb:Tb) (ex:EX) (si:SI) (bl:BL) (t iter:Expr) (body:List Stmt) (fr:AF) (σ:ST):RS:=gd (dW iter) ((ex iter fr σ).bind fun v σ₁=>(itA tb v σ₁).bind fun it σ₂=>lpS tb ex si bl t body it 40 fr σ₂)
def whS (ts:TS) (bl:BL) (test:Expr) (body:List Stmt):Nat->AF->ST->RS
 |0,_,_=>.no
 |n+1,fr,σ=>(ts test fr σ).bind fun b σ₁=>itR b ((bl body fr σ₁).bind fun q σ₃=>oN q σ₃ (whS ts bl test body n q.2 σ₃)) (.ok (.next,fr) σ₁)
section
variable {d:Dx}{V W:Vl}{fr fr':AF}{σ σ':ST}{s:Shared}{E:Value->Shared->Prop}{β γ:Type}
theorem ec {r:R β}{k:β->ST->R γ}{c:γ}(h:r.bind k=.ok c σ'):∃a σ₁,r=.ok a σ₁/\k a σ₁=.ok c σ':=by
 induction r using R.casesOn with
 |ok a σ₁=>exact ⟨a,σ₁,rfl,h⟩
 |no=>exact cI h
theorem mq {again:RS}{q r:AFl×AF}{n:Nat}{I:Nat->Shared->Prop}{R':Flow->Shared->Prop}{l:Flow}(eq:oN q σ again=.ok r σ')(dl:DF q.1 W l)(a:At d W q.2 σ s)
  (P:∀l,DF r.1 W l->At d W r.2 σ' s->R' l s) (g:again=.ok r σ'->∃m,m < n/\I m s):match (generalizing:=false) l with
   |.next|.cont=>∃m,m < n/\I m s
   |.brk=>R' .next s
   |.ret v=>R' (.ret v) s:=by
 obtain ⟨fl,fr⟩:=q
 induction fl using AFl.casesOn with
 |next=>rw[show l=.next from dl.is];exact g eq
 |cont=>rw[show l=.cont from dl.is];exact g eq
 |brk=>
  rw[show l=.brk from dl.is];refine ay (roo eq) fun z'0 z'1=>?_;obtain rfl:=z'0;obtain rfl:=z'1;exact P .next trivial a
 |ret x=>
  refine aj dl.is fun u h1 h2=>?_;rw[h1];refine ay (roo eq) fun z'0 z'1=>?_;obtain rfl:=z'0;obtain rfl:=z'1;exact P (.ret u) h2 a
theorem dq {e:Expr}(h:dW e=true)(env:Env):∀x,foldedSetIterable e env x=pure x:=by
 intro x
 induction e using bc<;>first|rfl|exact ak h
theorem nD {t:Expr}{it u:Value}(h:dg t=true):letOwnedTupleGo t it u=pure ():=by
 induction t using bc<;>first|rfl|exact ak h
theorem As {it i k kk:Nat}{x:Addr}{u:Value}{ts:List Expr}{pp:Pos}{Q:Unit->Shared->Prop}(a:At d V fr σ s)(hx:V.ρ it=some x)(ho:aa σ.os it=some (.itr i k))(q:Q () s):wpAny d.M d.A (letOwnedTupleGo (.Tuple ts kk pp) (.ref x) u) Q E s:=a.has ho fun l hl g=>by
 refine bZ hl fun zy zy zy h1 h2 h3 hl'6=>?_;clear hl;obtain rfl:=hl'6;obtain rfl:=soo (hx.symm.trans h1);refine cq (h3 s.heap (g _ (.head _))) fun o q1 q2 q3=>?_;unfold letOwnedTupleGo
 induction u using Value.casesOn<;>first
  |exact au q
  |(refine af (wpAny_load q1 ?_);rw[q2,q3];exact au q)
set_option tactic.hygienic true in
theorem kJ {n:Nat}{ex:EX}{si:SI}(ie:EOk d.tb n ex)(is:eI d.tb si)(rm:Room d.A n){t:Expr}{it:Nat}{v:AV}{x:Addr}{u:Value}(hx:V.ρ it=some x)(du:Den V v u) :
  Snd (tgF d.tb ex si t it v fr σ) fun fr' σ'=>∀s (Q:Unit->Shared->Prop) E,At d V fr σ s->Po d V fr' σ' s DU Q->wpAny d.M d.A (letOwnedTupleGo t (.ref x) u) (fun zz s₁=>wpAny d.M d.A (assign t d.ev u) Q E s₁) E s:=
 Snd.or (Snd.gd fun hp fr' σ' e s Q E a P=>by
  rw[nD hp];exact au (gH ie is rm du fr' σ' e s Q E a P)) (Snd.opt fun ts ht=>Snd.opt fun o ho=>Snd.gd fun hi=>Snd.bind fun es σ₁ hs fr' σ' e s Q E a P=>by
  induction t using bc<;>first|exact ag ht|skip
  rename_i ts' kk pp;obtain rfl:=soo ht;have go:=rH (k:=kk) (pos:=pp) ie is rm hs du fr' σ' e s Q E a P
  induction o using aN<;>first|exact ak hi|skip
  exact As a hx ho go)
structure LpI (d:Dx) (V:Vl) (f:Nat->AF->ST->RS) (r:AFl×AF) (σ':ST) (s:Shared) (k:Nat) (s':Shared):Prop where
 ex:∃W fr σ h tk,s'=Shared.to s h tk/\V.le W/\At d W fr σ s'/\f k fr σ=.ok r σ'
theorem Au {n:Nat}{ex:EX}{si:SI}{bl:BL}(ie:EOk d.tb n ex)(is:eI d.tb si)(ib:BOk d.tb n bl)(rm:Room d.A n){t:Expr}{body:List Stmt}{it:Nat}{again:AF->ST->RS}{v:AV}{u:Value}{x:Addr}(hx:V.ρ it=some x)(du:Den V v u) :
  Snd (lpT d.tb ex si bl t body it again v fr σ) fun r σ'=>∀s (Qf:Flow->Shared->Prop) E,At d V fr σ s->(∀l q σ₃ h tk W,V.le W->oN q σ₃ (again q.2 σ₃)=.ok r σ'->DF q.1 W l->At d W q.2 σ₃ (Shared.to s h tk)->Qf l (Shared.to s h tk))->
   wpAny d.M d.A (letOwnedTupleGo t (.ref x) u) (fun zz s₁=>wpAny d.M d.A (assign t d.ev u) (fun zz s₂=>wpAny d.M d.A (execs body d.ev) Qf E s₂) E s₁) E s:=
 Snd.bind fun fr₄ σ₄ h4=>Snd.bind fun q σ₅ h5=>fun r σ' e s Qf E a P=>kJ ie is rm hx du fr₄ σ₄ h4 _ _ _ a fun zz h₄ tk₄ W₄ le₄ zz at₄=>ib h5 rfl rm _ _ _ at₄ fun l h₅ tk₅ W₅ le₅ dl at₅=>P l q σ₅ h₅ tk₅ W₅ (le₄.trans le₅) e dl at₅
theorem LpI.k {f:Nat->AF->ST->RS}{r:AFl×AF}{k:Nat}{s':Shared}(I:LpI d V f r σ' s k s'){G:Shared->Prop}(g:∀W fr σ h tk,V.le W->At d W fr σ (Shared.to s h tk)->f k fr σ=.ok r σ'->G (Shared.to s h tk)):G s':=by
 refine vm I.ex fun W fr σ h tk z'5 le a e=>?_;obtain rfl:=z'5;exact g W fr σ h tk le a e
theorem nF {r:R β}{k:β->ST->R γ}{c:γ}(h:r.bind k=.ok c σ'){G:Prop}(g:∀a σ₁,r=.ok a σ₁->k a σ₁=.ok c σ'->G):G:=let ⟨a,σ₁,h1,h2⟩:=ec h;g a σ₁ h1 h2
theorem NX.k {it:Nat}{r:Option AV}(H:NX d V fr σ it r σ'){Q:Option Value->Shared->Prop}{x:Addr}(a:At d V fr σ s)(hx:V.ρ it=some x)(k0:r=none->∀h tk,At d V fr σ' (Shared.to s h tk)->Q none (Shared.to s h tk))
  (k1:∀v,r=some v->∀u h tk,Den V v u->At d V fr σ' (Shared.to s h tk)->Q (some u) (Shared.to s h tk)):wpAny d.M d.A (pyNext (.ref x)) Q E s:=H s Q E x a hx fun ou h tk hn a'=>by
 induction r using aF<;>induction ou using aF<;>first|exact hn.elim|exact k0 rfl h tk a'|exact k1 _ rfl _ h tk hn a'
theorem Av {n:Nat}{ex:EX}{si:SI}{bl:BL}(ie:EOk d.tb n ex)(is:eI d.tb si)(ib:BOk d.tb n bl)(rm:Room d.A n){t iter:Expr}{body:List Stmt}{pos:Pos} :
  Snd (EC d.tb ex si bl t iter body fr σ) fun r σ'=>Tr d V fr σ (exec (.For t iter body [] pos) d.ev) r.2 σ' (DF r.1):=
 Snd.gd fun hns=>Snd.bind fun v σ₁ h1=>Snd.bind fun it σ₂ h2=>fun r σ' e s Q E a P=>
  wpAny_For (ie h1 rfl rm _ _ _ a fun u h tk W le du a₁=>oM du it σ₂ h2 _ _ _ a₁ fun ui h' tk' W' le' di a₂=>by
   refine aj di fun x hx di'2=>?_;clear di;obtain rfl:=di'2;refine codeAny_forLoop_any (LpI d W' (lpS d.tb ex si bl t body it) r σ' s) (fun k s' hI=>?_) 40 ⟨W',fr,σ₂,_,_,rfl,.refl _,a₂,e⟩;refine hI.k fun V' fr₁ σ₁ h₁ tk₁ le₁ at₁ eq=>?_;cases k with
   |zero=>exact cI eq
   |succ k=>
    refine nF eq fun o σ₃ h3 eq=>NX.k (j3 o σ₃ h3) at₁ (le₁.ρ _ _ hx) (fun e h₂ tk₂ at₂=>?_) fun v e u' h₂ tk₂ hn at₂=>?_
    ·rw[e]at eq;refine ay (roo eq) fun z'0 z'1=>?_;obtain rfl:=z'0;obtain rfl:=z'1;exact wpAny_execs_nil (P .next h₂ tk₂ V' ((le.trans le').trans le₁) trivial at₂)
    ·rw[e]at eq;exact Au ie is ib rm (le₁.ρ _ _ hx) hn r σ' eq _ _ _ at₂ fun l q σ₅ h₅ tk₅ W₅ le₅ eq dl at₅=>
      mq (R':=fun f s'=>(match (Except.ok f:Result) with|.ok f=>Q f s'|.error e=>cameBackBy d.M d.A d.ev E e s')) eq dl at₅ (fun l q a=>P l h₅ tk₅ W₅ (((le.trans le').trans le₁).trans le₅) q a)
       fun eq=>⟨k,Nat.lt_succ_self _,⟨W₅,_,_,_,_,rfl,le₁.trans le₅,at₅,eq⟩⟩) (dq hns _)
theorem ED {n:Nat}{ts:TS}{bl:BL}(it:TOk d.tb n ts)(ib:BOk d.tb n bl)(rm:Room d.A n){test:Expr}{body:List Stmt}{pos:Pos} :
  Snd (whS ts bl test body 40 fr σ) fun r σ'=>Tr d V fr σ (exec (.While test body [] pos) d.ev) r.2 σ' (DF r.1):=fun r σ' e s Q E a P=>by
 refine wpAny_While (codeAny_whileLoop (LpI d V (whS ts bl test body) r σ' s) (fun k s' hI=>?_) 40 ⟨V,fr,σ,_,_,rfl,.refl _,a,e⟩);refine hI.k fun V' fr₁ σ₁ h₁ tk₁ le₁ at₁ eq=>?_;cases k with
 |zero=>exact cI eq
 |succ k=>
  refine nF eq fun b σ₃ h3 eq=>it h3 rfl rm _ _ _ at₁ fun u h₂ tk₂ W₂ le₂ hu at₂=>?_;obtain rfl:=hu
  induction u using aH with
  |false=>
   refine ay (roo eq) fun z'0 z'1=>?_;obtain rfl:=z'0;obtain rfl:=z'1;exact wpAny_execs_nil (P .next h₂ tk₂ W₂ (le₁.trans le₂) trivial at₂)
  |true=>
   rw[if_pos rfl];refine aI (ec eq) fun q σ₅ h5 eq=>?_;exact ib h5 rfl rm _ _ _ at₂ fun l h₅ tk₅ W₅ le₅ dl at₅=>
    mq (R':=fun f s'=>(match (Except.ok f:Result) with|.ok f=>Q f s'|.error e=>cameBackBy d.M d.A d.ev E e s')) eq dl at₅ (fun l q a=>P l h₅ tk₅ W₅ ((le₁.trans le₂).trans le₅) q a)
     fun eq=>⟨k,Nat.lt_succ_self _,⟨W₅,_,_,_,_,rfl,(le₁.trans le₂).trans le₅,at₅,eq⟩⟩
end
end
noncomputable def gM:NameKind->Bool
 |.free=>true
 |_=>false
noncomputable def gh:NameKind->Bool
 |.cell=>true
 |_=>false
noncomputable def gj:NameKind->Bool
 |.local=>true
 |_=>false
theorem j4 (k:NameKind):(k==.free)=gM k:=by induction k using NameKind.casesOn<;>rfl
def EE (sc:Scope):List (Str×NameKind)->List (Str×NameKind)
 |[]=>[]
 |p::r=>@Bool.rec (fun zz=>Str×NameKind) p (p.1,.cell) (gM p.2&&iV sc.names p.1)::EE sc r
def kK (scope sc:Scope):Scope:={ scope with names:=EE sc scope.names }
theorem sU {sc:Scope}{x:Str}:(sc.names.lookup x==some .cell)=iV sc.names x:=by
 unfold iV;rw[aQ];cases sc.names.lookup x with
 |none=>rfl
 |some k=>induction k using NameKind.casesOn<;>rfl
theorem wx {scope:Scope}{env:Env}(hk:env.scope.kind=.function):kK scope env.scope=relabel scope env:=by
 unfold kK relabel;congr 1;have hkk:(env.scope.kind==.function)=true:=by rw[hk];rfl
 induction scope.names with
 |nil=>rfl
 |cons p r ih=>
  obtain ⟨n,k⟩:=p;show _::_=_::_;rw[ih];congr 1;have e:(env.kindOf n==some .cell)=iV env.scope.names n:=sU;dsimp only;rw[hkk,e,j4,Bool.and_true];cases gM k<;>cases iV env.scope.names n<;>rfl
def qr (cel:List (Str×Nat)):List (Str×NameKind)->List (Str×Nat)->Option (List (Str×Nat))
 |[],acc=>some acc
 |p::r,acc=>@Bool.rec (fun zz=>Option (List (Str×Nat))) (qr cel r acc) (bO (aw cel p.1) fun i=>qr cel r ((p.1,i)::acc)) (gM p.2)
def Aw (all:List (Str×NameKind)):List (Str×NameKind)->Bool
 |[]=>true
 |p::r=>(!gh p.2&&(!gj p.2||fF all p.1))&&Aw all r
theorem oO {all:List (Str×NameKind)}:∀{l:List (Str×NameKind)},Aw all l=true->∀x∈l,x.2≠.cell/\(x.2=.local->all.lookup x.1=some .local)
 |p::r=>fun e x h=>by
  have e1:=an1 e;have e2:=an2 e;rcases aG h with rfl|h
  ·have h1:=an1 e1;have h3:=an2 e1;refine ⟨fun q=>?_,fun q=>?_⟩
   ·rw[q]at h1;exact ak h1
   ·rw[q]at h3;rw[<-aQ];exact eY h3
  ·exact oO e2 x h
 |[]=>fun zz zz h=>nomatch h
noncomputable def fnS (sc:Scope):Bool:=match sc.kind with
 |.function=>true
 |_=>false
theorem sV {sc:Scope}(h:fnS sc=true):sc.kind=.function:=by
 unfold fnS at h
 split at h
 ·assumption
 ·exact ak h
noncomputable def EF (ts:TS)(l:List Expr)(fr:AF)(σ:ST):R Bool:=match l with
 |[]=>.ok true σ
 |c::r=>match r with|[]=>ts c fr σ|_::_=>.no
def apA (acc:Nat) (x:AV) (σ:ST):R AV:=bz (.obj acc) σ fun i es=>mcL 0 i es [x] σ
structure hZ where
 elt:Expr
 t:Expr
 iter:Expr
 ifs:List Expr
 scope:Scope
def HX:List Comprehension->Option Comprehension
 |[]=>none
 |g::r=>match r with|[]=>gdO (Z.eqB g.is_async 0) g|_::_=>none
def sW:Expr->Option hZ
 |.ListComp elt gens scope _=>bO (HX gens) fun g=>some ⟨elt,g.target,g.iter,g.ifs,scope⟩
 |_=>none
def lpX (tb:Tb) (ex:EX) (ts:TS) (si:SI) (c:hZ) (it acc:Nat) (again:AF->ST->R Unit) (v:AV) (fr:AF) (σ:ST):R Unit:=(tgF tb ex si c.t it v fr σ).bind fun fr₂ σ₂=>(EF ts c.ifs fr₂ σ₂).bind fun b σ₃=>
 itR b ((ex c.elt fr₂ σ₃).bind fun x σ₄=>(apA acc x σ₄).bind fun zz σ₅=>again fr₂ σ₅) (again fr₂ σ₃)
def lpC (tb:Tb) (ex:EX) (ts:TS) (si:SI) (c:hZ) (it acc:Nat):Nat->AF->ST->R Unit
 |0,_,_=>.no
 |n+1,fr,σ=>(nxA tb it σ).bind fun r σ₁=>@Option.rec _ (fun zz=>R Unit) (.ok () σ₁) (fun v=>lpX tb ex ts si c it acc (lpC tb ex ts si c it acc n) v fr σ₁) r
def yx (c:hZ) (cel:List (Str×Nat)) (fr:AF) (i:Nat):AF:=⟨kK c.scope fr.sc,fr.loc,cel,some i,none⟩
def wz (tb:Tb) (ex:EX) (ts:TS) (si:SI) (e:Expr) (fr:AF) (σ:ST):R (Nat×Nat):=aE (sW e) fun c=>gd ((dW c.iter&&fnS c.scope)&&Aw c.scope.names c.scope.names) (mdR fr.md (aE (qr fr.cel c.scope.names []) fun cel=>
 (ex c.iter fr σ).bind fun v σ₁=>(itA tb v σ₁).bind fun it σ₂=>(lpC tb ex ts si c it σ₂.nx 40 (yx c cel fr (σ₂.nx+1)) (ey (.nsp []) (ey (.lst []) σ₂))).bind fun zz σ₃=>.ok (σ₂.nx,σ₂.nx+1) σ₃) fun zz=>.no)
def oP (i:Nat) (σ:ST):R Unit:=lI i σ fun zz=>.ok () (upO i .gone σ)
def EG (tb:Tb) (ex:EX) (ts:TS) (si:SI) (e:Expr) (fr:AF) (σ:ST):R AV:=(wz tb ex ts si e fr σ).bind fun p σ₁=>(oP p.2 σ₁).bind fun zz σ₂=>.ok (.obj p.1) σ₂
section
variable {d:Dx}{V W:Vl}{fr fr':AF}{σ σ':ST}{s:Shared}{E:Value->Shared->Prop}{β γ:Type}
theorem kL {cel:List (Str×Nat)}{env:Env}(hc:∀x i,aw cel x=some i->∃c,V.ρ i=some c/\env.cells.lookup x=some c):∀{names:List (Str×NameKind)} {acc r:List (Str×Nat)} {acc':List (Str×Addr)},qr cel names acc=some r->Cz V acc acc'->
  ∃cl,Cz V r cl/\(forIn names acc' (fun (x:Str×NameKind) (cs:List (Str×Addr))=>match x with
   |(name,kind)=>if (kind==.free)=true then do let a <-cellOf env name;pure (ForInStep.yield ((name,a)::cs)) else pure (ForInStep.yield cs)):Sem _)=pure cl
 |[],acc,r,acc'=>fun e h=>by obtain rfl:=soo e;exact ⟨acc',h,rfl⟩
 |(n,k)::rest,acc,r,acc'=>fun e h=>by
  change @Bool.rec (fun zz=>Option (List (Str×Nat))) _ _ (gM k)=_ at e;rw[List.forIn_cons];simp only;rw[j4];generalize hf:gM k=x';induction x' using aH with
  |true=>
   rw[hf]at e;refine aj (bL e) fun i hi e=>?_;refine aj (hc _ _ hi) fun c h1 h2=>?_;refine aj (kL hc (acc':=(n,c)::acc') e ⟨rfl,h1,h⟩) fun cl q1 q2=>?_;refine ⟨cl,q1,?_⟩;rw[if_pos rfl,show cellOf env n=pure c by unfold cellOf;rw[h2]];simp only[pure_bind];exact q2
  |false=>
   rw[hf]at e;refine aj (kL hc (acc':=acc') e h) fun cl q1 q2=>?_;refine ⟨cl,q1,?_⟩;rw[if_neg Bool.false_ne_true];simp only[pure_bind];exact q2
theorem oQ {cel r:List (Str×Nat)}{env:Env}{scope:Scope}(hc:∀x i,aw cel x=some i->∃c,V.ρ i=some c/\env.cells.lookup x=some c)(e:qr cel scope.names []=some r):∃cl,Cz V r cl/\closureFor scope env=pure cl:=by
 refine aj (kL hc (acc':=[]) e trivial) fun cl q1 q2=>?_;refine ⟨cl,q1,?_⟩;unfold closureFor;refine (congrArg (· >>= pure) ?_).trans (bind_pure _) |>.trans q2
 rfl
theorem Ax {x:Str}{v:AV}{i:Nat}(h:fr.md=some i):Snd (stN x v fr σ) fun fr' zz=>fr'=fr:=
 Snd.md (fun e=>ag (e.symm.trans h)) fun i zz=>Snd.gd fun zz=>Snd.nsp fun fs zz=>Snd.ok rfl
theorem sY {tb:Tb}{ex:EX}{si:SI}{t:Expr}{v:AV}{i:Nat}(h:fr.md=some i):Snd (tg1 tb ex si t v fr σ) fun fr' zz=>fr'=fr:=by
 induction t using bc<;>first
  |exact Snd.no
  |exact Ax h
  |exact Snd.bind fun zz zz zz=>Snd.bind fun zz zz zz=>Snd.ok rfl
  |exact Snd.bind fun zz zz zz=>Snd.bind fun zz zz zz=>Snd.bind fun zz zz zz=>Snd.ok rfl
theorem Ay {tb:Tb}{ex:EX}{si:SI}{i:Nat}(h:fr.md=some i){ts:List Expr}:∀{vs:List AV} {σ:ST},Snd (tgL tb ex si ts vs fr σ) fun fr' zz=>fr'=fr:=by
 induction ts with
 |nil=>intro vs σ;induction vs using aV<;>first|exact Snd.ok rfl|exact Snd.no
 |cons t ts ih=>
  intro vs σ
  induction vs using aV with
  |nil=>exact Snd.no
  |cons v vs=>exact Snd.gd fun zz=>Snd.bind fun fr₁ σ₁ h1=>by rw[sY h fr₁ σ₁ h1];exact ih
theorem Az {tb:Tb}{ex:EX}{si:SI}{t:Expr}{it:Nat}{v:AV}{i:Nat}(h:fr.md=some i):Snd (tgF tb ex si t it v fr σ) fun fr' zz=>fr'=fr:=
 Snd.or (Snd.gd fun zz=>sY h) (Snd.opt fun zz zz=>Snd.opt fun zz zz=>Snd.gd fun zz=>Snd.bind fun zz zz zz=>Ay h)
theorem WkOk.self {x:Addr}{o:Obj}{es:List AV}{k:Nat}{w:World}(hh:d.A.handled=none)(h:WkOk d.w V x o es k)(hg:s.heap.get? x=some o){Q:Value->Shared->Prop}(q:Q (.ref x) s):wpAny d.M d.A (pyIter (.ref x)) Q E s:=by
 refine bZ h.ex fun St Pz N' hw zy hst zy=>?_;exact (hw d.prog d.A hh).self _ s _ _ (hst _ hg) q
theorem wA {it:Nat}:Snd (nxA d.tb it σ) fun zz zz=>∀s (Q:Value->Shared->Prop) E x,At d V fr σ s->V.ρ it=some x->Q (.ref x) s->wpAny d.M d.A (pyIter (.ref x)) Q E s:=
 Snd.opt fun o ho=>by
  induction o using aN<;>first|exact Snd.no|skip
  ·refine fun zz zz zz s Q E x a hx q=>a.has ho fun l hl g=>?_;refine bZ hl fun zy zy zy h1 h2 h3 hl'6=>?_;clear hl;obtain rfl:=hl'6;obtain rfl:=soo (hx.symm.trans h1);exact wpAny_pyIter_listiter (h3 _ (g _ (.head _))) q
  ·refine fun zz zz zz s Q E x a hx q=>a.has ho fun l hl g=>?_;refine bZ hl fun zy zy zy h1 h2 h3 hl'6=>?_;clear hl;obtain rfl:=hl'6;obtain rfl:=soo (hx.symm.trans h1);exact wpAny_pyIter_tupleiter (h3 _ (g _ (.head _))) q
  ·refine fun zz zz zz s Q E x a hx q=>a.has ho fun l hl g=>?_;refine aR hl fun zy zy h1 h2 hl'4=>?_;clear hl;obtain rfl:=hl'4;obtain rfl:=soo (hx.symm.trans h1);exact h2.self (w:=d.w) a.c.hh (g _ (.head _)) q
  ·refine Snd.opt fun o hj=>?_
   induction o using aN<;>first|exact Snd.no|skip
   ·refine Snd.gd fun hb=>fun zz zz zz s Q E x a hx q=>a.has hj fun l hl g=>?_;obtain rfl:=aK hb;refine mX hl fun zy zy zy zy zy zy h1 lo h3 h4 h5 h6 hl'12=>?_;clear hl;obtain rfl:=hl'12;obtain rfl:=soo (hx.symm.trans h5);exact wpAny_pyIter_keyiter (h6.at (g _ (.tail _ (.head _)))) q
   ·refine Snd.gd fun hb=>fun zz zz zz s Q E x a hx q=>?_;obtain rfl:=aK hb;exact sf hj a hx q
theorem AA {tb:Tb}{ex:EX}{ts:TS}{si:SI}{c:hZ}{it acc n:Nat}(e:lpC tb ex ts si c it acc n fr σ=.ok () σ'):∃r σ₁,nxA tb it σ=.ok r σ₁:=by
 cases n with
 |zero=>exact cI e
 |succ n=>refine aI (ec e) fun r σ₁ h zy=>?_;exact ⟨r,σ₁,h⟩
theorem wC {n:Nat}{ts:TS}(it:TOk d.tb n ts)(rm:Room d.A n){ifs:List Expr}:Snd (EF ts ifs fr σ) fun b σ'=>
  Tr d V fr σ (forIn ifs true fun c r=>if r=true then do let ok <-isTrue c d.ev (eval c d.ev);pure (ForInStep.yield ok) else pure (ForInStep.yield r)) fr σ' (DB b):=
 match ifs with
 |[]=>Snd.ok fun s Q E a P=>wpAny_tests_nil (P.here a rfl)
 |[c]=>fun b σ' e s Q E a P=>wpAny_tests_one (it e rfl rm s Q E a P)
 |_::_::_=>Snd.no
theorem AB {acc:Nat}{x:AV}{D:Addr}{u:Value}(hD:V.ρ acc=some D)(du:Den V x u):Snd (apA acc x σ) (TE d V fr σ (call (.builtin "list.append") [.ref D,u])):=
 Snd.lst fun i es hi ho=>sK (ur:=[u]) hi ho ⟨D,hD,rfl⟩ ⟨du,trivial⟩
theorem AC {n:Nat}{ex:EX}{ts:TS}{si:SI}(ie:EOk d.tb n ex)(itt:TOk d.tb n ts)(is:eI d.tb si)(rm:Room d.A n){c:hZ}{it acc i:Nat}{again:AF->ST->R Unit}{v:AV}{u:Value}{x D:Addr}{tl:Sem Fin}(hmd:fr.md=some i)(hx:V.ρ it=some x)(hD:V.ρ acc=some D)(du:Den V v u) :
  Snd (lpX d.tb ex ts si c it acc again v fr σ) fun r σ'=>∀s Q E,At d V fr σ s->(∀σ₅ h tk W,V.le W->again fr σ₅=.ok r σ'->At d W fr σ₅ (Shared.to s h tk)->wpAny d.M d.A tl Q E (Shared.to s h tk))->
   wpAny d.M d.A (do
    letOwnedTupleGo c.t (.ref x) u
    assign c.t d.ev u
    let mut ok:=true
    for c in c.ifs do
     if ok then ok <-isTrue c d.ev (eval c d.ev)
    if ok then
     (do let _ <-call (.builtin "list.append") [.ref D,<-eval c.elt d.ev])
    tl) Q E s:=
 Snd.bind fun fr₄ σ₄ h4=>Snd.bind fun b σ₅ h5=>fun r σ' e s Q E a P=>by
  obtain rfl:=Az hmd fr₄ σ₄ h4;refine af (wpAny_mono (kJ ie is rm hx du fr₄ σ₄ h4 _ (fun zz s₃=>wpAny d.M d.A (do
    let mut ok:=true
    for c in c.ifs do
     if ok then ok <-isTrue c d.ev (eval c d.ev)
    if ok then
     (do let _ <-call (.builtin "list.append") [.ref D,<-eval c.elt d.ev])
    tl) Q E s₃) _ a fun zz h₄ tk₄ W₄ le₄ zz at₄=>?_) (fun zz s₂ h=>af h) fun zz zz h=>h)
  refine af (wC itt rm b σ₅ h5 _ _ _ at₄ fun b' h₆ tk₆ W₆ le₆ hb at₆=>?_);obtain rfl:=hb;have le6:=le₄.trans le₆;dsimp only
  induction b' using aH with
  |true=>
   rw[if_pos rfl];refine aI (ec e) fun xv σ₆ h6 e6=>?_;refine aI (ec e6) fun zy σ₇ h7 e7=>?_;exact af (af (ie h6 rfl rm _ _ _ at₆ fun u₇ h₇ tk₇ W₇ le₇ d₇ at₇=>af (AB ((le6.trans le₇).ρ _ _ hD) d₇ _ _ h7 _ _ _ at₇ fun u₈ h₈ tk₈ W₈ le₈ d₈ at₈=>au (P _ _ _ _ ((le6.trans le₇).trans le₈) e7 at₈))))
  |false=>
   rw[if_neg Bool.false_ne_true];exact P _ _ _ _ le6 e at₆
theorem AD {n:Nat}{ex:EX}{ts:TS}{si:SI}(ie:EOk d.tb n ex)(itt:TOk d.tb n ts)(is:eI d.tb si)(rm:Room d.A n){c:hZ}{it acc k i:Nat}{pos:Pos}{x D:Addr}{R':Result->Shared->Prop}
  (e:lpC d.tb ex ts si c it acc k fr σ=.ok () σ') (hmd:fr.md=some i) (a:At d V fr σ s) (hx:V.ρ it=some x) (hD:V.ρ acc=some D)
  (P:Po d V fr σ' s DU fun (_:Unit)=>R' (.ok .next)):codeAny d.M d.A (.compLoop (.ListComp c.elt [⟨c.t,c.iter,c.ifs,0⟩] c.scope pos) 0 (.ref x) (.ref D) d.ev) R' s:=by
 refine codeAny_loop rfl (fun k s'=>∃V' σ₁ h₁ tk₁,s'=Shared.to s h₁ tk₁/\V.le V'/\At d V' fr σ₁ s'/\lpC d.tb ex ts si c it acc k fr σ₁=.ok () σ') (fun k s' hI=>?_) k ⟨V,σ,_,_,rfl,.refl _,a,e⟩;refine iS hI fun V' σ₁ h₁ tk₁ hI'4 le₁ at₁ eq=>?_;clear hI;obtain rfl:=hI'4;show wpAny _ d.A ((compTurn (.ListComp c.elt [⟨c.t,c.iter,c.ifs,0⟩] c.scope pos) 0 (.ref x) (.ref D) d.ev).onRaise (fun x=>do noteFrame x d.ev;theTreesLotGoes x)) _ _ _;refine wpAny_noted ?_;rw[compTurn_list];cases k with
 |zero=>exact cI eq
 |succ k=>
  refine nF eq fun o σ₃ h3 eq=>af (wpAny_standAt (af (NX.k (j3 o σ₃ h3) at₁ (le₁.ρ _ _ hx) (fun e h₂ tk₂ at₂=>?_) fun v e u' h₂ tk₂ hn at₂=>?_)))
  ·rw[e]at eq;refine ay (roo eq) fun zy z'1=>?_;obtain rfl:=z'1;exact au (P () h₂ tk₂ V' le₁ trivial at₂)
  ·rw[e]at eq;exact AC ie itt is rm hmd (le₁.ρ _ _ hx) (le₁.ρ _ _ hD) hn () σ' eq _ _ _ at₂ fun σ₅ h tk W le e a=>au ⟨rfl,k,Nat.lt_succ_self _,W,σ₅,_,_,rfl,le₁.trans le,a,e⟩
theorem mt {h:Heap}{C:Addr}{m:Str->Option Value}(hn:h.Ns C m):∃o,h.get? C=some o/\∀h':Heap,h'.get? C=some o->h'.Ns C m:=by
 refine mV hn fun o es ep ho r=>?_;clear hn;exact ⟨o,ho,fun h' hh=>⟨o,es,ep,hh,r⟩⟩
theorem At.newE {h':Heap}{tk:Nat}{D:Addr}{o:Obj}{ao:AO}{m:Str->Option Value}{news:L2}(a:At d V fr σ s)(x:Sx d V fr σ.os s.heap m news)
  (F':Fr d.h₀ d.f.L h' m) (N':News d.h₀ d.f.L h' ((D,o)::news)) (lt:∀q∈news,q.1≠D) (is:∀W,V.le W->W.ρ σ.nx=some D->Is d.w W d.tb.flds σ.nx ao [(D,o)]):∃W,V.le W/\W.ρ σ.nx=some D/\At d W fr (ey ao σ) (Shared.to s h' tk):=
 Po.new (Q:=fun u s'=>∃W,V.le W/\(∃D',W.ρ σ.nx=some D'/\u=.ref D')/\At d W fr (ey ao σ) s') (tk:=tk) (fun u h tk W le du a=>⟨W,le,du,a⟩) a x F' N' lt is |>.elim fun W q=>by
  refine bU q fun le q'1 a'=>?_;clear q;refine aj q'1 fun D' h1 h2=>?_;clear q'1;obtain rfl:=Value.ref.inj h2;exact ⟨W,le,h1,a'⟩
set_option tactic.hygienic true in
theorem j5 {e:Expr}{c:hZ}(h:sW e=some c):∃pos,e=.ListComp c.elt [⟨c.t,c.iter,c.ifs,0⟩] c.scope pos:=by
 induction e using bc<;>first|exact ag h|skip
 rename_i elt gens scope pos;refine aj (bL h) fun g hg e=>?_;obtain rfl:=soo e
 match gens,hg with
 |[],hg|_::_::_,hg=>exact ag hg
 |[⟨t,iter,ifs,k⟩],hg=>
  refine ay (ci hg) fun hk z'1=>?_;obtain rfl:=z'1;have hk:k=0:=beq_iff_eq.mp ((iE _ _).trans hk);subst hk;exact ⟨pos,rfl⟩
noncomputable def Dx.at (d:Dx)(scope:Scope)(C:Addr)(cl:List (Str×Addr)):Dx:={ d with f:={ d.f with cm:=some (scope,C,cl) } }
theorem kM {n:Nat}{ex:EX}{ts:TS}{si:SI}(ie:EOk d.tb n ex)(itt:TOk d.tb n ts)(is:eI d.tb si)(rm:Room d.A n){elt:Expr}{gens:List Comprehension}{scope:Scope}{pos pos':Pos}{use:Option (Value->Sem Unit)} :
  Snd (wz d.tb ex ts si (.ListComp elt gens scope pos) fr σ) fun r σ'=>∀s Q E,At d V fr σ s->(∀h tk W D cC,V.le W->W.ρ r.1=some D->W.ρ r.2=some cC->At d W fr σ' (Shared.to s h tk)->compPost d.M d.A E use Q (.ref D) cC (.ok .next) (Shared.to s h tk))->
   wpAny d.M d.A (comprehension (.ListComp elt gens scope pos) scope d.ev pos' (newList []) (firstAsync gens) (firstIter gens d.ev) use) Q E s:=
 Snd.opt fun c hc=>Snd.gd fun hg=>Snd.md (fun hmd=>Snd.opt fun cel hcel=>Snd.bind fun v σ₁ h1=>Snd.bind fun it σ₂ h2=>Snd.bind fun zz σ₃ h3=>Snd.ok fun s Q E a P=>by
  have hnm:=an2 hg;have hg:=an1 hg;have hns:=an1 hg;have hfn:=an2 hg;have hkind:=sV hfn;have nm:=oO hnm;refine av (j5 hc) fun ps hce=>?_;injection hce with e1 e2 e3 e4
  subst e1 e2 e3 e4;have hev:=Fx.ev_none a.l.md hmd;refine aj (oQ a.l.cel hcel) fun cl hcz hclos=>?_;show wpAny d.M d.A (comprehension _ c.scope d.ev pos' (newList []) false (eval c.iter d.ev) use) Q E s;refine wpAny_comprehension_free (g:=⟨c.t,c.iter,c.ifs,0⟩) (gs:=[]) rfl (dq hns _) hclos hkind (fun x hx hl=>(nm x hx).2 hl) (ie h1 rfl rm _ _ _ a fun u h tk W le du a₁=>oM du it σ₂ h2 _ _ _ a₁ fun ui h' tk' W' le' di a₂=>?_);refine aj di fun x hx di'2=>?_;clear di;obtain rfl:=di'2;refine a₂.stK fun m news X=>newList_K X.F X.N (fun D h₁ F₁ N₁ lt₁=>?_) (bD _);refine cq (a₂.newE (tk:=tk') X F₁ N₁ (fun q hq=>bJ (lt₁ q hq)) (ao:=.lst []) fun W zz hW=>.lst hW trivial) fun W3 le3 hD a₃=>?_;refine wpAny_newFunctionEnv (fun x hx=>(nm x hx).1) (fun x hx=>nomatch hx) (fun h₂ hns₂ hsb₂=>?_) hkind;refine a₃.stK fun m' news' X'=>?_;refine aj (mt hns₂) fun o' ho' hnsAll=>?_;have off':=cR X'.N;have N1:=News.push X'.F X'.N { cls:=.type (if (some d.ev).isSome=true then "dict" else "frame"),data:=.dict #[] };refine cq (a₃.newE (tk:=tk') (ao:=.nsp []) X' ((X'.F.push _).change hsb₂ (N1 _ (.head _)).2.1 (N1.fresh (.head _))) (N1.setHead off' hsb₂ ho') off' fun W zz hW=>.nsp hW hnsAll fun y v e=>ag e) fun W4 le4 hC a₄=>?_;have le':=(le.trans le').trans (le3.trans le4);have hrel:kK c.scope fr.sc=relabel c.scope d.ev:=by rw[a.l.sc];exact wx a.c.hk
  have hev':(d.at (kK c.scope fr.sc) h₁.objs.size cl).ev={ newEnv c.scope h₁.objs.size d.ev.globals cl d.ev.qual none .none (some d.ev) mainGlobals with scope:=relabel c.scope d.ev }:=by
   show ({ scope:=kK c.scope fr.sc,locals:=_,globals:=mainGlobals,cells:=cl,qual:=_,func:=none,code:=d.f.ccd,frame:=some d.f.L,builtins:=builtinsNs }:Env)=_;rw[hrel];rw[show d.ev=d.f.env from hev];rfl
  have a₅:At (d.at (kK c.scope fr.sc) h₁.objs.size cl) W4 (yx c cel fr (σ₂.nx+1)) (ey (.nsp []) (ey (.lst []) σ₂)) (Shared.to s h₂ tk'):=
   a₄.stK fun m'' news'' X''=>⟨⟨a₄.c.O,a₄.c.B,a₄.c.hA,a₄.c.hh,a₄.c.hg,hkind,a₄.c.hf,a₄.c.T,a₄.c.X⟩,⟨hC,trivial,rfl,fun x i hx=>(hcz.mono le').look x hx⟩,a₄.v,m'',news'',⟨X''.F,X''.N,X''.D,X''.nd,X''.lc⟩⟩
  have hx5:=le4.ρ _ _ (le3.ρ _ _ hx);have fin:=AD (d:=d.at (kK c.scope fr.sc) h₁.objs.size cl) (pos:=pos) (R':=compPost d.M d.A E use Q (.ref D) h₁.objs.size) ie itt is rm h3 rfl a₅ hx5 (le4.ρ _ _ hD) fun zz h₆ tk₆ W₆ le₆ zz a₆=>?_
  ·rw[hev']at fin;refine codeAny_compStart_list fin ?_;refine dP (AA h3) fun r σr hr=>?_;exact wA (d:=d.at (kK c.scope fr.sc) h₁.objs.size cl) r σr hr _ _ _ x a₅ hx5 fin
  ·exact P h₆ tk₆ W₆ D h₁.objs.size (le'.trans le₆) (le₆.ρ _ _ (le4.ρ _ _ hD)) (le₆.ρ _ _ hC) (a₆.stK fun m₆ news₆ X₆=>⟨a.c,a.l.mono (le'.trans le₆),a₆.v,m₆,news₆,⟨X₆.F,X₆.N,X₆.D,X₆.nd,X₆.lc⟩⟩)) fun zz zz=>Snd.no
theorem kO {C:Nat}{cC:Addr}(e:oP C σ=.ok () σ')(a:At d V fr σ s)(hC:V.ρ C=some cC):∃m,s.heap.Ns cC m/\∀h',Heap.SameBut cC s.heap h'->At d V fr σ' { s with heap:=h' }:=
 Snd.of e (Φ:=fun zz σ'=>∃m,s.heap.Ns cC m/\∀h',Heap.SameBut cC s.heap h'->At d V fr σ' { s with heap:=h' }) (Snd.nsp fun fs ho=>Snd.ok (a.turn ho fun l hl g sw=>by
  refine bZ hl fun zy zy zy h1 h2 h3 hl'6=>?_;clear hl;obtain rfl:=hl'6;obtain rfl:=soo (hC.symm.trans h1);exact ⟨_,h2 s.heap (g _ (.head _)).1,fun h' hs=>sw _ [] h' s.toks .gone (fun p hp=>nomatch hp) (List.nil_sublist _) fun b o hb e=>(hs.2 b (fun q=>hb (q▸.head _))).trans e⟩))
theorem wD {n:Nat}{ex:EX}{ts:TS}{si:SI}(ie:EOk d.tb n ex)(itt:TOk d.tb n ts)(is:eI d.tb si)(rm:Room d.A n){elt:Expr}{gens:List Comprehension}{scope:Scope}{pos:Pos} :
  Snd (EG d.tb ex ts si (.ListComp elt gens scope pos) fr σ) (TE d V fr σ (eval (.ListComp elt gens scope pos) d.ev)):=
 Snd.bind fun p σ₁ h1=>Snd.bind fun zz σ₂ h2=>Snd.ok fun s Q E a P=>by
  rw[eval_ListComp];refine kM ie itt is rm p σ₁ h1 _ _ _ a fun h tk W D cC le hD hC a₁=>?_;refine aj (kO h2 a₁ hC) fun m q1 q2=>?_;exact ⟨m,q1,fun h' hs=>P _ h' tk W le ⟨D,hD,rfl⟩ (q2 h' hs)⟩
end
section
set_option genInjectivity true
set_option genSizeOfSpec true
def gN (x:Str):List (Str×NameKind)->Bool
 |[]=>false
 |p::r=>(sq p.1 x&&(gj p.2||gh p.2))||gN x r
def swC (sc:Scope) (t value:Expr):Bool:=match t with
 |.Name x pos=>match value with
  |.ListComp _ _ scope vp=>(fF sc.names x&&Nat.beq pos.line vp.line)&&!gN x scope.names
  |_=>false
 |_=>false
def asC (tb:Tb) (ex:EX) (ts:TS) (si:SI) (t value:Expr) (fr:AF) (σ:ST):RS:=gd (dg t) ((wz tb ex ts si value fr σ).bind fun p σ₁=>
 itR (swC fr.sc t value) ((tg1 tb ex si t (.obj p.1) fr σ₁).bind fun fr' σ₂=>(oP p.2 σ₂).bind fun zz σ₃=>.ok (.next,fr') σ₃)
  ((oP p.2 σ₁).bind fun zz σ₂=>(tg1 tb ex si t (.obj p.1) fr σ₂).bind fun fr' σ₃=>.ok (.next,fr') σ₃))
def otS (tb:Tb) (ex:EX) (ts:TS) (bl:BL) (si:SI) (st:Stmt) (fr:AF) (σ:ST):RS:=match st with
 |.Assign tg value _=>match tg with
  |[t]=>asC tb ex ts si t value fr σ
  |_=>.no
 |.For t iter body oe _=>match oe with
  |[]=>EC tb ex si bl t iter body fr σ
  |_=>.no
 |.While test body oe _=>match oe with
  |[]=>whS ts bl test body 40 fr σ
  |_=>.no
 |.Break _=>.ok (.brk,fr) σ
 |.Continue _=>.ok (.cont,fr) σ
 |_=>.no
def wE (e:Expr):Option Expr:=match e with
 |.FormattedValue v c f _=>match f with
  |none=>gdO (Z.eqB c (-1)) v
  |_=>none
 |_=>none
noncomputable def HY:Expr->Bool
 |.FormattedValue ..=>true
 |_=>false
def ptF (ex:EX) (e:Expr) (fr:AF) (σ:ST):R Nat:=(aE (wE e) fun v=>(ex v fr σ).bind fun x σ₁=>aE (txL x) fun n=>.ok n σ₁).or (gd (!HY e) ((ex e fr σ).bind fun x σ₁=>aE (txL x) fun n=>.ok n σ₁))
def jpS (ex:EX):List Expr->Nat->AF->ST->R Nat
 |[],n,_,σ=>.ok n σ
 |e::r,n,fr,σ=>(ptF ex e fr σ).bind fun m σ₁=>gd (Nat.ble (n+m) 1000000) (jpS ex r (n+m) fr σ₁)
def jsS (ex:EX) (es:List Expr) (fr:AF) (σ:ST):R AV:=gd (Nat.ble 2 es.length) ((jpS ex es 0 fr σ).bind fun n σ₁=>.ok (.ut n) σ₁)
section
variable {d:Dx}{V W:Vl}{fr fr':AF}{σ σ':ST}{s:Shared}{E:Value->Shared->Prop}{β γ:Type}
theorem j6 {x:Str}:∀{l:List (Str×NameKind)},(l.any fun p=>p.1==x&&(p.2==.local||p.2==.cell))=gN x l
 |[]=>rfl
 |p::r=>by
  rw[List.any_cons,j6 (l:=r)];show _=((sq p.1 x&&(gj p.2||gh p.2))||gN x r);rw[show (p.2==.local||p.2==.cell)=(gj p.2||gh p.2) by cases p.2<;>rfl];generalize h:sq p.1 x=x';induction x' using aH with
  |true=>rw[bh.mp h,beq_self_eq_true]
  |false=>rw[gI h]
theorem sZ {sc:Scope}{x:Str}:(sc.names.lookup x==some .local)=fF sc.names x:=by
 unfold fF;rw[aQ];cases sc.names.lookup x with
 |none=>rfl
 |some k=>induction k using NameKind.casesOn<;>rfl
set_option tactic.hygienic true in
theorem AE {env:Env}{t:Expr}{n:Nat}{elt:Expr}{gens:List Comprehension}{scope:Scope}{pos:Pos}(hk:env.scope.kind=.function):swapsWith (.ListComp elt gens scope pos) (some t) n env=pure (swC env.scope t (.ListComp elt gens scope pos)):=by
 induction t using bc<;>try rfl
 rename_i x p;show pure (env.blockKind==.function&&env.kindOf x==some .local&&p.line==pos.line&&!(scope.names.any fun (n,k)=>n==x&&(k==.local||k==.cell)))=pure ((fF env.scope.names x&&Nat.beq p.line pos.line)&&!gN x scope.names);congr 1;rw[show (env.blockKind==.function)=true by unfold Env.blockKind;rw[hk];rfl,show (env.kindOf x==some .local)=fF env.scope.names x from sZ,show (p.line==pos.line)=Nat.beq p.line pos.line by rw[BT.beq_eq];by_cases h:p.line=pos.line<;>simp [h],
  show (scope.names.any fun (n,k)=>n==x&&(k==.local||k==.cell))=gN x scope.names from j6,Bool.true_and]
theorem kP {t:Expr}(h:dg t=true):cH t=true:=by induction t using bc<;>first|rfl|exact ak h
theorem nG {t value:Expr}{env:Env}(h:dg t=true):swappedStores [t] value env=pure none:=by
 unfold swappedStores
 induction t using bc<;>first|rfl|exact ak h
theorem AG {n:Nat}{ex:EX}{ts:TS}{si:SI}(ie:EOk d.tb n ex)(itt:TOk d.tb n ts)(is:eI d.tb si)(rm:Room d.A n){t value:Expr}{pos:Pos}(hsc:fr.sc=d.ev.scope)(hk:d.ev.scope.kind=.function) :
  Snd (asC d.tb ex ts si t value fr σ) fun r σ'=>Tr d V fr σ (exec (.Assign [t] value pos) d.ev) r.2 σ' (DF r.1):=
 Snd.gd fun hp=>Snd.bind fun p σ₁ h1=>by
  have hc:∃elt gens scope vp,value=.ListComp elt gens scope vp:=by
   have q:Snd (wz d.tb ex ts si value fr σ) fun zz zz=>∃elt gens scope vp,value=.ListComp elt gens scope vp:=Snd.opt fun c hc=>Snd.of (Φ:=fun zz zz=>_) (r:=.ok () σ) rfl fun zz zz zz zz zz zz=>(j5 hc).elim fun ps q=>⟨_,_,_,ps,q⟩
   exact q p σ₁ h1
  refine jE hc fun elt gens scope vp hc'4=>?_;clear hc;obtain rfl:=hc'4;have hsw:=AE (t:=t) (n:=pos.line) (elt:=elt) (gens:=gens) (scope:=scope) (pos:=vp) hk;rw[<-hsc]at hsw;have hst:(assignEach [t] d.ev).map (·.2)=[assign t d.ev]:=by
   rw[bE (kP hp)];rfl
  refine Snd.it (fun hs=>Snd.bind fun fr₁ σ₂ h2=>Snd.bind fun zz σ₃ h3=>Snd.ok fun s Q E a P=>?_) fun hs=>Snd.bind fun zz σ₂ h2=>Snd.bind fun fr₁ σ₃ h3=>Snd.ok fun s Q E a P=>?_
  ·rw[PyProof.Rows.exec_Assign];refine af (wpAny_standAt ?_);rw[show swapsWithSole [t] (elt.ListComp gens scope vp) pos.line d.ev=pure true from hsw.trans (by rw[hs])];refine af (au ?_);rw[if_pos rfl,arm_evalThenUse_ListComp];refine af (af (kM ie itt is rm p σ₁ h1 _ (fun zz s'=>wpAny d.M d.A (pure ()) (fun zz s''=>wpAny d.M d.A (pure Flow.next) Q E s'') E s') _ a fun h tk W D cC le hD hC a₁=>?_));show wpAny _ _ (assignAll _ ((assignEach [t] d.ev).map (·.2))) _ _ _;rw[hst];refine gH (V:=W) (v:=.obj p.1) ie is rm ⟨D,hD,rfl⟩ fr₁ σ₂ h2 _ _ _ a₁ fun zz h' tk' W' le' zz a₂=>?_;refine aj (kO h3 a₂ (le'.ρ _ _ hC)) fun m q1 q2=>?_;exact ⟨m,q1,fun h'' hs''=>au (au (P .next h'' tk' W' (le.trans le') trivial (q2 h'' hs'')))⟩
  ·refine wpAny_Assign_stores ?_ (hsw.trans (by rw[hs])) (nG hp);rw[eval_ListComp];refine kM ie itt is rm p σ₁ h1 _ _ _ a fun h tk W D cC le hD hC a₁=>?_;refine aj (kO h2 a₁ hC) fun m q1 q2=>?_;refine ⟨m,q1,fun h' hs'=>?_⟩;rw[hst];exact gH (V:=W) (v:=.obj p.1) ie is rm ⟨D,hD,rfl⟩ fr₁ σ₃ h3 _ (fun zz=>Q .next) _ (q2 h' hs') (P.next.from le)
set_option tactic.hygienic true in
theorem oR {tb:Tb}{n:Nat}{ex:EX}{ts:TS}{bl:BL}{si:SI}(ie:EOk tb n ex)(itt:TOk tb n ts)(ib:BOk tb n bl)(is:eI tb si):SOk tb n (otS tb ex ts bl si):=by
 intro b fr σ r σ' e d V ht rm;subst ht;refine fun s Q E a P=>Snd.of e (Φ:=fun r σ'=>∀Q E,Po d V r.2 σ' s (DF r.1) Q->wpAny d.M d.A (exec b d.ev) Q E s) ?_ Q E P
 induction b using Stmt.casesOn<;>first|exact Snd.no|skip
 case Assign tg value pos=>
  match tg with
  |[]|_::_::_=>exact Snd.no
  |[t]=>exact fun r σ' e Q E P=>AG ie itt is rm a.l.sc a.c.hk r σ' e s Q E a P
 case For t iter body oe pos=>
  match oe with
  |_::_=>exact Snd.no
  |[]=>exact fun r σ' e Q E P=>Av ie is ib rm r σ' e s Q E a P
 case While test body oe pos=>
  match oe with
  |_::_=>exact Snd.no
  |[]=>exact fun r σ' e Q E P=>ED itt ib rm r σ' e s Q E a P
 case Break=>exact Snd.ok fun Q E P=>af (wpAny_standAt (au (P.here a trivial)))
 case Continue=>exact Snd.ok fun Q E P=>af (wpAny_standAt (au (P.here a trivial)))
set_option tactic.hygienic true in
theorem AH {n:Nat}{ex:EX}(ie:EOk d.tb n ex)(rm:Room d.A n){e:Expr}:Snd (ptF ex e fr σ) fun m σ'=>m<=1000000->Tr d V fr σ (eval e d.ev) fr σ' (fun W u=>∃y t,u=.str y t/\y.length<=m):=
 Snd.or (Snd.opt fun v hv=>Snd.bind fun x σ₁ h1=>Snd.opt fun m h2=>Snd.ok fun hm s Q E a P=>by
  induction e using bc<;>first|exact ag hv|skip
  rename_i v' c f p
  induction f using aF with
  |some _=>exact ag hv
  |none=>
   refine ay (ci hv) fun hc z'1=>?_;obtain rfl:=z'1;have hc:c=-1:=beq_iff_eq.mp ((iE _ _).trans hc);subst hc;refine wpAny_FormattedValue_plain (ie h1 rfl rm _ _ _ a fun u h' tk W le du a₁=>?_);refine aI (i6 a₁.v h2 du) fun y t z'2 hy=>?_;obtain rfl:=z'2;exact formatField_str (fun t' tk'=>P _ h' tk' W le ⟨y,t',rfl,hy⟩ (a₁.tok tk')) (by have:=bC;lia))
 (Snd.gd fun zz=>Snd.bind fun x σ₁ h1=>Snd.opt fun m h2=>Snd.ok fun hm s Q E a P=>ie h1 rfl rm _ _ _ a fun u h' tk W le du a₁=>by
  refine aI (i6 a₁.v h2 du) fun y t z'2 hy=>?_;obtain rfl:=z'2;exact P _ h' tk W le ⟨y,t,rfl,hy⟩ a₁)
theorem yy {n:Nat}{ex:EX}(ie:EOk d.tb n ex)(rm:Room d.A n):∀{es:List Expr} {k:Nat} {acc:Str} {σ:ST} {V:Vl},Snd (jpS ex es k fr σ) fun m σ'=>acc.length<=k->k<=1000000->∀s (Q:Str->Shared->Prop) E,At d V fr σ s->
  Po d V fr σ' s (fun W (y:Str)=>y.length<=m/\m<=1000000) Q->Joins d.M d.A E (evalEach es d.ev) acc Q s
 |[],k,acc,σ,V=>Snd.ok fun ha hk s Q E a P=>P acc s.heap s.toks V (.refl V) ⟨ha,hk⟩ a
 |x::r,k,acc,σ,V=>Snd.bind fun m σ₁ h1=>Snd.gd fun hb=>fun m' σ' e ha hk s Q E a P=>by
  have hb:=az hb;show wpAny _ _ _ _ _ _;refine AH ie rm m σ₁ h1 (by lia) s _ _ a fun u h tk W le hu a₁=>?_;refine aI hu fun y t hu'2 hy=>?_;clear hu;obtain rfl:=hu'2;exact ⟨y,t,rfl,by rw[kB];have:=bC;lia,yy ie rm m' σ' e (by rw[kB];lia) hb _ Q E a₁ (P.from le)⟩
theorem EH {n:Nat}{ex:EX}(ie:EOk d.tb n ex)(rm:Room d.A n){es:List Expr}{pos:Pos}:Snd (jsS ex es fr σ) (TE d V fr σ (eval (.JoinedStr es pos) d.ev)):=
 Snd.gd fun hl=>Snd.bind fun m σ₁ h1=>Snd.ok fun s Q E a P=>by
  match es,hl with
  |x::y::r,_=>
   refine wpAny_JoinedStr (yy ie rm m σ₁ h1 (bD _) (bD _) s _ _ a fun z h tk W le hz a₁=>⟨by have:=bC;lia,?_⟩);exact P _ h _ W le ⟨z,_,rfl,hz.1⟩ (a₁.tok _)
end
end
noncomputable abbrev qt:Arguments:=⟨[],[],none,[],[],none,[]⟩
noncomputable def ta (a:Arguments):Bool:=((a.posonlyargs.isEmpty&&a.args.isEmpty)&&(a.vararg.isNone&&a.kwonlyargs.isEmpty))&&((a.kw_defaults.isEmpty&&a.kwarg.isNone)&&a.defaults.isEmpty)
theorem wG {p as k:List Arg}{v kw:Option Arg}{kd:List (Option Expr)}{df:List Expr}(h1:p=[])(h2:as=[])(h3:v=none)(h4:k=[])(h5:kd=[])(h6:kw=none)(h7:df=[]):Arguments.mk p as v k kd kw df=qt:=by subst h1 h2 h3 h4 h5 h6 h7;rfl
theorem mu {a:Arguments}(h:ta a=true):a=qt:=by
 obtain ⟨p,as,v,k,kd,kw,df⟩:=a;exact wG (List.isEmpty_iff.mp (an1 (an1 (an1 h)))) (List.isEmpty_iff.mp (an2 (an1 (an1 h)))) (Option.isNone_iff_eq_none.mp (an1 (an2 (an1 h)))) (List.isEmpty_iff.mp (an2 (an2 (an1 h)))) (List.isEmpty_iff.mp (an1 (an1 (an2 h)))) (Option.isNone_iff_eq_none.mp (an2 (an1 (an2 h)))) (List.isEmpty_iff.mp (an2 (an2 h)))
def dD:List (Str×NameKind)->Bool
 |[]=>true
 |p::r=>!gh p.2&&dD r
theorem dJ:∀{l:List (Str×NameKind)},dD l=true->∀x∈l,x.2≠.cell
 |[]=>fun zz zz h=>nomatch h
 |p::r=>fun h x hx=>by
  have h1:=an1 h;have h2:=an2 h;rcases aG hx with rfl|hx
  ·intro q;rw[q]at h1;exact ak h1
  ·exact dJ h2 x hx
def oS (sc:Scope):Bool:=(!sc.isCoroutine&&!sc.isGenerator)&&fnS sc
theorem nH {sc:Scope}(h:oS sc=true):sc.isCoroutine=false/\sc.isGenerator=false/\sc.kind=.function:=by
 have h1:=an1 h;have h2:=an2 h;have h3:=an2 h1;have h1:=an1 h1;exact ⟨by rwa [Bool.not_eq_true']at h1,by rwa [Bool.not_eq_true']at h3,sV h2⟩
noncomputable def mw:List Nat->Nat->Bool
 |[],_=>false
 |a::r,x=>Nat.beq a x||mw r x
theorem cT {x:Nat}:∀{l:List Nat},mw l x=true->x∈l
 |[]=>fun h=>ak h
 |a::r=>fun h=>by
  rcases cx h with h|h
  ·rw[Nat.eq_of_beq_eq_true h];exact .head _
  ·exact .tail _ (cT h)
def tc {β:Type} (i:Nat) (σ:ST) (k:Addr->Str->List Nat->R β):R β:=aE (aa σ.os i) fun o=>match o with|.ctb P q js=>k P q js|_=>.no
def EI (tb:Tb) (x:Expr) (fr:AF) (σ:ST):R AV:=match x with
 |.Lambda ps body scope _=>mdR fr.md (aE fr.fa fun g=>gd (ta ps) (aE (qr fr.cel scope.names []) fun cel=>aE (aa tb.lam g) fun l=>tc l.1 σ fun P' q' js=>
   gd ((Nat.beq l.2.1 P'&&sq l.2.2 q')&&!Nat.ble σ.nx l.1) (.ok (.obj σ.nx) ⟨(σ.nx,.clo ⟨ps,body,scope,l.2.2⟩ cel l.1)::bf σ.os l.1 (.ctb l.2.1 l.2.2 (σ.nx::js)),σ.nx+1⟩))) fun zz=>.no
 |_=>.no
def td {β:Type} (j:Nat) (σ:ST) (k:Lm->List (Str×Nat)->R β):R β:=aE (aa σ.os j) fun o=>match o with
 |.clo lm cs t=>tc t σ fun zz q js=>gd (((mw js j&&sq q lm.qual)&&(ta lm.params&&oS lm.scope))&&dD lm.scope.names) (k lm cs)
 |_=>.no
def yz (ex:EX) (j:Nat) (σ:ST):R AV:=td j σ fun lm cs=>ex lm.body ⟨lm.scope,[],cs,none,none⟩ σ
noncomputable def jl:Expr->Bool
 |.Name ..=>true
 |_=>false
def tf (tb:Tb) (ex:EX) (cl:CL) (bi ty:BIT) (g:Expr) (as:List Expr) (fr:AF) (σ:ST):R AV:=(on0E as (gd (jl g) ((ex g fr σ).bind fun u σ₁=>fY u fun j=>yz ex j σ₁))).or (yd tb ex cl bi ty g as fr σ)
where on0E {β:Type} (as:List Expr) (r:R β):R β:=match as with|[]=>r|_=>.no
section
variable {d:Dx}{V W:Vl}{fr fr':AF}{σ σ':ST}{s:Shared}{E:Value->Shared->Prop}{β γ:Type}
theorem Snd.ctb {Φ:β->ST->Prop}{i:Nat}{k:Addr->Str->List Nat->R β}(h:∀P q js,aa σ.os i=some (.ctb P q js)->Snd (k P q js) Φ):Snd (tc i σ k) Φ:=Snd.opt fun o ho=>by induction o using aN<;>first|exact Snd.no|exact h _ _ _ ho
noncomputable def Vl.addC (V:Vl)(i:Nat)(a c:Addr):Vl:={ V with ρ:=fun k=>if k=i then some a else V.ρ k,δ:=fun k=>if k=i then some c else V.δ k }
theorem Vl.addC_le {i:Nat}{a c:Addr}(h1:V.ρ i=none)(h2:V.δ i=none):V.le (V.addC i a c):=by
 refine ⟨fun k x e=>?_,fun k x e=>?_,rfl,fun zz zz e=>e⟩
 ·show (if k=i then some a else V.ρ k)=_;rw[if_neg];exact e;rintro rfl;exact ag (h1.symm.trans e)
 ·show (if k=i then some c else V.δ k)=_;rw[if_neg];exact e;rintro rfl;exact ag (h2.symm.trans e)
theorem Vl.addC_ρ {i:Nat}{a c:Addr}:(V.addC i a c).ρ i=some a:=if_pos rfl
theorem Vl.addC_δ {i:Nat}{a c:Addr}:(V.addC i a c).δ i=some c:=if_pos rfl
theorem Vx.addC {n:Nat}{a c:Addr}(v:Vx V n):Vx (V.addC n a c) (n+1):=⟨fun i hi=>by
 refine bU (v.fresh i (Nat.le_of_succ_le hi)) fun f1 f2 f3=>?_;have:¬ i=n:=Nat.ne_of_gt hi;exact ⟨(if_neg this).trans f1,(if_neg this).trans f2,f3⟩,v.num,v.txt⟩
theorem CodeOf.more {cs cs':List (Addr×Obj)}{c:Addr}{q:Str}(h:CodeOf cs c q)(k:∀p∈cs,p∈cs'):CodeOf cs' c q:=
 let ⟨oc,vs,t,a,b⟩:=h;⟨oc,vs,t,k _ a,b⟩
set_option tactic.hygienic true in
theorem fu {pos:Pos}{c d:Value}(l:List Value){a b:Int}(ht:TriplesOk l)(h:codeAmong pos (l++[rawInt a,rawInt b,c])=some d):codeAmong pos l=some d\/d=c:=by
 fun_induction TriplesOk l with
 |case1=>
  simp only[List.nil_append,codeAmong,rawInt]at h
  split at h
  ·exact .inr (soo h).symm
  ·exact ag h
 |case2 x t y u z rest ih=>
  simp only[List.cons_append,codeAmong]at h ⊢
  split at h
  ·rename_i hc;rw[if_pos hc];exact .inl h
  ·rename_i hc;rw[if_neg hc];exact ih ht h
 |case3 l h1 h2=>exact ht.elim
theorem AI {pre cs post:List Addr}{P c fa:Addr}(nd:(pre++P::(cs++post)).Nodup)(lt:∀y∈pre++P::(cs++post),y < c)(lt2:c < fa):(fa::(pre++P::c::(cs++post))).Nodup:=by
 have pm:(pre++P::c::(cs++post)).Perm (c::(pre++P::(cs++post))):=(List.Perm.append_left _ (List.Perm.swap _ _ _)).trans List.perm_middle;rw[List.nodup_cons,pm.nodup_iff,List.nodup_cons];refine ⟨fun hm=>?_,fun hm=>absurd (lt _ hm) (Nat.lt_irrefl _),nd⟩;rcases aG (pm.mem_iff.mp hm) with e|hm
 ·exact absurd lt2 (e▸Nat.lt_irrefl _)
 ·exact absurd (Nat.lt_trans (lt _ hm) lt2) (Nat.lt_irrefl _)
theorem wH {pre cs post:L2}{P c fa:Addr}{o o' oc of:Obj}(nd:((pre++(P,o)::(cs++post)).map (·.1)).Nodup)(lt:∀p∈pre++(P,o)::(cs++post),p.1 < c)(lt2:c < fa):(((fa,of)::(pre++(((P,o')::(c,oc)::cs)++post))).map (·.1)).Nodup:=by
 have lt' :∀y∈(pre++(P,o)::(cs++post)).map (·.1),y < c:=fun y hy=>by
  refine aj (List.mem_map.mp hy) fun z hz z'2=>?_;obtain rfl:=z'2;exact lt z hz
 rw[List.map_append,List.map_cons,List.map_append]at nd lt';rw[List.map_cons,List.map_append,List.map_append];exact AI nd lt' lt2
theorem wJ {pre cs post:L2}{a b c z:Addr×Obj}(h:z∈a::(pre++((b::c::cs)++post))):z∈a::c::(pre++b::(cs++post)):=by
 rcases aG h with h|h
 ·exact h▸.head _
 ·rcases bn h with h|h
  ·exact .tail _ (.tail _ (bS _ h))
  ·rcases aG h with h|h
   ·exact .tail _ (.tail _ (a9 _ (h▸.head _)))
   ·rcases aG h with h|h
    ·exact .tail _ (h▸.head _)
    ·exact .tail _ (.tail _ (a9 _ (.tail _ h)))
set_option tactic.hygienic true in
theorem wL {x:Expr}:Snd (EI d.tb x fr σ) (TE d V fr σ (eval x d.ev)):=by
 induction x using bc<;>first|exact Snd.no|skip
 rename_i ps body scope pos;refine Snd.md (fun hmd=>Snd.opt fun g hfa=>Snd.gd fun hps=>Snd.opt fun cel hcel=>Snd.opt fun l hlam=>Snd.ctb fun P' q' js ht=>Snd.gd fun hb=>Snd.ok fun s Q E a P=>?_) fun zz zz=>Snd.no;obtain ⟨t,P₀,q⟩:=l;have h3:=an2 hb;have hb:=an1 hb;have h1:=an1 hb;have h2:=an2 hb;dsimp only at ht h1 h2 h3 P;obtain rfl:=aK h1;obtain rfl:=bh.mp h2;obtain rfl:=mu hps;have hev:=Fx.ev_none a.l.md hmd;refine aj (oQ a.l.cel hcel) fun cl hcz hclos=>?_;rw[hev]at hclos;rw[show d.ev=d.f.env from hev];refine vm (a.c.O.lam _ _ _ _ hlam) fun oc od fd sl c g1 g2 g3 g4=>?_;have fa:=a.l.fa;rw[hfa]at fa;refine Hy fa fun oc' od' fd' sl' f1 f2 f3=>?_;clear fa;obtain rfl:fd=fd':=by have:=soo (g1.symm.trans f1);injection this with _ _ e;injection e
 have C:=g4 _ a.c.X;have hcd:d.f.ccd=.ref c:=f2.symm.trans g2;refine kla_eval rfl ?_;rw[show d.f.env.qual++"<lambda>" = q by rw[g3,f3]];refine a.swapK ht fun m pre l post X hi up=>?_;refine bU (a.v.fresh σ.nx (aP _)) fun fr1 fr2 fr3=>?_;have fin:∀(fa c':Addr) (pm ctv:Value) (h':Heap) (tk:Nat) (l':L2),Fr d.h₀ d.f.L h' m->News d.h₀ d.f.L h' ((fa,kla_obj "<lambda>" q qt body scope cl pm c' ctv)::(pre++(l'++post)))->
   Is d.w (V.addC σ.nx fa c') d.tb.flds t (.ctb P₀ q (σ.nx::js)) l'->(((fa,kla_obj "<lambda>" q qt body scope cl pm c' ctv)::(pre++(l'++post))).map (·.1)).Nodup->Q (.ref fa) (Shared.to s h' tk):=fun fa c' pm ctv h' tk l' F' N' is nd'=>by
  have le:=Vl.addC_le (a:=fa) (c:=c') fr1 fr2;exact P _ h' tk _ le ⟨fa,Vl.addC_ρ,rfl⟩ (a.put le (σ₁:=⟨_,σ.nx+1⟩) X F' N' (.cons (l:=[_]) (Is.clo (lm:=⟨qt,body,scope,q⟩) Vl.addC_ρ Vl.addC_δ (hcz.mono le)) (up _ le _ _ is)) nd' a.v.addC)
 refine aR hi fun ps cs tab jo hi'4=>?_;clear hi;obtain rfl:=hi'4;have jmore:∀(fa c':Addr) (cs':L2),(∀p∈cs,p∈cs')->CodeOf cs' c' q->∀j∈σ.nx::js,∃c,(V.addC σ.nx fa c').δ j=some c/\CodeOf cs' c q:=fun fa c' cs' hc hq j hj=>by
  rcases aG hj with rfl|hj
  ·exact ⟨c',Vl.addC_δ,hq⟩
  ·refine aj (jo j hj) fun c q1 q2=>?_;exact ⟨c,(Vl.addC_le (a:=fa) (c:=c') fr1 fr2).δ _ _ q1,q2.more hc⟩
 have nd:((pre++(P₀,tabObj ps)::(cs++post)).map (·.1)).Nodup:=X.nd;generalize hca:codeAmong pos ps.toList=x';induction x' using aF with
 |none=>
  refine kla_nest X.F X.N a.c.T C hcd (g:=fun o'=>pre++(P₀,o')::(cs++post)) (UpdF.of nd) tab.1 hca hclos fun fa c' oc' vs tt ctv h' tk F' N' hd hv lt1 lt2=>?_;have hcode:CodeOf ((c',oc')::cs) c' q:=⟨oc',vs,tt,.head _,hd,hv⟩
  refine fin fa c' ((d.mg "__name__").getD .none) ctv h' tk ((P₀,tabObj (ps++#[rawInt pos.line,rawInt pos.col,.ref c']))::(c',oc')::cs) F' (fun z hz=>N' z ?_) (.ctb ⟨?_,fun pos' cv hcv=>?_⟩ (jmore fa c' _ (fun p hp=>.tail _ hp) hcode)) ?_
  ·exact wJ hz
  ·rw[Array.toList_append];exact TriplesOk_snoc _ _ _ _ tab.1
  ·rw[Array.toList_append]at hcv;rcases fu _ tab.1 hcv with h|h
   ·refine aj (tab.2 _ _ h) fun c q1 q2=>?_;exact ⟨c,q1,q2.more fun p hp=>.tail _ hp⟩
   ·exact ⟨c',h,hcode⟩
  ·exact wH nd lt1 lt2
 |some cv=>
  refine aj (tab.2 _ _ hca) fun c' z'1 hcode=>?_;obtain rfl:=z'1;refine kla_hit X.F X.N a.c.T C hcd (a9 _ (.head _)) tab.1 hca hclos fun fa ctv h' tk F' N' lt=>?_;refine fin fa c' ((d.mg "__name__").getD .none) ctv h' tk ((P₀,tabObj ps)::cs) F' N' (.ctb tab (jmore fa c' _ (fun p hp=>hp) hcode)) ?_;rw[List.map_cons,List.nodup_cons];refine ⟨fun hm=>?_,nd⟩;refine aj (List.mem_map.mp hm) fun z hz hz'=>?_;have:=lt z hz;rw[hz']at this;exact absurd this (Nat.lt_irrefl _)
structure th (V:Vl) (s:Shared) (news:L2) (x:Addr) (lm:Lm) (cs:List (Str×Nat)) (c:Addr) (pm ctv:Value) (cl:List (Str×Addr)):Prop where
 p:lm.params=qt
 co:lm.scope.isCoroutine=false
 ge:lm.scope.isGenerator=false
 ki:lm.scope.kind=.function
 nc:∀x∈lm.scope.names,x.2≠.cell
 at_:(x,kla_obj "<lambda>" lm.qual lm.params lm.body lm.scope cl pm c ctv)∈news
 cz:Cz V cs cl
 cr:s.heap.CodeRec (.ref c) lm.qual
set_option tactic.hygienic true in
theorem Snd.clo {Φ:β->ST->Prop}{j:Nat}{k:Lm->List (Str×Nat)->R β}(h:∀lm cs,(∀s x news g L,News g L s.heap news->Led d.w V d.tb.flds d.tl σ.os news->V.ρ j=some x->∃c pm ctv cl,th V s news x lm cs c pm ctv cl)->Snd (k lm cs) Φ):Snd (td j σ k) Φ:=
 Snd.opt fun o hj=>by
  induction o using aN<;>first|exact Snd.no|skip
  rename_i lm cs t;refine Snd.ctb fun P q js ht=>Snd.gd fun hb=>h lm cs fun s x news g L N D hρ=>?_;have h5:=an2 hb;have hb:=an1 hb;have h6:=an2 hb;have hb:=an1 hb;have h1:=an1 hb;have h2:=an2 hb;have h3:=an1 h6;have h4:=an2 h6;refine bU (nH h4) fun p1 p2 p3=>?_;obtain rfl:=bh.mp h2;refine aj (D.mem hj) fun l hi hm=>?_;refine aj (D.mem ht) fun l' hi' hm'=>?_;refine vm hi fun y c pm ctv cl e1 e2 e3 hi'8=>?_;clear hi;obtain rfl:=hi'8;obtain rfl:=soo (hρ.symm.trans e1);refine aR hi' fun ps ccs tab jo hi''4=>?_;clear hi';obtain rfl:=hi''4;obtain ⟨c',q1,oc,vs,tt,q2,q3,q4⟩:=jo j (cT h1);obtain rfl:=soo (e2.symm.trans q1);exact ⟨c,pm,ctv,cl,mu h3,p1,p2,p3,dJ h5,hm _ (.head _),e3,c,oc,vs,tt,rfl,(N _ (hm' _ (.tail _ q2))).1,q3,q4⟩
theorem tj {n:Nat}{ex:EX}(ie:EOk d.tb n ex)(rm:Room d.A (n+1)){j:Nat}{x:Addr}(hρ:V.ρ j=some x):Snd (yz ex j σ) fun v σ'=>TC d V fr σ x [] v σ'/\∀s,At d V fr σ s->FnAt x s.heap:=
 Snd.clo fun lm cs hc v σ' e=>⟨fun s R a P=>a.stK fun m news X=>by
  refine jE (hc s x news _ _ X.N X.D hρ) fun c pm ctv cl q=>?_;refine av a.c.B fun A₀ B=>?_;obtain ⟨ps,body,scope,qual⟩:=lm;obtain ⟨q1,q2,q3,q4,q5,hmem,hcz,hcd⟩:=q;dsimp only at q1 q2 q3 q4 q5 hmem hcd e;subst q1;refine ay rm fun r1 r2=>?_;clear rm;refine kla_code (args:=⟨[],[]⟩) (binds:=[]) B X.F a.c.X X.N a.c.T a.c.hA rfl a.c.hf hmem hcd (by lia) rfl (fun y h=>nomatch h) (fun g' L' h₁ FG F' N' B' X' T'=>?_) q2 q3 q4 q5;have a':At (d.call ⟨qual,scope,L',x,.ref c,cl,none⟩ g') V ⟨scope,[],cs,none,none⟩ σ (Shared.to s h₁ s.toks):=
   ⟨⟨a.c.O,⟨d.A,B'⟩,by show d.A.frames.map _=_;rw[a.c.hA];rfl,a.c.hh,a.c.hg,q4,q4,T',X'⟩,⟨trivial,trivial,rfl,fun y i hy=>hcz.look y hy⟩,a.v,_,news,F',N',X.D,X.nd,fun y v' hy=>ag hy⟩
  refine ie (d:=d.call ⟨qual,scope,L',x,.ref c,cl,none⟩ g') e rfl ⟨by show d.A.depth+1+3*n < _;lia,by show d.A.units+3+10*n+10 < _;lia⟩ _ _ _ a' fun u h tk W le du at'=>?_;exact a.back (s:=s) X le at' fun m' news' F' N' k=>leaveK_ F' N' fun Fk Nk=>P _ h tk W le du (k Fk Nk) fun m₁ q=>iD X.F q▸Fk,fun s a=>a.stK fun m news X=>by
  refine jE (hc s x news _ _ X.N X.D hρ) fun c pm ctv cl q=>?_;exact FnAt.of X.N q.at_⟩
theorem tm {n:Nat}{ex:EX}{cl:CL}{bi ty:BIT}(ie:EOk d.tb (n+1) ex)(ie':EOk d.tb n ex)(ic:COk d.tb n cl)(ib:gG nmB d.tb (n+1) bi)(it:gG nmT d.tb (n+1) ty)(rm:Room d.A (n+1)){g:Expr}{as:List Expr}{pos:Pos} :
  Snd (tf d.tb ex cl bi ty g as fr σ) (TE d V fr σ (eval (.Call g as [] pos) d.ev)):=
 Snd.or (match as with
  |_::_=>Snd.no
  |[]=>Snd.gd fun hg=>Snd.bind fun u σ₁ h1=>Snd.obj fun j hj v σ' e s Q E a P=>by
   rw[dU (by induction g using Expr.casesOn<;>first|rfl|exact ak hg)];refine af (ie h1 rfl rm _ _ _ a fun uv h tk W le du a₁=>?_);rw[hj]at du;refine aj du fun ax hρ du'2=>?_;clear du;obtain rfl:=du'2;refine ay (tj (d:=d) (fr:=fr) ie' rm hρ v σ' e) fun c1 c2=>?_;exact callWith_F0 (c2 _ a₁) (c1.e _ _ _ a₁ (P.from le))) (vD ie ic ib it rm)
end
section
open PySem.Builtin PySem.Builtin.ObjectAttr
section
variable {M:Model}{prog:Program}{w:World}{A:Around}{E:Value->Shared->Prop}{s:Shared}{env:Env}
theorem wM {e:Expr}{pos:Pos}{Q:Flow->Shared->Prop}(hh:A.handled=none)
  (h:wpAny M A (eval e env) (fun v s₁=>∃a C ob vs bm,v=.ref a/\s₁.heap.get? a=some ob/\ob.cls=.ref C/\ExCls s₁.heap C bm/\ob.data=.fields vs/\vs[1]? = some .none/\E (.ref a) s₁) E s) :
  wpAny M A (exec (.Raise (some e) none pos) env) Q E s:=by
 show wpAny M A (do standAt pos;raiseStmt env (some (do let v <-eval e env;standAt pos;pure v)) none) Q E s;refine af (wpAny_standAt ?_);unfold raiseStmt;dsimp only;refine af (af (wpAny_mono h (fun v s₁ h₁=>af (wpAny_standAt (au ?_))) fun zz zz x=>x));refine HD h₁ fun a C ob vs bm h₁'5 ha hcls Y hd h1 hE=>?_;clear h₁;obtain rfl:=h₁'5;refine Y.k fun nm qn N bs hdct sn sub ab col dd k0 k1 k2 k3 k5 hC=>?_;obtain ⟨hp,g,d,tk,os⟩:=s₁;have hcB:(Value.ref C::bm).contains (.type "BaseException")=true:=by rw[List.contains_cons,Y.hb,Bool.or_true]
 have hnt:∀{Q':Bool->Shared->Prop},Q' false ⟨hp,g,d,tk,os⟩->wpAny M A (isType (.ref a)) Q' E ⟨hp,g,d,tk,os⟩:=by
  intro Q' hq;simp only[isType,loadHead];refine af (wpAny_loadPart ha ?_);rw[hd];exact au hq
 have hto:∀{Q':Value->Shared->Prop},Q' (.ref C) ⟨hp,g,d,tk,os⟩->wpAny M A (typeOf (.ref a)) Q' E ⟨hp,g,d,tk,os⟩:=by
  intro Q' hq;unfold typeOf;refine af (wpAny_loadPart ha ?_);rw[hcls];exact au hq
 have htc:∀{Q':Value->Shared->Prop},Q' (.type "type") ⟨hp,g,d,tk,os⟩->wpAny M A (typeOf (.ref C)) Q' E ⟨hp,g,d,tk,os⟩:=by
  intro Q' hq;unfold typeOf;refine af (wpAny_loadPart hC ?_);exact au hq
 refine af (au ?_);dsimp only;refine af (wpAny_holding ?_);unfold excFromValue isExcClass;refine af (af (hnt ?_));simp only[Bool.false_eq_true,if_false];refine au ?_;simp only[Bool.false_eq_true,if_false];unfold isInstance;refine af (af (hto ?_));refine wpAny_isSubtype_exc hC ?_;rw[hcB];simp only[if_true];refine au ?_;refine af (hnt ?_);simp only[Bool.false_eq_true,if_false];unfold raisedInstance;refine af (af (hto (af (htc ?_))));rw[if_pos (by decide)];refine au ?_;unfold setFlight;refine af (af (wpAny_field ha hd h1 ?_));rw[if_neg (by decide)];refine au ?_;unfold raiseNew;refine af (wpAny_handled ?_);rw[hh]
 first
  |exact wpAny_throw hE
  |exact af (au (wpAny_throw hE))
end
def EJ (h base:Heap) (e C d:Addr) (fl:Value):Prop:=
 ∃oe vs T oT ts,h.get? e=some oe/\oe.cls=.ref C/\oe.dict=some d/\oe.data=.fields vs/\vs[1]? = some (.ref T)/\base.get? T=none/\T≠e/\h.get? T=some oT/\oT.data=.fields ts/\ts[3]? = some fl
def FlyD (base:Heap) (l:List Env) (e C d:Addr) (fl:Value) (h:Heap):Prop:=
 base.StaysIn h/\base.get? e=none/\h.FunFrames base l/\EJ h base e C d fl
theorem j7 (o:Obj)(f:Array Value->Array Value):(Obj.mapFields f o).dict=o.dict:=by
 obtain ⟨c,d,dt,sl⟩:=o
 induction dt using Data.casesOn<;>rfl
section
variable {M:Model}{A:Around}{E:Value->Shared->Prop}{s:Shared}{base:Heap}{env:Env}{outer:List Env}{L e C d:Addr}
theorem tq {oe:Obj}{vs:Array Value}{head:Value}{hadNext:Bool}{Q:Unit->Shared->Prop}
  (hfr:A.frames=some (env::outer)) (hl:s.heap.FunFrames base (env::outer)) (hf:env.frame=some L)
  (he:s.heap.get? e=some oe) (hkb:base.StaysIn s.heap) (hen:base.get? e=none) (hd:oe.data=.fields vs) (hsz:1 < vs.size) (hc:oe.cls=.ref C) (hdd:oe.dict=some d)
  (h:∀h',FlyD base (env::outer) e C d (rawInt L) h'->s.heap.UpToSlots h'->Q () { s with heap:=h' }) :
  wpAny M A (do let a <-frameOf env;let pl <-entryPlaceOf L hadNext;let b <-EntryCells.newEntry head a .none (rawInt L) .none pl;setField (.ref e) 1 b) Q E s:=by
 have hene:e ∉ (env::outer).filterMap (·.frame):=fun hm=>by
  obtain ⟨_,o,ho,hnf⟩:=hl.mem hm;rw[he]at ho;obtain rfl:=soo ho;exact hnf vs hd
 refine af (wpAny_frameOf_fun hfr hl hf fun h₁ hs₁=>?_);refine af (wpAny_entryPlaceOf fun pl hpl=>?_);unfold EntryCells.newEntry newFields;refine af (wpAny_newObj_type ?_ (hpl.sizeOk5 _ _ _ _ _));have he₁:h₁.get? e=some oe:=(hs₁.2.1 e hene).trans he;have kb₁:base.StaysIn h₁:=fun b o hbo=>(hs₁.2.1 b fun hm=>by exact ag ((hl.mem hm).1.symm.trans hbo)).trans (hkb b o hbo);have he₂:=Heap.get?_push_of_some (h:=h₁) { cls:=.type "traceback",dict:=none,data:=.fields ([head,.ref L,.none,rawInt L,.none]++(if pl.isEmpty then List.replicate 6 Value.none else pl)).toArray } he₁;refine wpAny_setField he₂ hd hsz (h _ ?_ ?_)
 ·have hTe:h₁.objs.size≠e:=Nat.ne_of_gt (Heap.lt_size he₁);have hd₃:=Obj.data_mapFields hd (·.setIfInBounds 1 (Value.ref h₁.objs.size));have he₃:=Heap.get?_update_self (Obj.mapFields (·.setIfInBounds 1 (Value.ref h₁.objs.size))) he₂ (Obj.isFreed_of_fields hd₃);have hT₃:=(Heap.get?_update_other (h₁.push { cls:=.type "traceback",dict:=none,data:=.fields ([head,.ref L,.none,rawInt L,.none]++(if pl.isEmpty then List.replicate 6 Value.none else pl)).toArray })
   (Obj.mapFields (·.setIfInBounds 1 (Value.ref h₁.objs.size))) (Ne.symm hTe)).trans (Heap.get?_push_size h₁ rfl)
  have keep:∀b o,b≠e->h₁.get? b=some o->
    ((h₁.push { cls:=.type "traceback",dict:=none,data:=.fields ([head,.ref L,.none,rawInt L,.none]++(if pl.isEmpty then List.replicate 6 Value.none else pl)).toArray }).update e (Obj.mapFields (·.setIfInBounds 1 (Value.ref h₁.objs.size)))).get? b=some o:=
   fun b o hbe hb=>by
    rw[Heap.get?_update_other _ _ (Ne.symm hbe)];exact Heap.get?_push_of_some _ hb
  have noRecord:∀b o,s.heap.get? b=some o->(∀vs,o.data≠.fields vs)->b≠e:=fun b o hb hnf q=>by
   rw[q,he]at hb;obtain rfl:=soo hb;exact hnf vs hd
  refine ⟨fun b o hbo=>keep b o (fun q=>by rw[q]at hbo;exact ag (hen.symm.trans hbo)) (kb₁ b o hbo),hen,hl.of_keeps fun b o hb hnf=>?_,?_⟩
  ·refine av (hs₁.2.2 b o hb) fun sl hs=>?_;exact ⟨_,keep b _ (noRecord b o hb hnf) hs,rfl⟩
  ·exact ⟨_,_,h₁.objs.size,_,_,he₃,(Obj.cls_mapFields _ _).trans hc,(j7 _ _).trans hdd,hd₃,by simp [hsz],kb₁.fresh,hTe,hT₃,rfl,by first|(simp;done)|(rcases hpl with rfl|⟨_,_,_,_,_,_,_,rfl⟩<;>simp)⟩
 ·intro b o hb hnf;have hbe:b≠e:=fun q=>by rw[q,he]at hb;obtain rfl:=soo hb;exact hnf vs hd
  refine av (hs₁.2.2 b o hb) fun sl hs=>?_;refine ⟨sl,?_⟩;rw[Heap.get?_update_other _ _ (Ne.symm hbe)];exact Heap.get?_push_of_some _ hs
theorem iJ {l:List Env}{fl:Value}{Q:Unit->Shared->Prop}(x:FlyD base l e C d fl s.heap)
  (h:∀h',FlyD base l e C d .none h'->s.heap.UpToSlots h'->Q () { s with heap:=h' }):wpAny M A (setFlight (.ref e) none) Q E s:=by
 obtain ⟨hkb,hen,hl,oe,vs,T,oT,ts,he,hc,hdd,hd,h1,hnT,hTe,hT,hdT,h3⟩:=x;have hsz3:3 < ts.size:=(Array.getElem?_eq_some_iff.mp h3).1;have other:∀b,b≠T->(s.heap.update T (Obj.mapFields (·.setIfInBounds 3 ((none:Option Addr).elim Value.none fun f=>rawInt f)))).get? b=s.heap.get? b:=
  fun b hb=>Heap.get?_update_other _ _ (Ne.symm hb)
 have noRecord:∀b o,s.heap.get? b=some o->(∀vs,o.data≠.fields vs)->b≠T:=fun b o hb hnf q=>by
  rw[q,hT]at hb;obtain rfl:=soo hb;exact hnf ts hdT
 unfold setFlight;refine af (wpAny_field he hd h1 ?_);rw[if_pos (show (Value.ref T != Value.none)=true from by simp)];refine wpAny_setField hT hdT hsz3 (h _ ⟨fun b o hbo=>(other b fun q=>by rw[q]at hbo;exact ag (hnT.symm.trans hbo)).trans (hkb b o hbo),hen,hl.of_keeps fun b o hb hnf=>⟨o,(other b (noRecord b o hb hnf)).trans hb,rfl⟩,?_⟩
  fun b o hb hnf=>⟨o.slots,(other b (noRecord b o hb hnf)).trans hb⟩)
 exact ⟨oe,vs,T,_,_,(other e (Ne.symm hTe)).trans he,hc,hdd,hd,h1,hnT,hTe,Heap.get?_update_self _ hT (Obj.isFreed_of_fields (Obj.data_mapFields hdT _)),Obj.data_mapFields hdT _,by simp [hsz3]⟩
theorem yA {Q:Unit->Shared->Prop}(hfr:A.frames=some (env::outer))(hf:env.frame=some L)(x:FlyD base (env::outer) e C d .none s.heap)
  (h:∀h',FlyD base (env::outer) e C d (rawInt L) h'->s.heap.UpToSlots h'->Q () { s with heap:=h' }):wpAny M A (noteFrame (.ref e) env) Q E s:=by
 obtain ⟨hkb,hen,hl,oe,vs,T,oT,ts,he,hc,hdd,hd,h1,hnT,hTe,hT,hdT,h3⟩:=x;unfold noteFrame;simp only[hf];refine af (wpAny_field he hd h1 ?_);rw[if_pos (show (Value.ref T != Value.none)=true from by simp)];refine af (wpAny_field hT hdT h3 ?_);rw[if_neg (show ¬ ((Value.none==rawInt L)=true) from by simp [rawInt])];refine af (wpAny_setField hT hdT (Array.getElem?_eq_some_iff.mp h3).1 ?_);have other:∀b,b≠T->(s.heap.update T (Obj.mapFields (·.setIfInBounds 3 Value.none))).get? b=s.heap.get? b:=fun b hb=>Heap.get?_update_other _ _ (Ne.symm hb);have noRecord:∀b o,s.heap.get? b=some o->(∀vs,o.data≠.fields vs)->b≠T:=fun b o hb hnf q=>by
  rw[q,hT]at hb;obtain rfl:=soo hb;exact hnf ts hdT
 refine tq hfr (hl.of_keeps fun b o hb hnf=>⟨o,(other b (noRecord b o hb hnf)).trans hb,rfl⟩) hf ((other e (Ne.symm hTe)).trans he)
  (fun b o hbo=>(other b fun q=>by rw[q]at hbo;exact ag (hnT.symm.trans hbo)).trans (hkb b o hbo)) hen hd (Array.getElem?_eq_some_iff.mp h1).1 hc hdd
  fun h' x1 x2=>h h' x1 fun b o hb hnf=>x2 b o ((other b (noRecord b o hb hnf)).trans hb) hnf
theorem AJ {oe:Obj}{vs:Array Value}{Q:Unit->Shared->Prop}(hfr:A.frames=some (env::outer))(hl:s.heap.FunFrames base (env::outer))(hf:env.frame=some L)
  (he:s.heap.get? e=some oe) (hkb:base.StaysIn s.heap) (hen:base.get? e=none) (hd:oe.data=.fields vs) (h1:vs[1]? = some .none) (hc:oe.cls=.ref C) (hdd:oe.dict=some d)
  (h:∀h',FlyD base (env::outer) e C d (rawInt L) h'->s.heap.UpToSlots h'->Q () { s with heap:=h' }):wpAny M A (noteFrame (.ref e) env) Q E s:=by
 unfold noteFrame;simp only[hf];refine af (wpAny_field he hd h1 ?_);rw[if_neg (by decide)];exact tq hfr hl hf he hkb hen hd (Array.getElem?_eq_some_iff.mp h1).1 hc hdd h
theorem FlyD.less {env:Env}{l:List Env}{fl:Value}{h:Heap}(x:FlyD base (env::l) e C d fl h):FlyD base l e C d fl h:=⟨x.1,x.2.1,x.2.2.1.2.2,x.2.2.2⟩
theorem AK {Q:Unit->Shared->Prop}(hfr:A.frames=some (env::outer))(hf:env.frame=some L)(x:FlyD base (env::outer) e C d .none s.heap)
  (h:∀h',FlyD base outer e C d .none h'->s.heap.UpToSlots h'->Q () { s with heap:=h' }):wpAny M A (leaving env (.ref e)) Q E s:=by
 unfold leaving;refine af (yA hfr hf x fun h₁ x₁ u₁=>?_);exact iJ x₁ fun h₂ x₂ u₂=>h h₂ x₂.less (u₁.trans u₂)
theorem wN {oe:Obj}{vs:Array Value}{Q:Unit->Shared->Prop}(hfr:A.frames=some (env::outer))(hl:s.heap.FunFrames base (env::outer))(hf:env.frame=some L)
  (he:s.heap.get? e=some oe) (hkb:base.StaysIn s.heap) (hen:base.get? e=none) (hd:oe.data=.fields vs) (h1:vs[1]? = some .none) (hc:oe.cls=.ref C) (hdd:oe.dict=some d)
  (h:∀h',FlyD base outer e C d .none h'->s.heap.UpToSlots h'->Q () { s with heap:=h' }):wpAny M A (leaving env (.ref e)) Q E s:=by
 unfold leaving;refine af (AJ hfr hl hf he hkb hen hd h1 hc hdd fun h₁ x₁ u₁=>?_);exact iJ x₁ fun h₂ x₂ u₂=>h h₂ x₂.less (u₁.trans u₂)
end
end
structure AL (d:Dx) (V:Vl) (σ:ST) (s:Shared) (e:Addr) (i:Nat) (m:Str->Option Value) (news:L2) (G B:Heap) (C dd j n:Nat) (fs:List (Str×AV)):Prop where
 F:Fr d.h₀ d.f.L G m
 up:G.UpToSlots s.heap
 sB:d.base.StaysIn B
 hB:∀b o,G.get? b=some o->b ∉ (d.f.env::d.outer).filterMap (·.frame)->B.get? b=some o
 hl:∀q∈news,B.get? q.1=some q.2/\G.get? q.1=none/\d.base.get? q.1=none
 fd:FlyD B (d.f.env::d.outer) e C dd .none s.heap
 lk:aa σ.os i=some (.xdc C j n fs)
 δ:V.δ j=some dd
 D:Led d.w V d.tb.flds d.tl σ.os news
 nd:(news.map (·.1)).Nodup
structure Fly (d:Dx) (V:Vl) (σ:ST) (s:Shared) (e:Addr) (i:Nat):Prop where
 c:Cx d
 v:Vx V σ.nx
 ex:∃m news G B C dd j n fs,AL d V σ s e i m news G B C dd j n fs
def FlyB (d:Dx) (V:Vl) (σ:ST) (s:Shared) (e:Addr) (i:Nat):Prop:=
 Fly d V σ s e i\/∃σ₁ fr C j n fs,At d V fr σ₁ s/\aa σ₁.os i=some (.exd C true j n fs)/\V.ρ i=some e/\σ=⟨bf σ₁.os i (.xdc C j n fs),σ₁.nx⟩
def TX (Y:Dx->Vl->ST->Shared->Addr->Nat->Prop) (d:Dx) (V:Vl) (fr:AF) (σ:ST) {β:Type} (t:Sem β) (i:Nat) (σ':ST):Prop:=∀s (Q:β->Shared->Prop) E,At d V fr σ s->
 (∀e h tk W,V.le W->Y d W σ' (Shared.to s h tk) e i->E (.ref e) (Shared.to s h tk))->wpAny d.M d.A t Q E s
abbrev XBT:=List Stmt->AF->ST->R Nat
abbrev XET:=Expr->AF->ST->R Nat
abbrev XCT:=Addr->List AV->ST->R Nat
def XB (tb:Tb) (n:Nat) (xb:XBT):Prop:=∀{b fr σ i σ'},xb b fr σ=.ok i σ'->∀{d V},d.tb=tb->Room d.A n->TX FlyB d V fr σ (execs b d.ev) i σ'
def XE (tb:Tb) (n:Nat) (xe:XET):Prop:=∀{x fr σ i σ'},xe x fr σ=.ok i σ'->∀{d V},d.tb=tb->Room d.A n->TX Fly d V fr σ (eval x d.ev) i σ'
def TCX (d:Dx) (V:Vl) (fr:AF) (σ:ST) (g:Addr) (us:List Value) (i:Nat) (σ':ST):Prop:=∀s R,At d V fr σ s->
 (∀e h tk W,V.le W->Fly d W σ' (Shared.to s h tk) e i->R (.error (.ref e)) (Shared.to s h tk))->codeAny d.M d.A (.call (.ref g) ⟨us,[]⟩) R s
def XC (tb:Tb) (n:Nat) (xc:XCT):Prop:=∀{g vs σ i σ'},xc g vs σ=.ok i σ'->∀{d V fr us},d.tb=tb->Room d.A n->Dens V vs us->TCX d V fr σ g us i σ'
def xcS (tb:Tb) (xb:XBT) (g:Addr) (vs:List AV) (σ:ST):R Nat:=enR tb g vs σ fun fi fr σ₁=>xb fi.body fr σ₁
def xeM (tb:Tb) (ex:EX) (xc:XCT) (o:Expr) (x:Str) (as:List Expr) (ap pos:Pos) (fr:AF) (σ:ST):R Nat:=gd (jV o as ap pos) ((ex o fr σ).bind fun u σ₁=>eF u σ₁ fun zz C zz zz=>aE (aa tb.cls C) fun c=>aE (aw c.ms x) fun fI=>
 (evs ex as fr σ₁).bind fun vs σ₂=>xc fI (u::vs) σ₂)
def xeF (tb:Tb) (ex:EX) (xc:XCT) (g:Expr) (as:List Expr) (fr:AF) (σ:ST):R Nat:=gd (jl g) ((ex g fr σ).bind fun u σ₁=>lH u fun a=>aE (aa tb.fns a) fun zz=>(evs ex as fr σ₁).bind fun vs σ₂=>xc a vs σ₂)
def xeS (tb:Tb) (ex:EX) (xc:XCT) (x:Expr) (fr:AF) (σ:ST):R Nat:=match x with
 |.Call g as kw pos=>match kw with
  |[]=>match g with
   |.Attribute o x ap=>xeM tb ex xc o x as ap pos fr σ
   |g=>xeF tb ex xc g as fr σ
  |_=>.no
 |_=>.no
def raA (tb:Tb) (v:AV) (σ:ST):R Nat:=eE v σ fun i o=>match o with
 |.exd C fr j n fs=>gd fr (aE (aa tb.exs C) fun zz=>.ok i ⟨bf σ.os i (.xdc C j n fs),σ.nx⟩)
 |_=>.no
def x1S (tb:Tb) (xe:XET) (ex:EX) (ts:TS) (xb:XBT) (s:Stmt) (fr:AF) (σ:ST):R Nat:=match s with
 |.Expr e _=>gd (fL e) (xe e fr σ)
 |.Return o _=>aE o fun e=>xe e fr σ
 |.Raise o c _=>match c with
  |none=>aE o fun e=>(ex e fr σ).bind fun v σ₁=>raA tb v σ₁
  |_=>.no
 |.If t b o _=>(ts t fr σ).bind fun c σ₁=>itR c (xb b fr σ₁) (xb o fr σ₁)
 |_=>.no
def xbS (tb:Tb) (xe:XET) (ex:EX) (ts:TS) (st:SS) (xb:XBT):XBT
 |[],_,_=>.no
 |s::r,fr,σ=>(x1S tb xe ex ts xb s fr σ).or ((st s fr σ).bind fun p σ'=>gd (cf p.1) (xbS tb xe ex ts st xb r p.2 σ'))
section
variable {d:Dx}{V W:Vl}{fr fr':AF}{σ σ':ST}{s:Shared}{E:Value->Shared->Prop}{β γ:Type}
theorem jm {g h:Heap}{f':Fx}{m:Str->Option Value}{b:Addr}{o:Obj}{l:List Env}(F:Fr g f'.L h m)(hf':f'.env.frame=some f'.L)(e:g.get? b=some o)(nm:b ∉ l.filterMap (·.frame)):b ∉ (f'.env::l).filterMap (·.frame):=fun hm'=>by
 refine aj (List.mem_filterMap.mp hm') fun env he hfr=>?_;rcases aG he with rfl|he
 ·obtain rfl:f'.L=b:=soo (hf'.symm.trans hfr);exact ag ((kts_self F).symm.trans e)
 ·exact nm (List.mem_filterMap.mpr ⟨env,he,hfr⟩)
theorem Fly.k {e:Addr}{i:Nat}(x:Fly d V σ s e i){G₀:Prop}(f:∀m news G B C dd j n fs,AL d V σ s e i m news G B C dd j n fs->G₀):G₀:=by
 obtain ⟨m,news,G,B,C,dd,j,n,fs,y⟩:=x.ex;exact f m news G B C dd j n fs y
theorem Fly.leave {f':Fx}{g:Heap}{e:Addr}{i:Nat}{m:Str->Option Value}{Q:Unit->Shared->Prop}(x:Fly (d.call f' g) V σ s e i)(c:Cx d)(F:Fr d.h₀ d.f.L g m)(hf':f'.env.frame=some f'.L)
  (k:∀h',Fly d V σ { s with heap:=h' } e i->Q () { s with heap:=h' }):wpAny d.M (d.call f' g).A (leaving f'.env (.ref e)) Q E s:=by
 refine x.k fun m' news G B C dd j n fs y=>?_;exact AK x.c.hA hf' y.fd fun h' fd' up'=>k h' ⟨c,x.v,m,news,g,B,C,dd,j,n,fs,F,(Heap.UpToSlots.of_keeps y.F.keep).trans (y.up.trans up'),y.sB,fun b o e hm=>y.hB b o (y.F.keep b o e) (jm y.F hf' e hm),
  fun q hq=>⟨(y.hl q hq).1,kts_none y.F.keep (y.hl q hq).2.1,(y.hl q hq).2.2⟩,fd',y.lk,y.δ,y.D,y.nd⟩
theorem eS {i:Nat}{o o':AO}:∀{l:List (Nat×AO)},aa l i=some o->aa (bf l i o') i=some o'
 |[]=>fun h=>ag h
 |p::r=>fun h=>by
  rw[aM]at h;rw[bv];by_cases q:p.1=i
  ·rw[if_pos q,aM,if_pos rfl]
  ·rw[if_neg q]at h ⊢;rw[aM,if_neg q];exact eS h
theorem tu {pre post:L2}{p:Addr×Obj}(nd:((pre++p::post).map (·.1)).Nodup):((pre++post).map (·.1)).Nodup/\∀q∈pre++post,q.1≠p.1:=by
 have e:(pre++p::post).Perm (p::(pre++post)):=List.perm_middle;have nd:=(e.map (·.1)).nodup_iff.mp nd;rw[List.map_cons,List.nodup_cons]at nd;exact ⟨nd.2,fun q hq z=>nd.1 (z▸cP hq)⟩
theorem At.raised {f':Fx}{g:Heap}{e:Addr}{i j n:Nat}{C:Addr}{fs:List (Str×AV)}{m:Str->Option Value}{Q:Unit->Shared->Prop}(x:At (d.call f' g) V fr σ s)(hi:aa σ.os i=some (.exd C true j n fs))(hρ:V.ρ i=some e)(c:Cx d)(F:Fr d.h₀ d.f.L g m)(hf':f'.env.frame=some f'.L)
  (k:∀h',Fly d V ⟨bf σ.os i (.xdc C j n fs),σ.nx⟩ { s with heap:=h' } e i->Q () { s with heap:=h' }):wpAny d.M (d.call f' g).A (leaving f'.env (.ref e)) Q E s:=by
 refine av x.c.B fun A₁ B₁=>?_;refine x.swapK hi fun m' pre l post X is up=>?_;refine pS is fun x' o dd es kk h1 h2 h3 h4 is'9=>?_;clear is;obtain rfl:=is'9;obtain rfl:=soo (hρ.symm.trans h1);obtain ⟨vs,a0,d1,d2,t,d3,d4⟩:=h3.dat;obtain rfl:=d4 rfl;have K':=pushX B₁ X.F hf' (by exact x.c.hf:f'.env.scope.kind=.function);have hx:=X.N (e,o) (a9 _ (.head _));generalize has:e::(f'.env::d.f.env::d.outer).filterMap (·.frame)=as;have hin:∀env∈(f'.env::d.f.env::d.outer),∀b,env.frame=some b->b∈as:=fun env he b hb=>by rw[<-has];exact .tail _ (List.mem_filterMap.mpr ⟨env,he,hb⟩)
 have hbx:d.base.get? e=none:=fresh_of_stays B₁.stays hx.2.2;have st:d.base.StaysIn (hideAll s.heap as):=fun b o' q=>hideAll_get _ (K'.stays b o' q) fun hm=>by
  rw[<-has]at hm;rcases aG hm with rfl|hm
  ·exact ag (hbx.symm.trans q)
  ·exact ag ((K'.frames.mem hm).1.symm.trans q)
 have sg:∀b o',g.get? b=some o'->b ∉ (d.f.env::d.outer).filterMap (·.frame)->(hideAll s.heap as).get? b=some o':=fun b o' q nm=>hideAll_get _ (X.F.keep b o' q) fun hm=>by
  rw[<-has]at hm;rcases aG hm with rfl|hm
  ·exact ag (hx.2.2.symm.trans q)
  ·exact jm X.F hf' q nm hm
 refine ay (tu (p:=(e,o)) (post:=(dd,dictOf es kk)::post) X.nd) fun nd2 hne=>?_;have hl:∀q∈pre++([(dd,dictOf es kk)]++post),(hideAll s.heap as).get? q.1=some q.2/\g.get? q.1=none/\d.base.get? q.1=none:=fun q hq=>by
  have hN:=X.N q (by
   rcases bn hq with h|h
   ·exact bS _ h
   ·exact a9 _ (.tail _ h))
  refine ⟨hideAll_get _ hN.1 fun hm=>?_,hN.2.2,fresh_of_stays B₁.stays hN.2.2⟩;rw[<-has]at hm;rcases aG hm with hm|hm
  ·exact hne q hq hm
  ·refine aj (List.mem_filterMap.mp hm) fun env he hfr=>?_;rcases aG he with rfl|he
   ·exact hN.2.1 (soo (hfr.symm.trans hf'))
   ·refine aj ((B₁.frames.mem (List.mem_filterMap.mpr ⟨env,he,hfr⟩)).2) fun o' ho' zy=>?_;exact ag (hN.2.2.symm.trans ho')
 refine wN (base:=hideAll s.heap as) x.c.hA (funFrames_hide K'.frames hin) hf' hx.1 (fun b o' q=>of_hideAll _ q) (hideAll_none _ (by rw[<-has];exact .head _)) d1 d3 h3.cls h3.dict fun h' fd' up'=>?_;exact k h' ⟨c,x.v,m,_,g,hideAll s.heap as,C,dd,j,n,fs,F,(Heap.UpToSlots.of_keeps X.F.keep).trans up',st,sg,hl,fd',eS hi,h2,up V (.refl V) _ _ (.xdc h2 h4),nd2⟩
theorem FlyB.leave {f':Fx}{g:Heap}{e:Addr}{i:Nat}{m:Str->Option Value}{Q:Unit->Shared->Prop}(x:FlyB (d.call f' g) V σ s e i)(c:Cx d)(F:Fr d.h₀ d.f.L g m)(hf':f'.env.frame=some f'.L)
  (k:∀h',Fly d V σ { s with heap:=h' } e i->Q () { s with heap:=h' }):wpAny d.M (d.call f' g).A (leaving f'.env (.ref e)) Q E s:=by
 rcases x with x|⟨σ₁,fr,C,j,n,fs,x,hi,hρ,rfl⟩
 ·exact x.leave c F hf' k
 ·exact x.raised hi hρ c F hf' k
theorem EK {tb:Tb}{n:Nat}{xb:XBT}(ih:XB tb n xb):XC tb (n+1) (xcS tb xb):=by
 intro g vs σ i σ' e d V fr us ht rm dv;subst ht;refine Snd.of e (Φ:=fun i σ'=>TCX d V fr σ g us i σ') (Snd.opt fun fi hfi=>Snd.opt fun bs hb=>Snd.gd fun hc=>fun i σ' e s R a P=>a.stK fun m news x=>yc hfi hb hc dv rm a x fun f' g' h₁ tk W zz hf' le rm' FG zz zz a'=>?_);exact ih e (rfl:(d.call f' g').tb=d.tb) rm' _ _ _ a' fun e' h tk' W' le' fl=>fl.leave a.c FG hf' fun h' fl'=>P e' h' tk' W' (le.trans le') fl'
theorem jn {u:Value}{first:List Value}{pos:Pos}{ex:EX}{n:Nat}{es:List Expr}{vs:List AV}{Q:Value->Shared->Prop}(hk:keepIn d.K u=true)(ie:EOk d.tb n ex)(rm:Room d.A n)(h2:evs ex es fr σ=.ok vs σ')(a:At d V fr σ s)
  (g:∀us h tk W,V.le W->Dens W vs us->At d W fr σ' (Shared.to s h tk)->wpAny d.M d.A (call u (first++us)) Q E (Shared.to s h tk)):wpAny d.M d.A (callWith pos u first (backTo pos (starEach es d.ev)) []) Q E s:=by
 have hs:=dS h2;have z:=dT (V:=V) ie rm (pos:=pos) h2 s (fun us s₁=>d.K.In s₁.heap/\wpAny d.M d.A (call u (first++us)) Q E s₁) E a fun us h tk W le ds a₁=>⟨a₁.Xs,g us h tk W le ds a₁⟩
 induction es using aV with
 |nil=>exact callWith_K0 a.Xs hk (fun Γ p hΓ=>(z Γ p hΓ).2 Γ p hΓ)
 |cons e r=>exact callWith_K a.Xs hk z (bG (be hs).1) (cE (be hs).2)
set_option tactic.hygienic true in
theorem EL {tb:Tb}{n:Nat}{ex:EX}{xc:XCT}(ie:EOk tb n ex)(ic:XC tb n xc):XE tb n (xeS tb ex xc):=by
 intro x fr σ i σ' e d V ht rm;subst ht;refine Snd.of e (Φ:=fun i σ'=>TX Fly d V fr σ (eval x d.ev) i σ') ?_
 induction x using bc<;>first|exact Snd.no|skip
 rename_i g as kw pos
 induction kw using aV<;>first|exact Snd.no|skip
 have fn:Snd (xeF d.tb ex xc g as fr σ) fun i σ'=>TX Fly d V fr σ (eval (.Call g as [] pos) d.ev) i σ':=
  Snd.gd fun hg=>Snd.bind fun u σ₁ h1=>Snd.st fun gA hu=>Snd.opt fun fi hfi=>Snd.bind fun vs σ₂ h2=>fun i σ' e s Q E a P=>by
   rw[dU (by induction g using Expr.casesOn<;>first|rfl|exact ak hg)];refine af (ie h1 rfl rm _ _ _ a fun uv h tk W le du a₁=>?_);rw[hu]at du;obtain rfl:=du;exact jn (first:=[]) (a.c.O.fn _ _ hfi).keep ie rm h2 a₁ fun us h' tk' W' le' ds a₂=>wpAny_call (ic e rfl rm ds _ _ a₂ fun e' h'' tk'' W'' le'' fl=>P e' h'' tk'' W'' ((le.trans le').trans le'') fl)
 induction g using bc<;>first|exact fn|skip
 rename_i o x ap;exact Snd.gd fun hf=>Snd.bind fun u σ₁ h1=>Snd.inst fun ii C k fs hv ho=>Snd.opt fun c hc=>Snd.opt fun fI hI=>Snd.bind fun vs σ₂ h2=>fun i σ' e s Q E a P=>
  iZ hf (dS h2) (ie h1 rfl rm _ _ _ a fun uv h tk W le du a₁=>a₁.meth hv ho hc hI du (jn (a.c.O.ms _ _ _ _ hc hI).2.2.2.2 ie rm h2 a₁ fun us h' tk' W' le' ds a₂=>
   wpAny_call (ic e rfl rm (.cons (du.mono le') ds) _ _ a₂ fun e' h'' tk'' W'' le'' fl=>P e' h'' tk'' W'' ((le.trans le').trans le'') fl)))
set_option tactic.hygienic true in
theorem EM {v:AV}{u:Value}(du:Den V v u):Snd (raA d.tb v σ) fun i σ'=>∀s (E:Value->Shared->Prop),At d V fr σ s->(∀e,FlyB d V σ' s e i->E (.ref e) s)->∃a C ob vs bm,u=.ref a/\s.heap.get? a=some ob/\ob.cls=.ref C/\ExCls s.heap C bm/\ob.data=.fields vs/\vs[1]? = some .none/\E (.ref a) s:=
 Snd.ao fun i o hv ho=>by
  induction o using aN<;>first|exact Snd.no|skip
  rename_i C fl j k fs;refine Snd.gd fun hfl=>Snd.opt fun c hc=>Snd.ok fun s E a P=>a.has ho fun l hl g=>?_;subst hfl;rw[hv]at du;refine aj du fun ax hρ du'2=>?_;clear du;obtain rfl:=du'2;refine pS hl fun x' o dd es kk h1 h2 h3 h4 hl'9=>?_;clear hl;obtain rfl:=hl'9;obtain rfl:=soo (hρ.symm.trans h1);obtain ⟨vs,a0,d1,d2,t,d3,d4⟩:=h3.dat;obtain rfl:=d4 rfl;refine av (fX a.Xs (a.c.O.exs.ok _ c.1 c.2 hc).1) fun bm Y=>?_;exact ⟨_,C,o,vs,bm,rfl,g _ (.head _),h3.cls,Y,d1,d3,P _ (.inr ⟨σ,fr,C,j,k,fs,a,ho,hρ,rfl⟩)⟩
set_option tactic.hygienic true in
theorem EN {n:Nat}{xe:XET}{ex:EX}{ts:TS}{xb:XBT}(ixe:XE d.tb n xe)(ie:EOk d.tb n ex)(it:TOk d.tb n ts)(ixb:XB d.tb n xb)(rm:Room d.A n){x:Stmt}:Snd (x1S d.tb xe ex ts xb x fr σ) fun i σ'=>TX FlyB d V fr σ (exec x d.ev) i σ':=by
 induction x using Stmt.casesOn<;>first|exact Snd.no|skip
 case Expr e pos=>
  exact Snd.gd fun hc=>fun i σ' e s Q E a P=>wpAny_Expr_any (ixe e rfl rm _ _ _ a fun e h tk W le fl=>P e h tk W le (.inl fl)) (by unfold interactive;rw[a.c.hk];rfl) (bB hc)
 case Return o pos=>
  exact Snd.opt fun e ho=>fun i σ' q s Q E a P=>ho▸wpAny_Return_some (ixe q rfl rm _ _ _ a fun e h tk W le fl=>P e h tk W le (.inl fl))
 case Raise o c pos=>
  induction c using aF<;>first|exact Snd.no|skip
  exact Snd.opt fun e ho=>Snd.bind fun v σ₁ h1=>fun i σ' q s Q E a P=>ho▸wM a.c.hh (ie h1 rfl rm _ _ _ a fun u h tk W le du a₁=>EM du i σ' q _ _ a₁ fun e fl=>P e h tk W le fl)
 case If t b o pos=>
  refine Snd.bind fun c σ₁ h1=>Snd.it (fun hb i σ' q s Q E a P=>?_) fun hb i σ' q s Q E a P=>?_
  ·exact wpAny_If (it h1 rfl rm _ _ _ a fun u h tk W le hu a₁=>by
    rw[show u=true from hu.trans hb];exact ixb q rfl rm _ _ _ a₁ fun e' h' tk' W' le' fl=>P e' h' tk' W' (le.trans le') fl)
  ·exact wpAny_If (it h1 rfl rm _ _ _ a fun u h tk W le hu a₁=>by
    rw[show u=false from hu.trans hb];exact ixb q rfl rm _ _ _ a₁ fun e' h' tk' W' le' fl=>P e' h' tk' W' (le.trans le') fl)
theorem EO {tb:Tb}{n:Nat}{xe:XET}{ex:EX}{ts:TS}{st:SS}{xb:XBT}(ixe:XE tb n xe)(ie:EOk tb n ex)(it:TOk tb n ts)(is:SOk tb n st)(ixb:XB tb n xb):XB tb n (xbS tb xe ex ts st xb):=by
 intro b
 induction b with
 |nil=>intro fr σ i σ' e;exact cI e
 |cons x b ih=>
  intro fr σ i σ' e d V ht rm;subst ht;refine Snd.of e (Φ:=fun i σ'=>TX FlyB d V fr σ (execs (x::b) d.ev) i σ') (Snd.or (fun i σ' e s Q E a P=>wpAny_execs_cons (EN ixe ie it ixb rm i σ' e s _ E a P)) (Snd.bind fun p σ₁ h1=>Snd.gd fun hn i σ' e s Q E a P=>?_));refine wpAny_execs_cons (is h1 rfl rm _ _ _ a fun l h tk W le dl a₁=>?_);rw[eZ hn]at dl;rw[show l=.next from dl.is];exact ih e rfl rm _ _ _ a₁ fun e' h' tk' W' le' fl=>P e' h' tk' W' (le.trans le') fl
end
theorem vi (K:Frag):findCls K (.type "ValueError") (.type "type") "__init__" = some (.val (.builtin "ValueError.__init__")):=by kernel_rfl
theorem vt:typeOf (.type "ValueError")=pure (.type "type"):=by kernel_rfl
theorem vs:Manifest.isStub "ValueError" = false:=by decide +kernel
noncomputable def yB:Str:=⟨#[95,95,105,110,105,116,95,95]⟩
theorem tv:yB=("__init__" : Str):=by decide +kernel
noncomputable def EP:AV->Bool
 |.ty n=>Nat.beq n 7
 |_=>false
def yC {β:Type} (v:AV) (σ:ST) (k:Nat->Addr->R β):R β:=eE v σ fun i o=>match o with|.ex0 C=>k i C|_=>.no
def EQ (tb:Tb) (ex:EX) (o:Expr) (x:Str) (as:List Expr) (ap pos:Pos) (fr:AF) (σ:ST):R AV:=gd (sq x yB&&jV o as ap pos) ((ex o fr σ).bind fun u σ₁=>gd (EP u) ((evs ex as fr σ₁).bind fun vs σ₂=>on2 vs fun a zz=>yC a σ₂ fun zz C=>aE (aa tb.exs C) fun zz=>.ok .non σ₂))
theorem j8 {i:Nat}{o:AO}:∀{l:List (Nat×AO)},aa l i=some o->bf l i o=l
 |[]=>fun h=>ag h
 |p::r=>fun h=>by
  rw[aM]at h;rw[bv];by_cases q:p.1=i
  ·rw[if_pos q]at h ⊢;obtain rfl:=soo h;subst q;rfl
  ·rw[if_neg q]at h ⊢;rw[j8 h]
section
variable {d:Dx}{V W:Vl}{fr fr':AF}{σ σ':ST}{s:Shared}{E:Value->Shared->Prop}{β γ:Type}
theorem Snd.ex0 {Φ:β->ST->Prop}{v:AV}{k:Nat->Addr->R β}(h:∀i C,v=.obj i->aa σ.os i=some (.ex0 C)->Snd (k i C) Φ):Snd (yC v σ k) Φ:=
 Snd.ao fun i o hv ho=>by induction o using aN<;>first|exact Snd.no|exact h i _ hv ho
theorem ER {v:AV}{i:Nat}{C:Addr}{c:Addr×List Str}{u1 u2:Value}{Q:Value->Shared->Prop}(hv:v=.obj i)(ho:aa σ.os i=some (.ex0 C))(hc:aa d.tb.exs C=some c)(du:Den V v u1)(a:At d V fr σ s)(P:Po d V fr σ s (DE .non) Q) :
  wpAny d.M d.A (call (.builtin "ValueError.__init__") [u1,u2]) Q E s:=a.swapK ho fun m pre l post X is up=>by
 rw[hv]at du;refine aj du fun y hρ du'2=>?_;clear du;obtain rfl:=du'2;obtain ⟨fI,lf⟩:=c;refine bU (a.c.O.exs.ok _ _ _ hc) fun x1 x2 zy=>?_;refine aR is fun zy o h1 h2 is'4=>?_;clear is;obtain rfl:=is'4;obtain rfl:=soo (hρ.symm.trans h1);obtain ⟨vs,b1,d1,d2',t,d3,d4⟩:=h2.dat;have hy:=(X.N (y,o) (a9 _ (.head _))).1;refine vr a.Xs x1 hy h2.cls d1 d2' (by rw[sizeLine_eq];show 1<=_;lia) fun h'' hh=>?_;have off:=cR X.N;refine ay (tu (p:=(y,o)) (post:=post) X.nd) fun zy hne=>?_;refine ay (news_upd (pre:=(s.heap.objs.size,{ cls:=.type "tuple",data:=.seq [u2].toArray })::pre) (d:=y) (o:=o) (o':=Obj.mapFields (·.setIfInBounds 0 (.ref s.heap.objs.size)) o) (f:=Obj.mapFields (·.setIfInBounds 0 (.ref s.heap.objs.size))) (X.F.push _) (News.push X.F X.N { cls:=.type "tuple",data:=.seq [u2].toArray })
  (fun p hp=>(aG hp).elim (fun e=>e▸Nat.ne_of_gt (Heap.lt_size hy)) fun hp=>hne p (bS _ hp)) (fun p hp=>hne p (a9 _ hp)) rfl (Obj.isFreed_of_fields (Obj.data_mapFields d1 _))) fun F2 N2=>?_
 rw[<-hh]at F2 N2;have hsz:0 < vs.size:=(Array.getElem?_eq_some_iff.mp d2').1;have z:=up V (.refl V) _ [(y,Obj.mapFields (·.setIfInBounds 0 (.ref s.heap.objs.size)) o)] (.ex0 h1 ⟨(Obj.cls_mapFields _ _).trans h2.cls,(j7 _ _).trans h2.dict,_,s.heap.objs.size,Obj.data_mapFields d1 _,by simp [hsz],t,by rw[Array.getElem?_setIfInBounds_ne (by decide)];exact d3,d4⟩);rw[j8 ho]at z;exact P .none h'' s.toks V (.refl V) rfl (a.putV X F2 (fun q hq=>N2 q (List.mem_cons_of_mem _ hq)) z (show ((pre++([(y,Obj.mapFields (·.setIfInBounds 0 (.ref s.heap.objs.size)) o)]++post)).map (·.1)).Nodup from f7 X.nd rfl))
set_option tactic.hygienic true in
theorem AM {n:Nat}{ex:EX}(ie:EOk d.tb n ex)(rm:Room d.A n){o:Expr}{x:Str}{as:List Expr}{ap pos:Pos}:Snd (EQ d.tb ex o x as ap pos fr σ) (TE d V fr σ (eval (.Call (.Attribute o x ap) as [] pos) d.ev)):=
 Snd.gd fun hf=>Snd.bind fun u σ₁ h1=>Snd.gd fun hu=>Snd.bind fun vs σ₂ h2 v σ' e s Q E a P=>by
  have hx:=an1 hf;have hf:=an2 hf;obtain rfl:x=("__init__" : Str):=(bh.mp hx).trans tv;refine iZ hf (dS h2) (ie h1 rfl rm _ _ _ a fun uv h tk W le du a₁=>?_)
  induction u using aA<;>first|exact ak hu|skip
  rename_i k;obtain rfl:=aK hu;obtain rfl:=du;refine a₁.stK fun m news X=>?_;show wpAny _ _ (getMethod (.type "ValueError") _ _) _ _ _;refine method_type (K:=d.K) (T:="ValueError") X.F a.c.X vt Nu.Internal.vs (vi d.K) rfl ?_;refine f9 (first:=[]) (D:=DE v) (σ':=σ') (dS h2) (dT (V:=W) ie rm h2) (fun W' us le' ds=>?_) _ _ _ (a₁.tok _) (P.from le);exact Snd.of e (Φ:=TE d W' fr σ₂ (call (.builtin "ValueError.__init__") us)) (Snd.n2 ds fun v1 v2 u1 u2 e q1 q2=>e▸Snd.ex0 fun i C hv ho=>Snd.opt fun c hc=>Snd.ok fun s Q E a P=>ER hv ho hc q1 a P)
end
section
variable {d:Dx}{A₀:Around}{cn:Str}{cs:Scope}{L a:Addr}{ccd:Value}{g:Heap}{outer:List Env}{V:Vl}{σ:ST}{s:Shared}{E:Value->Shared->Prop}
noncomputable abbrev Dx.cat (d:Dx) (A₀:Around) (outer:List Env) (cn:Str) (cs:Scope) (L a:Addr) (ccd:Value) (g:Heap):Dx:={ d with A:=A₀.deeper (envOf cn cs L a ccd),outer:=outer,f:=⟨cn,cs,L,a,ccd,[],none⟩,h₀:=g }
structure Cau (d:Dx) (outer:List Env) (L e:Addr) (g:Heap) (V:Vl) (σ:ST) (C n:Nat) (fs:List (Str×AV)) (nm:Str) (h' g':Heap) (m:Str->Option Value) (news:L2) (oe:Obj) (dd:Addr) (es:List DictEntry) (kk:Nat) (vs:Array Value):Prop where
 T:KtsTurn (outer.filterMap (·.frame)) g g'
 F:Fr g' L h' (fun y=>if y=nm then some (.ref e) else m y)
 N:News g' L h' ((e,oe)::news)
 oc:oe.cls=.ref C
 od:oe.dict=some dd
 oa:oe.data=.fields vs
 md:(dd,dictOf es kk)∈news
 En:Ents V (fs.map (·.1)) n fs es
 D:Led d.w V d.tb.flds d.tl σ.os news
 nd:(news.map (·.1)).Nodup
 X:d.K.In g'
 P:Top d.p d.loose d.mean d.mg d.mb g'
theorem Fly.at {e:Addr}{i C j n:Nat}{fs:List (Str×AV)}(x:Fly d V σ s e i)(hi:aa σ.os i=some (.xdc C j n fs)){G₀:Prop}(f:∀m news G B dd,AL d V σ s e i m news G B C dd j n fs->G₀):G₀:=
 x.k fun m news G B C' dd j' n' fs' y=>by
  have h:=soo (hi.symm.trans y.lk);injection h with e1 e2 e3 e4
  subst e1 e2 e3 e4;exact f m news G B dd y
theorem wO {h base:Heap}{env:Env}{l:List Env}{L:Addr}(x:h.FunFrames base (env::l))(hf:env.frame=some L):base.get? L=none:=by
 refine bU x fun zy x'1 zy=>?_;clear x;refine aR x'1 fun L' zy hf' hn' zy=>?_;clear x'1;obtain rfl:=soo (hf.symm.trans hf');exact hn'
theorem FlyD.ek {B h:Heap}{l:List Env}{e C dd:Addr}{v:Value}(x:FlyD B l e C dd v h){G₀:Prop}(f:∀oe ws,h.get? e=some oe->oe.cls=.ref C->oe.dict=some dd->oe.data=.fields ws->G₀):G₀:=by
 obtain ⟨_,_,_,oe,ws,T,oT,ts,hoe,hoec,hoedd,hoed,_⟩:=x;exact f oe ws hoe hoec hoedd hoed
theorem oU {G B h₅:Heap}{m:Str->Option Value}{G₀:Prop}(K:Below A₀ d.base outer g)(F:Fr g L G m)(hBG:∀b o,G.get? b=some o->b ∉ (envOf cn cs L a ccd::outer).filterMap (·.frame)->B.get? b=some o)(hBh:B.StaysIn h₅)(hsm:G.UpToSlots h₅)
  (f:∀g',KtsTurn (outer.filterMap (·.frame)) g g'->Fr g' L h₅ m->Below A₀ d.base outer g'->G₀):G₀:=let ⟨g',q1,q2,q3⟩:=kts_ground K F hBG hBh hsm;f g' q1 q2 q3
theorem nI {M:Model}{A:Around}{C dd e:Addr}{g₅ B:Heap}{l:List Env}{v:Value}{m:Str->Option Value}{Q:Bool->Shared->Prop}(hC:jF d.K C=true)(X:d.K.In g₅)(F:Fr g₅ L s.heap m)(x:FlyD B l e C dd v s.heap)(q:Q true s):wpAny M A (excMatches (.ref e) (.ref C)) Q E s:=by
 refine av (fX X hC) fun bm Y=>?_;exact Y.k fun nm qn N bs hdct sn sub ab col dc k0 k1 k2 k3 k5 hCo=>x.ek fun oe ws h1 h2 zz zz=>wpAny_excMatches_sub_self (F.keep _ _ hCo) h1 h2 Y.hb q
theorem AN {G h₆:Heap}{e:Addr}{oe:Obj}{ws:Array Value}{m:Str->Option Value}(K₀:Below A₀ d.base outer g)(F:Fr g L G m)(up:G.UpToSlots h₆)(hoe:h₆.get? e=some oe)(hoed:oe.data=.fields ws):∀o,g.get? e=some o->e ∉ outer.filterMap (·.frame):=fun o ho hm=>by
 obtain ⟨_,o',ho',hd⟩:=K₀.frames.mem hm;obtain rfl:=soo (ho.symm.trans ho');refine av (up _ _ (F.keep _ _ ho) hd) fun sl hs=>?_;obtain rfl:=soo (hoe.symm.trans hs);exact hd _ hoed
theorem ES {i C j n:Nat}{dd:Addr}{fs:List (Str×AV)}{news:L2}(D:Led d.w V d.tb.flds d.tl σ.os news)(hi:aa σ.os i=some (.xdc C j n fs))(hδ:V.δ j=some dd){G₀:Prop}(f:∀es kk,(dd,dictOf es kk)∈news->Ents V (fs.map (·.1)) n fs es->G₀):G₀:=by
 refine aj (D.mem hi) fun l is hm=>?_;refine bu is fun d' es kk h1 h2 is'5=>?_;clear is;obtain rfl:=is'5;obtain rfl:=soo (hδ.symm.trans h1);exact f es kk (hm _ (.head _)) h2
theorem Fly.caught {e:Addr}{i C j n:Nat}{fs:List (Str×AV)}{xn nm:Str}{b₀:Stmt}{suite:List Stmt}{rest:List ExceptHandler}{np pos:Pos}{Q:Flow->Shared->Prop}
  (x:Fly (d.cat A₀ outer cn cs L a ccd g) V σ s e i) (K₀:Below A₀ d.base outer g) (hi:aa σ.os i=some (.xdc C j n fs)) (XB:d.K.In d.base) (TB:Top d.p d.loose d.mean d.mg d.mb d.base)
  (ex:nsIn d.K mainGlobals xn=some (some (.ref C))) (hC:jF d.K C=true)
  (k:∀h' g' tk m news oe dd es kk vs,Cau d outer L e g V σ C n fs nm h' g' m news oe dd es kk vs->Below A₀ d.base outer g'->∀E',
   wpAny d.M ((A₀.deeper (envOf cn cs L a ccd)).mark (some (.ref e))) (execs (b₀::suite) (envOf cn cs L a ccd))
    (fun f s₄=>wpAny d.M (A₀.deeper (envOf cn cs L a ccd)) (do bindName (envOf cn cs L a ccd) nm .none;unbindBehindTheSuite (envOf cn cs L a ccd) nm pos) (fun zz s₅=>Q f s₅) E s₄) E' (Shared.to s h' tk))
  (hk:cs.kind=.function) (hlo:(envOf cn cs L a ccd).kindOf nm=some .local) (hx:(envOf cn cs L a ccd).kindOf xn=some .globalImplicit) (hd:(xn==("__debug__" : Str))=false) :
  wpAny d.M (A₀.deeper (envOf cn cs L a ccd)) (noteFrame (.ref e) (envOf cn cs L a ccd))
   (fun zz s₂=>wpAny d.M (A₀.deeper (envOf cn cs L a ccd)) (setFlight (.ref e) none) (fun zz s₃=>
    wpAny d.M (A₀.deeper (envOf cn cs L a ccd)) (handleBy (.ref e) (envOf cn cs L a ccd) (.ExceptHandler (some (.Name xn np)) (some nm) (b₀::suite) pos::rest)) Q E s₃) E s₂) E s:=by
 refine x.at hi fun m news G B dd y=>?_;obtain ⟨F,hsm,hB,hBG,hl,fd,_,hδ,D,nd⟩:=y;have hL:B.get? L=none:=wO fd.2.2.1 rfl;refine yA (Around.frames_deeper K₀.stack) rfl fd fun h₄ fd₄ hsm₄=>iJ fd₄ fun h₅ fd₅ hsm₅'=>?_;have hsm₅:=hsm₄.trans hsm₅';refine oU K₀ F hBG fd₅.1 (hsm.trans hsm₅) fun g₅ T₅ F₅ K₅=>?_;have X₅:d.K.In g₅:=XB.keeps K₅.stays;refine wpAny_handleBy_cons (codeAny_handlers_test (name_K F₅ X₅ (topRead_of (TB.keeps K₅.stays)) ex (nI hC X₅ F₅ fd₅ (codeAny_handlers_suite_as ?_)) hk hx hd)) (fun q=>nomatch q);refine iJ fd₅ fun h₆ fd₆ hsm₆=>oU K₀ F hBG fd₆.1 ((hsm.trans hsm₅).trans hsm₆) fun g₆ T₆ F₆ K₆=>fd₆.ek fun oe ws hoe hoec hoedd hoed=>?_;have ne₆:g₆.get? e=none:=T₆.none_ _ (kts_fresh F hBG fd₆.2.1 (AN K₀ F ((hsm.trans hsm₅).trans hsm₆) hoe hoed));have N₆:=News.more F₆ News.nil hoe (fun es n q=>by rw[hoed]at q;exact nomatch q) ne₆;have Nl:News g₆ L h₆ news:=fun q hq=>⟨fd₆.1 _ _ (hl q hq).1,(fun z=>ag (hL.symm.trans (z▸(hl q hq).1))),T₆.none_ _ (kts_none F.keep (hl q hq).2.1)⟩
 refine ES D hi hδ fun es kk hm h2=>?_;refine PyProof.Rows.stN F₆ (news:=(e,oe)::news) (fun q hq=>(aG hq).elim (fun z=>z▸N₆ _ (.head _)) fun hq=>Nl q hq) (fun h₇ F₇ N₇=>?_) hk hlo;exact k h₇ g₆ _ m news oe dd es kk ws ⟨T₆,F₇,N₇,hoec,hoedd,hoed,hm,h2,D,nd,XB.keeps K₆.stays,TB.keeps K₆.stays⟩ K₆ _
end
structure kQ where
 dn:Str
 xn:Str
 en:Str
 f1:Str
 f2:Str
 f3:Str
 sx:Str
structure AP (r:kQ) (b:List Stmt):Prop where
 ex:∃p1 p2 p3 p4 p5 p6 p7 p8 p9 p10 p11 p12 p13 u x,b=[.Try [.Expr (.Call (.Name r.dn p1) [] [] p2) p3] [.ExceptHandler (some (.Name r.xn p4)) (some r.en) [.Return (some (.Compare (.Attribute (.Attribute (.Attribute (.Name r.en p5) r.f1 p6) r.f2 p7) r.f3 p8) [.Eq] [.Constant (.str r.sx) u p9] p10)) p11] p12] [] [] p13,x]
def yD {β:Type} (i:Nat) (σ:ST) (k:Addr->Nat->Nat->List (Str×AV)->R β):R β:=aE (aa σ.os i) fun o=>match o with|.xdc C j n fs=>k C j n fs|_=>.no
def wP (r:kQ) (C i:Nat) (σ:ST):R AV:=yD i σ fun C' zz zz fs=>gd (Nat.beq C C') (aE (aw fs r.f1) fun t=>eF t σ fun zz zz zz ft=>aE (aw ft r.f2) fun o=>eF o σ fun zz zz zz fo=>aE (aw fo r.f3) fun x=>cQ x fun l=>.ok (.boo (sq ⟨l.toArray⟩ r.sx)) σ)
def ET (xe:XET) (r:kQ) (C j:Nat) (σ:ST):R AV:=td j σ fun lm cs=>(xe lm.body ⟨lm.scope,[],cs,none,none⟩ σ).bind fun i σ'=>wP r C i σ'
section
variable {d:Dx}{V W:Vl}{fr fr':AF}{σ σ':ST}{s:Shared}{E:Value->Shared->Prop}{β γ:Type}
theorem Snd.xdc {Φ:β->ST->Prop}{i:Nat}{k:Addr->Nat->Nat->List (Str×AV)->R β}(h:∀C j n fs,aa σ.os i=some (.xdc C j n fs)->Snd (k C j n fs) Φ):Snd (yD i σ k) Φ:=Snd.opt fun o ho=>by induction o using aN<;>first|exact Snd.no|exact h _ _ _ _ ho
theorem tw {r:kQ}{C i:Nat}:Snd (wP r C i σ) fun zz zz=>∃j n fs,aa σ.os i=some (.xdc C j n fs):=
 Snd.xdc fun C' j n fs h=>Snd.gd fun hb=>fun zz zz zz=>⟨j,n,fs,by rw[Nat.eq_of_beq_eq_true hb];exact h⟩
set_option tactic.hygienic true in
theorem tz {x:Str}{es:List DictEntry}{u:Value}{fl:List Str}{n:Nat}{fs:List (Str×AV)}(E:Ents V fl n fs es)(g:getL x es=some (some u)):x∈fl:=by
 unfold getL at g
 split at g
 ·rename_i en hen;refine aI (E.keys en (List.mem_of_find?_eq_some hen)) fun z t hz hzf=>?_;have:=List.find?_some hen;rw[eV hz]at this;rw[<-of_decide_eq_true this];exact hzf
 ·split at g
  ·exact ag g
  ·exact ag (soo g)
theorem wQ (a b:Str):(a==b)=sq a b:=by
 generalize h:sq a b=x';induction x' using aH with
 |true=>rw[bh.mp h];exact beq_self_eq_true _
 |false=>exact gI h
theorem tA {m:Str->Option Value}{news:L2}{g:Heap}{L:Addr}{x:Str}{v v':AV}{i:Nat}{C:Addr}{n:Nat}{fs:List (Str×AV)}{u:Value}{Q:Value->Shared->Prop}(O:dB d.w d.K d.tb)(F:Fr g L s.heap m)(X:d.K.In g)(N:News g L s.heap news)(D:Led d.w V d.tb.flds d.tl σ.os news)
  (hv:v=.obj i) (ho:aa σ.os i=some (.inst C n fs)) (hx:aw fs x=some v') (hfl:y7 v'=true) (du:Den V v u) (P:∀u' tk,Den V v' u'->Q u' { s with toks:=tk }):wpAny d.M d.A (getAttr u x true) Q E s:=by
 rw[hv]at du;refine aj du fun a hρ du'2=>?_;clear du;obtain rfl:=du'2;refine aj (D.mem ho) fun l is hm=>?_;refine iS is fun y dx es k e1 e2 e3 is'7=>?_;clear is;obtain rfl:=is'7;obtain rfl:=soo (hρ.symm.trans e1);refine aj (e3.known _ _ hx) fun u' g2 du'=>?_;obtain ⟨q1,q2,⟨at1,q3,q4⟩,_⟩:=O.fld C x (tz e3 g2);exact get_own F X (InstAt.of_news N (hm _ (.head _)) (hm _ (.tail _ (.head _)))) q1 q2 q3 q4 g2 (eC hfl du') (P u' _ du')
theorem wR (O:dB d.w d.K d.tb){outer:List Env}{r:kQ}{g:Heap}{C i j n:Nat}{fs:List (Str×AV)}{L a:Addr}{cn:Str}{cs:Scope}{ccd:Value}{h':Heap}{g':Heap}{m:Str->Option Value}{news:L2}{e dd:Addr}{oe:Obj}{es:List DictEntry}{kk:Nat}{vs:Array Value}{l:List Str}{fI:Addr}{A:Around}{p1 p2 p3 p4 p5 p6:Pos}{u tk:Nat}
  (hi:aa σ.os i=some (.xdc C j n fs)) (q:Cau d outer L e g V σ C n fs r.en h' g' m news oe dd es kk vs) (hx:aa d.tb.exs C=some (fI,l)) (hf1:r.f1∈l) (hk:cs.kind=.function) (hlo:(envOf cn cs L a ccd).kindOf r.en=some .local) (hdb:(r.en==("__debug__" : Str))=false) :
  Snd (wP r C i σ) fun v σ'=>∀Q E,(∀tk,σ'=σ->∀b,v=.boo b->Q (.bool b) (Shared.to s h' tk))->wpAny d.M A (eval (.Compare (.Attribute (.Attribute (.Attribute (.Name r.en p1) r.f1 p2) r.f2 p3) r.f3 p4) [.Eq] [.Constant (.str r.sx) u p5] p6) (envOf cn cs L a ccd)) Q E (Shared.to s h' tk):=
 Snd.xdc fun C' j' n' fs' hi'=>Snd.gd fun hb=>Snd.opt fun t h2=>Snd.inst fun i1 CE nE ft hv1 h3=>Snd.opt fun o h4=>Snd.inst fun i2 CM nM fo hv2 h5=>Snd.opt fun x h6=>Snd.str fun lx hv3=>Snd.ok fun Q E P=>by
  have hi2:=soo (hi.symm.trans hi');injection hi2 with e1 e2 e3 e4
  subst e1 e2 e3 e4;refine vh (O.exs.ok _ _ _ hx) fun x1 x2 x3 x4 x5 x6 x7=>?_;refine aj (q.En.known _ _ h2) fun u1 g1 d1=>?_;have N':News g' L h' news:=fun z hz=>q.N z (.tail _ hz);refine wpAny_Compare1 ?_ rfl;refine Attribute_any_ (Attribute_any_ (Attribute_any_ (nameX_L q.F (by show (if r.en=r.en then _ else _)=_;exact if_pos rfl) ?_ hk hlo hdb)));have IE:InstAt h' e oe C (some (dictOf es kk)):=⟨(q.N _ (.head _)).1,q.oc,by unfold notCls;rw[q.oa],by rw[q.od];exact (N' _ q.md).1⟩
  refine DK (q.X.keeps q.F.keep) IE x3 (x7 _ hf1).2 g1 (eC (by rw[hv1];rfl) d1) ?_;refine tA (d:={ d with A:=A }) (s:=Shared.to s h' _) O q.F q.X N' q.D hv1 h3 h4 (by rw[hv2];rfl) d1 fun u2 tk2 d2=>?_;refine tA (d:={ d with A:=A }) (s:=Shared.to s h' _) O q.F q.X N' q.D hv2 h5 h6 (by rw[hv3];rfl) d2 fun u3 tk3 d3=>?_;refine av (d3.str hv3) fun t3 z'1=>?_;obtain rfl:=z'1;rw[eval_Constant];exact wpAny_mkText (PyProof.Rows.eq_str (by rw[wQ];exact P _ rfl _ rfl))
theorem wS {n:Nat}{xe:XET}(ie:XE d.tb n xe){i:Nat}{lm:Lm}{cs:List (Str×Nat)}{x:Addr}{m:Str->Option Value}{news:L2}{R:Result->Shared->Prop}{c:Addr}{pm ctv:Value}{cl:List (Str×Addr)}(q:th V s news x lm cs c pm ctv cl)(e:xe lm.body ⟨lm.scope,[],cs,none,none⟩ σ=.ok i σ')
  (a:At d V fr σ s) (X:Sx d V fr σ.os s.heap m news) (rm:Room d.A (n+1)) (P:∀e h tk W,V.le W->Fly d W σ' (Shared.to s h tk) e i->R (.error (.ref e)) (Shared.to s h tk)):codeAny d.M d.A (.call (.ref x) ⟨[],[]⟩) R s:=by
 refine av a.c.B fun A₀ B=>?_;obtain ⟨ps,body,scope,qual⟩:=lm;obtain ⟨q1,q2,q3,q4,q5,hmem,hcz,hcd⟩:=q;dsimp only at q1 q2 q3 q4 q5 hmem hcd e;subst q1;refine ay rm fun r1 r2=>?_;clear rm;refine kla_code (args:=⟨[],[]⟩) (binds:=[]) B X.F a.c.X X.N a.c.T a.c.hA rfl a.c.hf hmem hcd (by lia) rfl (fun y h=>nomatch h) (fun g' L' h₁ FG F' N' B' X' T'=>?_) q2 q3 q4 q5;have a':At (d.call ⟨qual,scope,L',x,.ref c,cl,none⟩ g') V ⟨scope,[],cs,none,none⟩ σ (Shared.to s h₁ s.toks):=
  ⟨⟨a.c.O,⟨d.A,B'⟩,by show d.A.frames.map _=_;rw[a.c.hA];rfl,a.c.hh,a.c.hg,q4,q4,T',X'⟩,⟨trivial,trivial,rfl,fun y i hy=>hcz.look y hy⟩,a.v,_,news,F',N',X.D,X.nd,fun y v' hy=>ag hy⟩
 exact ie (d:=d.call ⟨qual,scope,L',x,.ref c,cl,none⟩ g') e rfl ⟨by show d.A.depth+1+3*n < _;lia,by show d.A.units+3+10*n+10 < _;lia⟩ _ _ _ a' fun e' h tk W le fl=>fl.leave a.c FG rfl fun h' fl'=>P e' h' tk W le fl'
structure yE (d:Dx) (rf:Addr) (fi:FI) (r:kQ) (C:Addr):Prop where
 fn:aa d.tb.fns rf=some fi
 bd:AP r fi.body
 ps:fi.ps=[r.dn]
 df:fi.df=[]
 nc:dD fi.scope.names=true
 ex:∃fI l,aa d.tb.exs C=some (fI,l)/\r.f1∈l
 cl:nsIn d.K mainGlobals r.xn=some (some (.ref C))
 en:fi.scope.names.lookup r.en=some .local/\(r.en==("__debug__" : Str))=false
 dn:fi.scope.names.lookup r.dn=some .local/\(r.dn==("__debug__" : Str))=false
 xn:fi.scope.names.lookup r.xn=some .globalImplicit/\(r.xn==("__debug__" : Str))=false
theorem tB {n:Nat}{xe:XET}(ie:XE d.tb n xe){cn:Str}{cs:Scope}{L' rf:Addr}{cdv:Value}{g':Heap}{r:kQ}{bd:List Stmt}{C i j:Nat}{fI:Addr}{lx:List Str}{x:Addr}{lm:Lm}{ccs:List (Str×Nat)}{v:AV}{σ₁:ST}{m₁:Str->Option Value}{Q:Flow->Shared->Prop}
  (HB:AP r bd) (hcl:nsIn d.K mainGlobals r.xn=some (some (.ref C))) (hen:cs.names.lookup r.en=some .local/\(r.en==("__debug__" : Str))=false) (hdn:cs.names.lookup r.dn=some .local/\(r.dn==("__debug__" : Str))=false) (hxn:cs.names.lookup r.xn=some .globalImplicit/\(r.xn==("__debug__" : Str))=false) (hk:cs.kind=.function)
  (hx:aa d.tb.exs C=some (fI,lx)) (hf1:r.f1∈lx) (hc:∀s x news g L,News g L s.heap news->Led d.w V d.tb.flds d.tl σ.os news->V.ρ j=some x->∃c pm ctv cl,th V s news x lm ccs c pm ctv cl) (hxe:xe lm.body ⟨lm.scope,[],ccs,none,none⟩ σ=.ok i σ₁) (q:wP r C i σ₁=.ok v σ')
  (a:At (d.call ⟨cn,cs,L',rf,cdv,[],none⟩ g') V ⟨cs,[],[],none,none⟩ σ s) (B':Below d.A d.base (d.f.env::d.outer) g') (rm:Room (d.call ⟨cn,cs,L',rf,cdv,[],none⟩ g').A (n+1)) (hρ:V.ρ j=some x) (XB:d.K.In d.base) (TB:Top d.p d.loose d.mean d.mg d.mb d.base) (F':Fr g' L' s.heap m₁) (hm:m₁ r.dn=some (.ref x))
  (k:∀h tk W g₂ m₂ news e oe b,V.le W->KtsTurn ((d.f.env::d.outer).filterMap (·.frame)) g' g₂->Fr g₂ L' h m₂->News g₂ L' h ((e,oe)::news)->Led d.w W d.tb.flds d.tl σ'.os news->(news.map (·.1)).Nodup->Vx W σ'.nx->v=.boo b->Q (.ret (.bool b)) (Shared.to s h tk)) :
  wpAny d.M (d.A.deeper (envOf cn cs L' rf cdv)) (execs bd (envOf cn cs L' rf cdv)) Q E s:=by
 obtain ⟨p1,p2,p3,p4,p5,p6,p7,p8,p9,p10,p11,p12,p13,u,xs,rfl⟩:=HB.ex;refine vk (tw v σ' q) fun jj kn fs hxd=>?_;refine a.stK fun m₂ news₂ X₂=>?_;refine jE (hc s x news₂ _ _ X₂.N X₂.D hρ) fun c₂ pm₂ ctv₂ cl₂ qc₂=>?_;refine wpAny_execs_cons (wpAny_Try_except (wpAny_execs_cons (wpAny_Expr_any ?_ (by unfold interactive;show (_&&_)=false;rw[show (envOf cn cs L' rf cdv).scope.kind=.function from hk];rfl) (bB rfl))));rw[dU rfl];refine af (nameX_L (cl:=[]) F' hm (callWith_F0 (FnAt.of X₂.N qc₂.at_) (wpAny_call (wS (d:=d.call ⟨cn,cs,L',rf,cdv,[],none⟩ g') ie qc₂ hxe a X₂ rm fun e h tk W le fl=>?_))) hk hdn.1 hdn.2);refine Fly.caught (d:=d) (A₀:=d.A) (outer:=d.f.env::d.outer) fl B' hxd XB TB hcl (a.c.O.exs.ok _ _ _ hx).1 (fun h' g'' tk' m' news' oe dd es kk vs qq B'' E'=>?_) hk hen.1 hxn.1 hxn.2;refine wpAny_execs_cons (wpAny_Return_some (wR (d:=d) (L:=L') a.c.O hxd qq hx hf1 hk hen.1 hen.2 v σ' q _ _ fun tk₂ hσ b hv=>?_));subst hσ;exact name_goes qq.F qq.N (fun h₅ m₅ F₅ N₅=>k h₅ _ W g'' m₅ news' e oe b le qq.T F₅ N₅ qq.D qq.nd fl.v hv) hk hen.1
theorem nJ {n:Nat}{xe:XET}(ie:XE d.tb n xe){rf:Addr}{fi:FI}{r:kQ}{C j:Nat}{x:Addr}{R:Result->Shared->Prop}(H:yE d rf fi r C)(a:At d V fr σ s)(hfc:d.f.cl=[])(rm:Room d.A (n+2))(hρ:V.ρ j=some x)(XB:d.K.In d.base)(TB:Top d.p d.loose d.mean d.mg d.mb d.base)(Dk:KtsDicts (d.outer.filterMap (·.frame)) d.h₀) :
  Snd (ET xe r C j σ) fun v σ'=>(∀h tk h₀' W b,V.le W->KtsTurn (d.outer.filterMap (·.frame)) d.h₀ h₀'->At { d with h₀:=h₀' } W fr σ' (Shared.to s h tk)->v=.boo b->R (.ok (.ret (.bool b))) (Shared.to s h tk))->codeAny d.M d.A (.call (.ref rf) ⟨[.ref x],[]⟩) R s:=
 Snd.clo fun lm ccs hc=>Snd.bind fun i σ₁ hxe=>fun v σ' q P=>a.stK fun m news X=>by
  refine av a.c.B fun A₀ B=>?_;have FO:=a.c.O.fn _ _ H.fn;refine FO.k fun oc od dV kV doc pm an cdv ct osl dvs hK hcd hdfs hbind=>?_;have hdv:dvs=[]:=by
   have:=(hdfs V).length;rw[H.df]at this;exact List.eq_nil_of_length_eq_zero this
  have hb:=hbind s [.ref x] a.Xs (by rw[H.ps];exact aP _) (by rw[H.ps,hdv];exact aP _);rw[H.ps,hdv]at hb;refine aI H.ex fun fI lx hx hf1=>?_;refine ay (id rm) fun r1 r2=>?_;have henv:envOf d.f.cn d.f.cs d.f.L d.f.a d.f.ccd=d.f.env:=by unfold Fx.env;rw[hfc];rfl
  refine code_defS (A₀:=A₀) (base:=d.base) (outer:=d.outer) (g₀:=d.h₀) (cn:=d.f.cn) (cs:=d.f.cs) (L:=d.f.L) (a:=d.f.a) (ccd:=d.f.ccd) B X.F a.c.X X.N a.c.T XB TB Dk .refl (by rw[a.c.hA,henv]) hK hcd (by lia) hb (fun y hy=>?_) (fun g' L' h₁ FG F' N' B' X' T' Dk'=>?_) a.c.hf FO.co FO.gen FO.kind (dJ H.nc)
  ·rw[show y=(r.dn,.ref x) by simpa using hy];exact H.dn.1
  ·rw[henv]at B' ⊢;have a₂:At (d.call ⟨fi.qual,fi.scope,L',rf,cdv,[],none⟩ g') V ⟨fi.scope,[],[],none,none⟩ σ (Shared.to s h₁ (s.toks+(([r.dn].zip ([Value.ref x]++List.drop ([Value.ref x].length+([]:List Value).length - [r.dn].length) [])).length))):=
    ⟨⟨a.c.O,⟨d.A,B'⟩,by show d.A.frames.map _=_;rw[a.c.hA];rfl,a.c.hh,a.c.hg,FO.kind,FO.kind,T',X'⟩,⟨trivial,trivial,rfl,fun x i hx=>ag hx⟩,a.v,_,news,F',N',X.D,X.nd,fun x v' hx=>ag hx⟩
   exact tB ie H.bd H.cl H.en H.dn H.xn FO.kind hx hf1 hc hxe q a₂ B' ⟨by show d.A.depth+1+3*(n+1) < _;lia,by show d.A.units+3+10*(n+1)+10 < _;lia⟩ hρ XB TB F' (by show List.lookup r.dn [(r.dn,Value.ref x)]=_;rw[List.lookup_cons,beq_self_eq_true]) fun h tk W g₂ m₂ news' e oe b le Tt F₅ N₅ D₅ nd₅ v₅ hv=>
    leaveS_r F₅ (fun z hz=>N₅ z (.tail _ hz)) Tt fun h₀' Tt' Fk Nk Bk Xk Tk zz=>
     P _ _ h₀' W b le Tt' ⟨⟨a.c.O,⟨A₀,Bk⟩,a.c.hA,a.c.hh,a.c.hg,a.c.hk,a.c.hf,Tk,Xk⟩,⟨a.l.md.mono le,a.l.fa,a.l.sc,(a.l.mono le).cel⟩,v₅,m,news',Fk,Nk,D₅,nd₅,fun z w e=>(X.lc z w e).imp fun u q=>⟨q.1,q.2.mono le⟩⟩ hv
end
structure Cfg where
 tb:Tb
 n0:Nat
 hk:CL
structure Eo where
 ex:EX
 ts:TS
 bl:BL
 cl:CL
 xe:XET
 xb:XBT
 xc:XCT
noncomputable def eo0:Eo:=⟨fun zz zz zz=>.no,fun zz zz zz=>.no,fun zz zz zz=>.no,fun zz zz zz=>.no,fun zz zz zz=>.no,fun zz zz zz=>.no,fun zz zz zz=>.no⟩
def EU (ex:EX) (inn:INN) (l:Expr) (ops:List CmpOp) (rs:List Expr) (fr:AF) (σ:ST):R AV:=match ops with
 |[op]=>match rs with
  |[r]=>vK ex inn l op r fr σ
  |_=>.no
 |_=>.no
def AQ (c:Cfg) (e:Eo) (g:Expr) (as:List Expr) (pos:Pos) (fr:AF) (σ:ST):R AV:=match g with
 |.Attribute o x ap=>(EQ c.tb e.ex o x as ap pos fr σ).or (ye c.tb e.ex e.cl (gmS c.tb) (mcS c.tb) o x as ap pos fr σ)
 |g=>tf c.tb e.ex e.cl (biT c.tb) tyS g as fr σ
def xS (c:Cfg) (e:Eo) (x:Expr) (fr:AF) (σ:ST):R AV:=match x with
 |.Name x _=>rdN c.tb x fr σ
 |.Constant k _ _=>cst k σ
 |.Attribute b x _=>DQ e.ex b x fr σ
 |.Call g as kw pos=>match kw with
  |[]=>AQ c e g as pos fr σ
  |_=>.no
 |.Compare l ops rs _=>EU e.ex (inA c.tb) l ops rs fr σ
 |.BoolOp op es _=>boS e.ex op es fr σ
 |.IfExp t a b _=>ifS e.ex e.ts t a b fr σ
 |.UnaryOp op x _=>unS e.ex op x fr σ
 |.BinOp l op r _=>biE e.ex l op r fr σ
 |.List es _=>vR e.ex .lst es fr σ
 |.Tuple es _ _=>vR e.ex .tup es fr σ
 |.Subscript v s _=>El c.tb e.ex v s fr σ
 |.Dict ks vs _=>match ks with
  |[]=>match vs with
   |[]=>Ex σ
   |_=>.no
  |_=>.no
 |.JoinedStr es _=>jsS e.ex es fr σ
 |.ListComp elt gens scope pos=>EG c.tb e.ex e.ts siS (.ListComp elt gens scope pos) fr σ
 |.Lambda ps b scope pos=>EI c.tb (.Lambda ps b scope pos) fr σ
 |_=>.no
def cS (c:Cfg) (n:Nat) (bl:BL) (g:Addr) (vs:List AV) (σ:ST):R AV:=(gd (Nat.ble c.n0 n) (c.hk g vs σ)).or (clS c.tb bl g vs σ)
def sS (c:Cfg) (e:Eo):SS:=stS c.tb e.ex e.ts e.bl siS (otS c.tb e.ex e.ts e.bl siS)
def stp (c:Cfg) (n:Nat) (e:Eo):Eo where
 ex:=xS c e
 ts:=tsS e.ex e.ts (inA c.tb)
 bl:=rL (sS c e)
 cl:=cS c n e.bl
 xe:=xeS c.tb e.ex e.xc
 xb:=xbS c.tb e.xe e.ex e.ts (sS c e) e.xb
 xc:=xcS c.tb e.xb
def ev (c:Cfg):Nat->Eo
 |0=>eo0
 |n+1=>stp c n (ev c n)
def fG (c:Cfg):Prop:=∀n,c.n0<=n->COk c.tb (n+1) c.hk
structure tC (c:Cfg) (n:Nat) (e:Eo):Prop where
 ex:EOk c.tb n e.ex
 ts:TOk c.tb n e.ts
 bl:BOk c.tb n e.bl
 cl:COk c.tb n e.cl
 xe:XE c.tb n e.xe
 xb:XB c.tb n e.xb
 xc:XC c.tb n e.xc
section
variable {c:Cfg}{tb:Tb}{n m:Nat}
theorem EOk.mono {ex:EX}(h:EOk tb n ex)(l:n<=m):EOk tb m ex:=fun e zz zz ht rm=>h e ht (rm.mono l)
theorem TOk.mono {ts:TS}(h:TOk tb n ts)(l:n<=m):TOk tb m ts:=fun e zz zz ht rm=>h e ht (rm.mono l)
theorem BOk.mono {bl:BL}(h:BOk tb n bl)(l:n<=m):BOk tb m bl:=fun e zz zz ht rm=>h e ht (rm.mono l)
theorem COk.mono {cl:CL}(h:COk tb n cl)(l:n<=m):COk tb m cl:=fun e zz zz zz zz ht rm=>h e ht (rm.mono l)
theorem XE.mono {xe:XET}(h:XE tb n xe)(l:n<=m):XE tb m xe:=fun e zz zz ht rm=>h e ht (rm.mono l)
theorem XB.mono {xb:XBT}(h:XB tb n xb)(l:n<=m):XB tb m xb:=fun e zz zz ht rm=>h e ht (rm.mono l)
theorem AR {d:Dx}{V:Vl}{fr:AF}{σ:ST}{e:Eo}(h:tC c n e)(ht:d.tb=c.tb)(rm:Room d.A (n+1)){g:Expr}{as:List Expr}{pos:Pos}:Snd (AQ c e g as pos fr σ) (TE d V fr σ (eval (.Call g as [] pos) d.ev)):=by
 have s:=er n;have ex:EOk d.tb n e.ex:=ht▸h.ex;have cl:COk d.tb n e.cl:=ht▸h.cl;unfold AQ;rw[<-ht];have ib:gG nmB d.tb (n+1) (biT d.tb):=fun e zz zz zz zz ht rm=>Ah e ht (rm.mono (Nat.le_add_left 1 n));have it:gG nmT d.tb (n+1) tyS:=fun e zz zz zz zz ht rm=>Ez e ht (rm.mono (bD _));have im:gG nmM d.tb (n+1) (mcS d.tb):=fun e zz zz zz zz ht rm=>Ew e ht (rm.mono (bD _));have ex':EOk d.tb (n+1) e.ex:=EOk.mono ex s;have cl':COk d.tb (n+1) e.cl:=COk.mono cl s;have go:Snd (tf d.tb e.ex e.cl (biT d.tb) tyS g as fr σ) (TE d V fr σ (eval (.Call g as [] pos) d.ev)):=tm ex' ex cl ib it rm
 induction g using bc<;>first|exact go|skip
 exact Snd.or (AM ex (rm.mono s)) (vF (n:=n+1) ex' cl' Eu im rm)
set_option tactic.hygienic true in
theorem EW {e:Eo}(h:tC c n e):EOk c.tb (n+1) (xS c e):=by
 intro x fr σ v σ' q d V ht rm;have rn:=rm.mono (er n);have ex:EOk d.tb n e.ex:=ht▸h.ex;have ts:TOk d.tb n e.ts:=ht▸h.ts;refine Snd.of q (Φ:=TE d V fr σ (eval x d.ev)) ?_;unfold xS;rw[<-ht]
 induction x using bc<;>first|exact Snd.no|skip
 case BoolOp=>exact fun v σ' q=>(arm_eval_BoolOp ..)▸yi ex rn v σ' q
 case BinOp=>exact Eg ex rn
 case UnaryOp=>exact D8 ex rn
 case Lambda=>exact wL
 case IfExp=>exact D7 ex ts rn
 case Dict ks vs pos=>
  induction ks using aV<;>first|exact Snd.no|skip
  induction vs using aV<;>first|exact Snd.no|exact wv
 case ListComp=>exact wD ex ts ew rn
 case Compare l ops rs pos=>
  match ops,rs with
  |[],_|_::_::_,_|[_],[]|[_],_::_::_=>exact Snd.no
  |[op],[r]=>exact fun v σ' q s Q E a P=>let z:=oo (V:=V) ex yq rn v σ' q;wpAny_Compare1 (z.2 s Q E a P) z.1
 case Call g as kw pos=>
  induction kw using aV<;>first|exact Snd.no|exact AR h ht rm
 case JoinedStr=>exact EH ex rn
 case Constant=>exact zg
 case Attribute=>exact vB ex rn
 case Subscript=>exact wc ex rn
 case Name=>exact zf
 case List=>exact vS ex rn
 case Tuple=>exact vU ex rn
theorem EY (C:fG c){bl:BL}(h:BOk c.tb n bl):COk c.tb (n+1) (cS c n bl):=fun e zz zz zz us ht rm dv=>Snd.of e (Φ:=fun v σ'=>TC _ _ _ _ _ us v σ') (Snd.or (Snd.gd fun hb zz zz e=>C n (az hb) e ht rm dv) fun zz zz e=>DT h e ht rm dv)
theorem AS (C:fG c){e:Eo}(h:tC c n e):tC c (n+1) (stp c n e):=by
 have s:=er n;have ss:SOk c.tb n (sS c e):=ow h.ex h.ts h.bl ew (oR h.ex h.ts h.bl ew);exact ⟨EW h,TOk.mono (DZ h.ex h.ts yq) s,BOk.mono (zv ss) s,EY C h.bl,XE.mono (EL h.ex h.xc) s,XB.mono (EO h.xe h.ex h.ts ss h.xb) s,EK h.xb⟩
theorem bw (C:fG c):∀n,tC c n (ev c n)
 |0=>⟨fun e=>cI e,fun e=>cI e,fun e=>cI e,fun e=>cI e,fun e=>cI e,fun e=>cI e,fun e=>cI e⟩
 |n+1=>AS C (bw C n)
end
theorem Led.tail {w:World}{V:Vl}{fl:FL}{tl news:L2}{os:List (Nat×AO)}(D:Led w V fl tl os news):∃l,news=l++tl:=by
 induction D with
 |nil=>exact ⟨[],rfl⟩
 |@cons _ _ l _ _ _ _ ih=>refine av ih fun l' e=>?_;clear ih;exact ⟨l++l',by rw[e,List.append_assoc]⟩
theorem kR {d:Dx}{V:Vl}{fr:AF}{σ σ':ST}{n:Nat}{cl:CL}(ic:COk d.tb n cl){g:Addr}{vs:List AV}{us:List Value}{v v':AV}(q:cl g vs ⟨[],0⟩=.ok v σ')(rm:Room d.A n)(hv:∀W,W.ι=V.ι->Dens W vs us)
  (hd:∀W u,W.ι=V.ι->Den W v u->Den V v' u):TC d V fr σ g us v' σ:=fun s R a P=>a.stK fun m news X=>by
 have a':At { d with f:={ d.f with cm:=none },tl:=news } ⟨fun zz=>none,fun zz=>none,V.ι,fun zz=>none⟩ ⟨d.f.cs,[],[],none,none⟩ ⟨[],0⟩ s:=
  ⟨⟨a.c.O,a.c.B,a.c.hA,a.c.hh,a.c.hg,a.c.hf,a.c.hf,a.c.T,a.c.X⟩,⟨trivial,trivial,rfl,fun x i h=>ag h⟩,⟨fun i zz=>⟨rfl,rfl,rfl⟩,a.v.num,fun k l h=>ag h⟩,m,news,X.F,X.N,.nil,X.nd,fun x v h=>ag h⟩
 refine ic (d:={ d with f:={ d.f with cm:=none },tl:=news }) q rfl rm (hv ⟨fun zz=>none,fun zz=>none,V.ι,fun zz=>none⟩ rfl) s R a' fun u h tk W le du at' ff=>at'.stK fun m' news' X'=>?_;refine av X'.D.tail fun l e=>?_;exact P u h tk V (.refl V) (hd W u le.ι du) (a.putV X (ff m X.F) (fun q hq=>X'.N q (by rw[e];exact a9 _ hq)) X.D X.nd) ff
section
set_option genInjectivity true
set_option genSizeOfSpec true
noncomputable def S (l:List Nat):Str:=⟨⟨l⟩⟩
noncomputable def HZ:List Stmt:=PySem.Challenge.pw_nu0294_01.main.body
def top (n:Nat):Option Stmt:=bp HZ n
def met (n m:Nat):Option Stmt:=match top n with
 |some (.ClassDef _ _ _ body _ _ _ _ _ _ _)=>bp body m
 |_=>none
noncomputable def yF:List Arg->List Str
 |[]=>[]
 |a::r=>a.arg::yF r
def aC (q:Str) (df:List AV) (s:Option Stmt):FI:=match s with
 |some (.FunctionDef name args body _ _ _ scope _ _ _)=>⟨name,q,args,body,scope,yF args.args,df⟩
 |_=>⟨s!"",s!"",⟨[],[],none,[],[],none,[]⟩,[],⟨.function,[],false,false,[]⟩,[],[]⟩
def jJ:List (Nat×FI):=[
 (21,aC s!"_wall" [] (top 0)),
 (37,aC s!"Thing.__init__" [] (met 5 0)),
 (59,aC s!"Text.__init__" [.str []] (met 6 0)),
 (79,aC s!"ListThing.__init__" [.non] (met 7 0)),
 (98,aC s!"TableThing.__init__" [] (met 8 0)),
 (105,aC s!"TableThing.put" [] (met 8 1)),
 (112,aC s!"TableThing.row" [] (met 8 2)),
 (117,aC s!"TableThing.pairs" [] (met 8 3)),
 (137,aC s!"RangeThing.__init__" [.non,.non,.boo false] (met 9 0)),
 (158,aC s!"ProcThing.__init__" [.non,.non,.non,.non,.st 150,.non,.non,.boo false,.non] (met 10 0)),
 (178,aC s!"ErrorThing.__init__" [.non] (met 11 0)),
 (198,aC s!"FiberThing.__init__" [.non] (met 12 0)),
 (218,aC s!"ModuleThing.__init__" [.non,.boo false,.non,.non] (met 13 0)),
 (225,aC s!"ModuleThing.is_own" [] (met 13 1)),
 (245,aC s!"Entry.__init__" [.non,.non,.str [112,117,98,108,105,99]] (met 14 0)),
 (253,aC s!"Entry.moved" [.non] (met 14 1)),
 (267,aC s!"is_int" [] (top 15)),
 (274,aC s!"sort_of" [] (top 16)),
 (281,aC s!"same" [] (top 17)),
 (287,aC s!"code_of" [.int 12] (top 18)),
 (294,aC s!"is_word" [] (top 19)),
 (301,aC s!"is_label" [] (top 21)),
 (308,aC s!"is_plain_symbol" [] (top 22)),
 (315,aC s!"full_name" [] (top 23)),
 (322,aC s!"show_letter" [] (top 24)),
 (327,aC s!"show_text" [] (top 25)),
 (334,aC s!"show_symbol" [] (top 26)),
 (341,aC s!"show_pair" [] (top 27)),
 (348,aC s!"show_range" [] (top 28)),
 (353,aC s!"show_thing" [] (top 29)),
 (360,aC s!"show_error" [] (top 30)),
 (368,aC s!"show" [.int 6] (top 31)),
 (375,aC s!"name_in" [] (top 35)),
 (382,aC s!"is_word" [] (top 36)),
 (389,aC s!"field_name" [] (top 38)),
 (394,aC s!"copy_into" [] (top 39)),
 (401,aC s!"copy_proc" [] (top 40)),
 (408,aC s!"copy_module" [] (top 41)),
 (415,aC s!"copy_of" [] (top 42)),
 (422,aC s!"raise_version" [] (top 44)),
 (429,aC s!"need_unfrozen" [] (top 45)),
 (436,aC s!"own_module" [] (top 46)),
 (443,aC s!"define" [] (top 47)),
 (450,aC s!"kind_word" [] (top 48)),
 (457,aC s!"object_freeze" [] (top 51)),
 (464,aC s!"object_frozen" [] (top 52)),
 (471,aC s!"copy_own" [] (top 53)),
 (478,aC s!"object_dup" [] (top 54)),
 (485,aC s!"object_clone" [] (top 55)),
 (492,aC s!"fields_of" [] (top 56)),
 (499,aC s!"object_get" [] (top 57)),
 (506,aC s!"object_set" [] (top 58)),
 (521,aC s!"GemError.__init__" [.str []] (met 60 0)),
 (541,aC s!"Raised.__init__" [] (met 61 0)),
 (553,aC s!"kind_word" [] (top 63)),
 (560,aC s!"need_int" [] (top 65)),
 (567,aC s!"need_open" [] (top 66)),
 (574,aC s!"need_count" [] (top 67)),
 (581,aC s!"put_row" [] (top 68)),
 (588,aC s!"list_push" [] (top 70)),
 (595,aC s!"list_pop" [] (top 71)),
 (602,aC s!"list_reverse_here" [] (top 72)),
 (609,aC s!"list_clear" [] (top 73)),
 (616,aC s!"table_spare" [] (top 75)),
 (623,aC s!"table_set_spare" [] (top 76)),
 (630,aC s!"table_put" [] (top 77)),
 (637,aC s!"table_delete" [] (top 78)),
 (644,aC s!"table_clear" [] (top 79)),
 (651,aC s!"letters" [] (top 82)),
 (658,aC s!"sized" [] (top 83)),
 (665,aC s!"need_free" [] (top 85)),
 (672,aC s!"put" [] (top 86)),
 (679,aC s!"joined" [] (top 87)),
 (684,aC s!"joined_ahead" [] (top 88)),
 (712,aC s!"World.__init__" [.non,.non,.int 20000] (met 94 0)),
 (719,aC s!"World.tick" [] (met 94 1)),
 (726,aC s!"World.write" [] (met 94 2)),
 (733,aC s!"World.number" [] (met 94 3)),
 (740,aC s!"World.next_ident" [] (met 94 4)),
 (747,aC s!"World.ident" [] (met 94 5)),
 (754,aC s!"World.builtin" [] (met 94 6)),
 (759,aC s!"World.make_builtin" [] (met 94 7)),
 (766,aC s!"World.give_own" [] (met 94 8)),
 (774,aC s!"World.new_module" [.non,.non,.non] (met 94 9)),
 (781,aC s!"World.class_of" [] (met 94 10)),
 (788,aC s!"World.own_of" [] (met 94 11)),
 (795,aC s!"World.own_behind" [] (met 94 12)),
 (802,aC s!"World.root_of" [] (met 94 13)),
 (809,aC s!"World.real_class" [] (met 94 14)),
 (816,aC s!"World.text" [] (met 94 15)),
 (823,aC s!"World.list_of" [] (met 94 16)),
 (830,aC s!"World.table_of" [] (met 94 17)),
 (837,aC s!"World.key_of" [] (met 94 18)),
 (844,aC s!"World.range_of" [] (met 94 19)),
 (851,aC s!"World.proc" [] (met 94 20)),
 (858,aC s!"World.thing" [] (met 94 21)),
 (865,aC s!"World.is_error_class" [] (met 94 22)),
 (872,aC s!"World.spread" [] (met 94 23)),
 (879,aC s!"World.error" [] (met 94 24)),
 (886,aC s!"World.fail" [] (met 94 25)),
 (893,aC s!"World.need_thawed" [] (met 94 26)),
 (900,aC s!"World.set_field" [] (met 94 27)),
 (907,aC s!"World.describe" [] (met 94 28)),
 (914,aC s!"World.own_constant" [] (met 94 29)),
 (921,aC s!"World.find_constant" [] (met 94 30)),
 (928,aC s!"World.constant" [] (met 94 31)),
 (935,aC s!"World.find_in" [] (met 94 32)),
 (942,aC s!"World.constant_in" [] (met 94 33)),
 (949,aC s!"World.set_constant" [] (met 94 34)),
 (963,aC s!"_law_box" [] (top 96)),
 (970,aC s!"_law_take" [] (top 97)),
 (977,aC s!"_law_made" [] (top 98)),
 (982,aC s!"_law_holds" [] (top 99)),
 (987,aC s!"_law_turn" [] (top 100)),
 (994,aC s!"_law_set" [] (top 101)),
 (1001,aC s!"_law_refused" [] (top 102)),
 (1008,aC s!"_law_copied" [] (top 103)),
 (1015,aC s!"_law_deed_right" [] (top 104)),
 (1020,aC s!"law" [] (top 105))]
def fiA (a:Nat):FI:=match aa jJ a with|some f=>f|none=>aC s!"" [] none
noncomputable def tD:List (Str×AV):=[
 (s!"_wall",.st 21),
 (s!"SIMPLE_ESCAPES",.st 22),
 (s!"OPERATORS",.st 23),
 (s!"DEEPEST_KEY",.int 12),
 (s!"Thing",.st 40),
 (s!"Text",.st 62),
 (s!"ListThing",.st 82),
 (s!"TableThing",.st 120),
 (s!"RangeThing",.st 140),
 (s!"ProcThing",.st 161),
 (s!"ErrorThing",.st 181),
 (s!"FiberThing",.st 201),
 (s!"ModuleThing",.st 228),
 (s!"Entry",.st 256),
 (s!"is_int",.st 267),
 (s!"sort_of",.st 274),
 (s!"same",.st 281),
 (s!"code_of",.st 287),
 (s!"is_word",.st 382),
 (s!"is_word_things",.st 294),
 (s!"is_label",.st 301),
 (s!"is_plain_symbol",.st 308),
 (s!"full_name",.st 315),
 (s!"show_letter",.st 322),
 (s!"show_text",.st 327),
 (s!"show_symbol",.st 334),
 (s!"show_pair",.st 341),
 (s!"show_range",.st 348),
 (s!"show_thing",.st 353),
 (s!"show_error",.st 360),
 (s!"show",.st 368),
 (s!"LETTERS",.str [97,98,99,100,101,102,103,104,105,106,107,108,109,110,111,112,113,114,115,116,117,118,119,120,121,122]),
 (s!"DIGITS",.str [48,49,50,51,52,53,54,55,56,57]),
 (s!"name_in",.st 375),
 (s!"is_word_coretools",.st 382),
 (s!"field_name",.st 389),
 (s!"copy_into",.st 394),
 (s!"copy_proc",.st 401),
 (s!"copy_module",.st 408),
 (s!"copy_of",.st 415),
 (s!"raise_version",.st 422),
 (s!"need_unfrozen",.st 429),
 (s!"own_module",.st 436),
 (s!"define",.st 443),
 (s!"kind_word",.st 553),
 (s!"kind_word_lines",.st 450),
 (s!"object_freeze",.st 457),
 (s!"object_frozen",.st 464),
 (s!"copy_own",.st 471),
 (s!"object_dup",.st 478),
 (s!"object_clone",.st 485),
 (s!"fields_of",.st 492),
 (s!"object_get",.st 499),
 (s!"object_set",.st 506),
 (s!"GemError",.st 524),
 (s!"Raised",.st 544),
 (s!"kind_word_needs",.st 553),
 (s!"need_int",.st 560),
 (s!"need_open",.st 567),
 (s!"need_count",.st 574),
 (s!"put_row",.st 581),
 (s!"list_push",.st 588),
 (s!"list_pop",.st 595),
 (s!"list_reverse_here",.st 602),
 (s!"list_clear",.st 609),
 (s!"table_spare",.st 616),
 (s!"table_set_spare",.st 623),
 (s!"table_put",.st 630),
 (s!"table_delete",.st 637),
 (s!"table_clear",.st 644),
 (s!"MOST_TEXT",.int 20000),
 (s!"letters",.st 651),
 (s!"sized",.st 658),
 (s!"need_free",.st 665),
 (s!"put",.st 672),
 (s!"joined",.st 679),
 (s!"joined_ahead",.st 684),
 (s!"MODULES",.st 685),
 (s!"BUILTINS",.st 686),
 (s!"MIXED",.st 689),
 (s!"UNMADE",.st 697),
 (s!"World",.st 952),
 (s!"_law_box",.st 963),
 (s!"_law_take",.st 970),
 (s!"_law_made",.st 977),
 (s!"_law_holds",.st 982),
 (s!"_law_turn",.st 987),
 (s!"_law_set",.st 994),
 (s!"_law_refused",.st 1001),
 (s!"_law_copied",.st 1008),
 (s!"_law_deed_right",.st 1015),
 (s!"law",.st 1020),
 (s!"len",.bi 0),
 (s!"isinstance",.bi 1),
 (s!"repr",.bi 2),
 (s!"sorted",.bi 3),
 (s!"abs",.bi 4),
 (s!"min",.bi 5),
 (s!"ord",.bi 6),
 (s!"chr",.bi 7),
 (s!"int",.ty 0),
 (s!"bool",.ty 1),
 (s!"str",.ty 2),
 (s!"list",.ty 3),
 (s!"dict",.ty 4),
 (s!"tuple",.ty 5),
 (s!"range",.ty 6),
 (s!"ValueError",.ty 7)]
noncomputable def EZ:List (Nat×CI):=[
 (40,⟨[s!"number",s!"owner",s!"fields",s!"own",s!"frozen",s!"ident"],some 37,[]⟩),
 (62,⟨[s!"text",s!"number",s!"owner",s!"fields",s!"own",s!"frozen",s!"ident"],some 59,[]⟩),
 (82,⟨[s!"items",s!"number",s!"owner",s!"fields",s!"own",s!"frozen",s!"ident"],some 79,[]⟩),
 (120,⟨[s!"rows",s!"spare",s!"number",s!"owner",s!"fields",s!"own",s!"frozen",s!"ident"],some 98,[(s!"put",105),(s!"row",112),(s!"pairs",117)]⟩),
 (140,⟨[s!"first",s!"last",s!"open",s!"number",s!"owner",s!"fields",s!"own",s!"frozen",s!"ident"],some 137,[]⟩),
 (161,⟨[s!"params",s!"body",s!"env",s!"self_value",s!"nesting",s!"home",s!"site",s!"is_lambda",s!"definer",s!"number",s!"owner",s!"fields",s!"own",s!"frozen",s!"ident"],some 158,[]⟩),
 (181,⟨[s!"message",s!"cause",s!"number",s!"owner",s!"fields",s!"own",s!"frozen",s!"ident"],some 178,[]⟩),
 (201,⟨[s!"state",s!"proc",s!"rows",s!"back",s!"number",s!"owner",s!"fields",s!"own",s!"frozen",s!"ident"],some 198,[]⟩),
 (228,⟨[s!"name",s!"is_class",s!"parent",s!"outer",s!"methods",s!"constants",s!"mixed",s!"ahead",s!"attached",s!"native",s!"kept",s!"number",s!"owner",s!"fields",s!"own",s!"frozen",s!"ident"],some 218,[(s!"is_own",225)]⟩),
 (256,⟨[s!"name",s!"owner",s!"sort",s!"params",s!"body",s!"sight",s!"nesting",s!"code"],some 245,[(s!"moved",253)]⟩),
 (952,⟨[s!"natives",s!"prelude",s!"read",s!"most",s!"taken",s!"last_number",s!"last_ident",s!"symbol_idents",s!"made",s!"version",s!"const_version",s!"globals",s!"out",s!"is_ready",s!"main"],some 712,[(s!"tick",719),(s!"write",726),(s!"number",733),(s!"next_ident",740),(s!"ident",747),(s!"builtin",754),(s!"make_builtin",759),(s!"give_own",766),(s!"new_module",774),(s!"class_of",781),(s!"own_of",788),(s!"own_behind",795),(s!"root_of",802),(s!"real_class",809),(s!"text",816),(s!"list_of",823),(s!"table_of",830),(s!"key_of",837),(s!"range_of",844),(s!"proc",851),(s!"thing",858),(s!"is_error_class",865),(s!"spread",872),(s!"error",879),(s!"fail",886),(s!"need_thawed",893),(s!"set_field",900),(s!"describe",907),(s!"own_constant",914),(s!"find_constant",921),(s!"constant",928),(s!"find_in",935),(s!"constant_in",942),(s!"set_constant",949)]⟩)]
noncomputable def E0:List (Nat×List (Str×Addr)):=[
 (40,[(s!"__init__",37)]),
 (524,[(s!"__init__",521)])]
noncomputable def E4:List (Nat×(Nat×Addr×Str)):=[(987,(20,984,s!"_law_turn.<locals>.<lambda>")),(994,(21,989,s!"_law_set.<locals>.<lambda>"))]
noncomputable def E5:Xs:=[(524,(521,[s!"reason"])),(544,(541,[s!"reason",s!"thing"]))]
def qu:List (Nat×List (Str×AV)):=[
 (22,[(S [92],.str [92,92]),(S [34],.str [92,34]),(S [10],.str [92,110]),(S [9],.str [92,116]),(S [13],.str [92,114]),(S [27],.str [92,101]),(S [7],.str [92,97]),(S [8],.str [92,98]),(S [11],.str [92,118]),(S [12],.str [92,102]),(S [127],.str [92,120,55,70])]),
 (686,[(s!"BasicObject",.non),(s!"Object",.str [66,97,115,105,99,79,98,106,101,99,116]),(s!"Module",.str [79,98,106,101,99,116]),(s!"Class",.str [77,111,100,117,108,101]),(s!"Kernel",.non),(s!"Comparable",.non),(s!"Enumerable",.non),(s!"NilClass",.str [79,98,106,101,99,116]),(s!"TrueClass",.str [79,98,106,101,99,116]),(s!"FalseClass",.str [79,98,106,101,99,116]),(s!"Numeric",.str [79,98,106,101,99,116]),(s!"Integer",.str [78,117,109,101,114,105,99]),(s!"String",.str [79,98,106,101,99,116]),(s!"Symbol",.str [79,98,106,101,99,116]),(s!"Array",.str [79,98,106,101,99,116]),(s!"Hash",.str [79,98,106,101,99,116]),(s!"Range",.str [79,98,106,101,99,116]),(s!"Proc",.str [79,98,106,101,99,116]),(s!"Fiber",.str [79,98,106,101,99,116]),(s!"Exception",.str [79,98,106,101,99,116]),(s!"ScriptError",.str [69,120,99,101,112,116,105,111,110]),(s!"NotImplementedError",.str [83,99,114,105,112,116,69,114,114,111,114]),(s!"SystemStackError",.str [69,120,99,101,112,116,105,111,110]),(s!"StandardError",.str [69,120,99,101,112,116,105,111,110]),(s!"ArgumentError",.str [83,116,97,110,100,97,114,100,69,114,114,111,114]),(s!"UncaughtThrowError",.str [65,114,103,117,109,101,110,116,69,114,114,111,114]),(s!"FiberError",.str [83,116,97,110,100,97,114,100,69,114,114,111,114]),(s!"IndexError",.str [83,116,97,110,100,97,114,100,69,114,114,111,114]),(s!"KeyError",.str [73,110,100,101,120,69,114,114,111,114]),(s!"StopIteration",.str [73,110,100,101,120,69,114,114,111,114]),(s!"LocalJumpError",.str [83,116,97,110,100,97,114,100,69,114,114,111,114]),(s!"NameError",.str [83,116,97,110,100,97,114,100,69,114,114,111,114]),(s!"NoMethodError",.str [78,97,109,101,69,114,114,111,114]),(s!"NoMatchingPatternError",.str [83,116,97,110,100,97,114,100,69,114,114,111,114]),(s!"NoMatchingPatternKeyError",.str [78,111,77,97,116,99,104,105,110,103,80,97,116,116,101,114,110,69,114,114,111,114]),(s!"RangeError",.str [83,116,97,110,100,97,114,100,69,114,114,111,114]),(s!"RuntimeError",.str [83,116,97,110,100,97,114,100,69,114,114,111,114]),(s!"FrozenError",.str [82,117,110,116,105,109,101,69,114,114,111,114]),(s!"TypeError",.str [83,116,97,110,100,97,114,100,69,114,114,111,114]),(s!"ZeroDivisionError",.str [83,116,97,110,100,97,114,100,69,114,114,111,114])]),
 (689,[(s!"Object",.st 690),(s!"Numeric",.st 691),(s!"String",.st 692),(s!"Symbol",.st 693),(s!"Array",.st 694),(s!"Hash",.st 695),(s!"Range",.st 696)])]
noncomputable def tE:List (Nat×List AV):=[
 (23,[.str [43],.str [45],.str [42],.str [47],.str [37],.str [42,42],.str [61,61],.str [33,61],.str [60],.str [62],.str [60,61],.str [62,61],.str [60,61,62],.str [61,61,61],.str [91,93],.str [91,93,61],.str [60,60],.str [62,62],.str [33],.str [126],.str [43,64],.str [45,64],.str [38],.str [124],.str [94],.str [61,126],.str [33,126]]),
 (685,[.str [75,101,114,110,101,108],.str [67,111,109,112,97,114,97,98,108,101],.str [69,110,117,109,101,114,97,98,108,101]]),
 (697,[.str [78,105,108,67,108,97,115,115],.str [84,114,117,101,67,108,97,115,115],.str [70,97,108,115,101,67,108,97,115,115],.str [73,110,116,101,103,101,114],.str [78,117,109,101,114,105,99],.str [83,121,109,98,111,108]]),
 (690,[.str [75,101,114,110,101,108]]),
 (691,[.str [67,111,109,112,97,114,97,98,108,101]]),
 (692,[.str [67,111,109,112,97,114,97,98,108,101]]),
 (693,[.str [67,111,109,112,97,114,97,98,108,101]]),
 (694,[.str [69,110,117,109,101,114,97,98,108,101]]),
 (695,[.str [69,110,117,109,101,114,97,98,108,101]]),
 (696,[.str [69,110,117,109,101,114,97,98,108,101]])]
noncomputable def E6:List (Nat×List (Nat×Bool)):=[
 (0,[(0,false),(1,false),(2,false),(1040,false),(1062,false),(1082,false),(1120,false),(1140,false),(1161,false),(1181,false),(1201,false),(1228,false)]),
 (1,[(0,true),(1,true),(2,false),(1040,false),(1062,false),(1082,false),(1120,false),(1140,false),(1161,false),(1181,false),(1201,false),(1228,false)]),
 (2,[(0,true),(1,false),(2,false),(1040,false),(1062,false),(1082,false),(1120,false),(1140,false),(1161,false),(1181,false),(1201,false),(1228,false)]),
 (3,[(0,false),(1,false),(2,true),(1040,false),(1062,false),(1082,false),(1120,false),(1140,false),(1161,false),(1181,false),(1201,false),(1228,false)]),
 (4,[(0,false),(1,false),(2,false),(1040,false),(1062,false),(1082,false),(1120,false),(1140,false),(1161,false),(1181,false),(1201,false),(1228,false)]),
 (5,[(0,false),(1,false),(2,false),(1040,false),(1062,false),(1082,false),(1120,false),(1140,false),(1161,false),(1181,false),(1201,false),(1228,false)]),
 (6,[(0,false),(1,false),(2,false),(1040,false),(1062,false),(1082,false),(1120,false),(1140,false),(1161,false),(1181,false),(1201,false),(1228,false)]),
 (1040,[(0,false),(1,false),(2,false),(1040,true),(1062,false),(1082,false),(1120,false),(1140,false),(1161,false),(1181,false),(1201,false),(1228,false)]),
 (1062,[(0,false),(1,false),(2,false),(1040,true),(1062,true),(1082,false),(1120,false),(1140,false),(1161,false),(1181,false),(1201,false),(1228,false)]),
 (1082,[(0,false),(1,false),(2,false),(1040,true),(1062,false),(1082,true),(1120,false),(1140,false),(1161,false),(1181,false),(1201,false),(1228,false)]),
 (1120,[(0,false),(1,false),(2,false),(1040,true),(1062,false),(1082,false),(1120,true),(1140,false),(1161,false),(1181,false),(1201,false),(1228,false)]),
 (1140,[(0,false),(1,false),(2,false),(1040,true),(1062,false),(1082,false),(1120,false),(1140,true),(1161,false),(1181,false),(1201,false),(1228,false)]),
 (1161,[(0,false),(1,false),(2,false),(1040,true),(1062,false),(1082,false),(1120,false),(1140,false),(1161,true),(1181,false),(1201,false),(1228,false)]),
 (1181,[(0,false),(1,false),(2,false),(1040,true),(1062,false),(1082,false),(1120,false),(1140,false),(1161,false),(1181,true),(1201,false),(1228,false)]),
 (1201,[(0,false),(1,false),(2,false),(1040,true),(1062,false),(1082,false),(1120,false),(1140,false),(1161,false),(1181,false),(1201,true),(1228,false)]),
 (1228,[(0,false),(1,false),(2,false),(1040,true),(1062,false),(1082,false),(1120,false),(1140,false),(1161,false),(1181,false),(1201,false),(1228,true)]),
 (1256,[(0,false),(1,false),(2,false),(1040,false),(1062,false),(1082,false),(1120,false),(1140,false),(1161,false),(1181,false),(1201,false),(1228,false)]),
 (1952,[(0,false),(1,false),(2,false),(1040,false),(1062,false),(1082,false),(1120,false),(1140,false),(1161,false),(1181,false),(1201,false),(1228,false)])]
def tbP (pi:World->Vl->OpP->List (Addr×Obj)->Prop):Tb:=⟨EZ,tD,jJ,E0,E4,E5,qu,tE,E6,pi⟩
def tbT:Tb:=tbP fun zz zz zz zz=>False
def dE:Cfg:=⟨tbT,0,fun zz zz zz=>.no⟩
end
section
set_option genInjectivity true
set_option genSizeOfSpec true
def kS (n:Nat) (r:R AV):Bool:=@R.rec AV (fun zz=>Bool) (fun v zz=>match v with|.str l=>Nat.ble l.length n|.ut k=>Nat.ble k n|_=>false) false r
noncomputable def bM (n:Nat)(f:Nat->Bool):Bool:=@Nat.rec (fun zz=>Bool) true (fun k r=>f k&&r) n
theorem ed {f:Nat->Bool}:∀{n:Nat},bM n f=true->∀i,i < n->f i=true
 |0=>fun zz i h=>absurd h (Nat.not_lt_zero i)
 |n+1=>fun e i h=>by
  have h1:=an1 ((show (f n&&bM n f)=true from e));have h2:=an2 ((show (f n&&bM n f)=true from e));rcases Nat.lt_succ_iff_lt_or_eq.mp h with h|rfl
  ·exact ed h2 i h
  ·exact h1
noncomputable def E7 (c:Nat):Bool:=Nat.ble 97 c&&Nat.ble c 100
def tF:List Nat->Bool
 |[]=>false
 |c::r=>match r with|[]=>E7 c|_::_=>false
def E8 (l:List Nat):Bool:=match l with
 |[]=>true
 |_::_=>tF l
def hk1:CL:=fun g vs σ=>gd (Nat.beq g 322) (on2 vs fun a b=>cQ a fun l=>cQ b fun f=>gd (tF l&&E8 f) (.ok (.str l) σ))
def jK:Cfg:={ dE with n0:=20,hk:=hk1 }
def tG (l:List Nat) (r:R AV):Bool:=@R.rec AV (fun zz=>Bool) (fun v zz=>match v with|.str m=>Fast.lEq l m|_=>false) false r
def yG (c:Nat) (f:List Nat):Bool:=tG [c] ((ev dE 20).cl 322 [.str [c],.str f] ⟨[],0⟩)
theorem tH:bM 4 (fun c=>yG (97+c) []&&bM 4 fun d=>yG (97+c) [97+d])=true:=by kernel_rfl
def cU (i m j:Nat):Bool:=@Bool.rec (fun zz=>Bool) true (kS 40 ((ev jK 60).cl 327 [.str (txt i m j)] ⟨[],0⟩)) (Nat.ble (i+j) 12)
theorem tI {l:List Nat}{r:R AV}(h:tG l r=true):∃σ',r=.ok (.str l) σ':=by
 induction r using R.casesOn with
 |no=>exact ak h
 |ok v σ'=>
  induction v using aA<;>first|exact ak h|exact ⟨σ',by rw[Fast.lEq_iff.mp h]⟩
theorem wT {c:Nat}(h:E7 c=true):∃k,k < 4/\c=97+k:=by
 have a:=an1 h;have b:=an2 h;have a:=az a;have b:=az b;exact ⟨c - 97,Nat.sub_lt_left_of_lt_add a (Nat.lt_succ_of_le b),(Nat.add_sub_of_le a).symm⟩
theorem oV:∀{l:List Nat},tF l=true->∃k,k < 4/\l=[97+k]
 |[]=>fun h=>ak h
 |[_]=>fun h=>let ⟨k,h1,h2⟩:=wT h;⟨k,h1,by rw[h2]⟩
 |_::_::_=>fun h=>ak h
theorem tJ {l f:List Nat}(h1:tF l=true)(h2:E8 f=true):tG l ((ev dE 20).cl 322 [.str l,.str f] ⟨[],0⟩)=true:=by
 refine aj (oV h1) fun k hk z'2=>?_;obtain rfl:=z'2;have a:=an1 ((ed tH k hk));have b:=an2 ((ed tH k hk))
 induction f using aV with
 |nil=>exact a
 |cons x r=>
  refine aj (oV (show tF (x::r)=true from h2)) fun i hi e=>?_;rw[e];exact ed b i hi
theorem bR:fG dE:=fun n zz zz zz zz zz zz e=>cI e
theorem oX:fG jK:=fun n hn g vs σ v σ' q d V fr us ht rm dv=>by
 refine Snd.of q (Φ:=fun v σ'=>TC d V fr σ g us v σ') (Snd.gd fun hg=>aK hg▸Snd.n2 dv fun a b u1 u2 e q1 q2=>e▸Snd.str fun l hl=>Snd.str fun f hf=>Snd.gd fun hb=>Snd.ok ?_);have h1:=an1 hb;have h2:=an2 hb;refine av (q1.str hl) fun t1 z'1=>?_;obtain rfl:=z'1;refine av (q2.str hf) fun t2 z'1=>?_;obtain rfl:=z'1;refine av (tI (tJ h1 h2)) fun σ₁ hq=>?_;have ic:COk d.tb 20 (ev dE 20).cl:=ht▸(bw bR 20).cl;exact kR (v':=.str l) ic hq (rm.mono (Nat.le_succ_of_le hn)) (fun W zz=>⟨⟨t1,rfl⟩,⟨t2,rfl⟩,trivial⟩) (fun W u zz d=>d)
end
section
set_option genInjectivity true
set_option genSizeOfSpec true
theorem E9:bM 3 (fun m=>bM 13 fun j=>cU 0 m j)=true:=by kernel_rfl
theorem Fa:bM 3 (fun m=>bM 13 fun j=>cU 1 m j)=true:=by kernel_rfl
theorem Fb:bM 3 (fun m=>bM 13 fun j=>cU 2 m j)=true:=by kernel_rfl
theorem Fc:bM 3 (fun m=>bM 13 fun j=>cU 3 m j)=true:=by kernel_rfl
theorem Fd:bM 3 (fun m=>bM 13 fun j=>cU 4 m j)=true:=by kernel_rfl
theorem Fe:bM 3 (fun m=>bM 13 fun j=>cU 5 m j)=true:=by kernel_rfl
theorem Ff:bM 3 (fun m=>bM 13 fun j=>cU 6 m j)=true:=by kernel_rfl
theorem Fg:bM 3 (fun m=>bM 13 fun j=>cU 7 m j)=true:=by kernel_rfl
theorem Fh:bM 3 (fun m=>bM 13 fun j=>cU 8 m j)=true:=by kernel_rfl
theorem Fi:bM 3 (fun m=>bM 13 fun j=>cU 9 m j)=true:=by kernel_rfl
theorem AT:bM 3 (fun m=>bM 13 fun j=>cU 10 m j)=true:=by kernel_rfl
theorem AU:bM 3 (fun m=>bM 13 fun j=>cU 11 m j)=true:=by kernel_rfl
theorem AW:bM 3 (fun m=>bM 13 fun j=>cU 12 m j)=true:=by kernel_rfl
theorem AX:∀i,i < 13->bM 3 (fun m=>bM 13 fun j=>cU i m j)=true
 |0=>fun zz=>E9
 |1=>fun zz=>Fa
 |2=>fun zz=>Fb
 |3=>fun zz=>Fc
 |4=>fun zz=>Fd
 |5=>fun zz=>Fe
 |6=>fun zz=>Ff
 |7=>fun zz=>Fg
 |8=>fun zz=>Fh
 |9=>fun zz=>Fi
 |10=>fun zz=>AT
 |11=>fun zz=>AU
 |12=>fun zz=>AW
 |n+13=>fun h=>absurd h (Nat.not_lt.mpr (Nat.le_add_left 13 n))
theorem tK {i m j:Nat}(h:i+j<=12)(hm:m<=2):kS 40 ((ev jK 60).cl 327 [.str (txt i m j)] ⟨[],0⟩)=true:=by
 have q:=ed (ed (AX i (by lia)) m (by lia)) j (by lia);unfold cU at q;rwa [Nat.ble_eq_true_of_le h]at q
theorem kT {n:Nat}{r:R AV}(h:kS n r=true):∃v σ',r=.ok v σ'/\∀(V W:Vl) (u:Value),Den V v u->Den W (.ut n) u:=by
 induction r using R.casesOn with
 |no=>exact ak h
 |ok v σ'=>
  refine ⟨v,σ',rfl,fun V W u d=>?_⟩
  induction v using aA<;>first|exact ak h|skip
  ·refine av d fun t d'1=>?_;clear d;obtain rfl:=d'1;exact ⟨_,t,rfl,by rw[d6];exact az h⟩
  ·refine aI d fun x t d'2 hl=>?_;clear d;obtain rfl:=d'2;exact ⟨x,t,rfl,ba hl (az h)⟩
theorem AY:kS 40 ((ev jK 60).cl 368 [.non] ⟨[],0⟩)=true:=by kernel_rfl
theorem AZ:bM 5 (fun i=>kS 40 ((ev jK 60).cl 368 [.int (.ofNat i)] ⟨[],0⟩))=true:=by kernel_rfl
theorem A0 (d:Int):kS 40 ((ev jK 60).cl 368 [.non,.int d] ⟨[],0⟩)=true:=by kernel_rfl
theorem A1 (d:Int):bM 5 (fun i=>kS 40 ((ev jK 60).cl 368 [.int (.ofNat i),.int d] ⟨[],0⟩))=true:=by kernel_rfl
noncomputable def Fj (v:AV)(k:R AV):R AV:=match v with
 |.ss p _ q=>match p with
  |[]=>match q with
   |[]=>k
   |_=>.no
  |_=>.no
 |_=>.no
noncomputable def Fl (v:AV)(k:R AV):R AV:=match v with
 |.uv _=>k
 |_=>.no
def hk2:CL:=fun g vs σ=>(gd (Nat.beq g 327) (on1 vs fun a=>Fj a (.ok (.ut 40) σ))).or ((gd (Nat.beq g 368) ((on1 vs fun a=>Fl a (.ok (.ut 40) σ)).or (on2 vs fun a b=>Fl a (bV b fun zz=>.ok (.ut 40) σ)))).or (hk1 g vs σ))
def H0:Cfg:={ dE with n0:=70,hk:=hk2 }
set_option tactic.hygienic true in
theorem wU:fG H0:=fun n hn g vs σ v σ' q d V fr us ht rm dv=>by
 have hn:70<=n:=hn;have rm':Room d.A 60:=rm.mono (by lia);have ic:COk d.tb 60 (ev jK 60).cl:=ht▸(bw oX 60).cl;have uv:∀{k:Nat} {as:List AV} {us ur:List Value} {u:Value},Den V (.uv k) u->us=u::ur->(∀W,Dens W as ur)->kS 40 ((ev jK 60).cl 368 (.non::as) ⟨[],0⟩)=true->bM 5 (fun i=>kS 40 ((ev jK 60).cl 368 (.int (.ofNat i)::as) ⟨[],0⟩))=true->TC d V fr σ 368 us (.ut 40) σ:=fun {k as us ur u} hu e hr c1 c2=>fun s R a P=>by
  obtain ⟨hk,hu⟩:=hu;subst e;rcases hu with ⟨_,rfl⟩|⟨hne,t,rfl⟩
  ·refine aI (kT c1) fun v σ' hq hd=>?_;exact kR (us:=.none::ur) (v':=.ut 40) ic hq rm' (fun W zz=>.cons rfl (hr W)) (fun W u zz d=>hd _ _ _ d) s R a P
  ·refine ay (a.v.num.2.1 k hk) fun b1 b2=>?_;obtain ⟨i,hi⟩ :∃i:Nat,V.ι k=Int.ofNat i:=⟨(V.ι k).toNat,(Int.toNat_of_nonneg (by lia)).symm⟩
   rw[hi]at b2 ⊢;refine aI (kT (ed c2 i (by have:(i:Int) < 5:=b2;lia))) fun v σ' hq hd=>?_;exact kR (us:=.int (Int.ofNat i) t::ur) (v':=.ut 40) ic hq rm' (fun W zz=>.cons ⟨t,rfl⟩ (hr W)) (fun W u zz d=>hd _ _ _ d) s R a P
 refine Snd.of q (Φ:=fun v σ'=>TC d V fr σ g us v σ') (Snd.or (Snd.gd fun hg=>aK hg▸Snd.n1 dv fun a u e q1=>e▸?_) (Snd.or (Snd.gd fun hg=>aK hg▸Snd.or (Snd.n1 dv fun a u e q1=>?_) (Snd.n2 dv fun a b u1 u2 e q1 q2=>?_)) fun v σ' q=>oX n (ba (by decide) hn) q ht rm dv))
 ·induction a using aA<;>first|exact Snd.no|skip
  rename_i p k qq
  induction p using aV<;>first|exact Snd.no|skip
  induction qq using aV<;>first|exact Snd.no|skip
  refine aI q1 fun l t hl q1'3=>?_;clear q1;obtain rfl:=q1'3;refine Snd.ok fun s R a P=>?_;refine bu (a.v.txt _ _ hl) fun i m j h1 h2 z'5=>?_;obtain rfl:=z'5;refine aI (kT (tK h1 h2)) fun v σ' hq hd=>?_;exact kR (us:=[.str ⟨([]++txt i m j++[]).toArray⟩ t]) (v':=.ut 40) ic hq rm' (fun W zz=>.cons ⟨t,by simp⟩ trivial) (fun W u zz d=>hd _ _ _ d) s R a P
 ·induction a using aA<;>first|exact Snd.no|skip
  exact Snd.ok (uv (as:=[]) q1 e (fun W=>trivial) AY AZ)
 ·induction a using aA<;>first|exact Snd.no|skip
  exact Snd.int fun i hi=>Snd.ok (by
   rw[hi]at q2;refine av q2 fun t2 q2'1=>?_;clear q2;obtain rfl:=q2'1;exact uv (as:=[.int i]) q1 e (fun W=>⟨⟨t2,rfl⟩,trivial⟩) (A0 i) (A1 i))
end
section
set_option genInjectivity true
set_option genSizeOfSpec true
section
variable {α β:Type}
theorem aO {a:α}{i:Nat}:∀{l:List (Nat×α)},aa l i=some a->(i,a)∈l
 |[]=>fun h=>ag h
 |p::r=>fun h=>by
  rw[aM]at h;by_cases q:p.1=i
  ·rw[if_pos q]at h;obtain rfl:=soo h;subst q;exact .head _
  ·rw[if_neg q]at h;exact .tail _ (aO h)
theorem aU {a:α}{x:Str}:∀{l:List (Str×α)},aw l x=some a->(x,a)∈l
 |[]=>fun h=>ag h
 |p::r=>fun h=>by
  rw[aY]at h;by_cases q:p.1=x
  ·rw[if_pos q]at h;obtain rfl:=soo h;subst q;exact .head _
  ·rw[if_neg q]at h;exact .tail _ (aU h)
theorem aq {f g:α->β}:∀{l:List α},l.map f=l.map g->∀a∈l,f a=g a
 |_::_,h,_,.head _=>(cM h).1
 |_::_,h,_,.tail _ m=>aq (cM h).2 _ m
theorem aD {f:α->Bool}{l:List α}(h:l.all f=true){a:α}(m:a∈l):f a=true:=gY h a m
end
end
section
variable {w:World}{V W:Vl}{fl:FL}{tl news:L2}{os os':List (Nat×AO)}
theorem Led.inv {G:Prop}{p:Nat×AO}{r:List (Nat×AO)}{n:L2}(D:Led w V fl tl (p::r) n)(k:∀l n',n=l++n'->Is w V fl p.1 p.2 l->Led w V fl tl r n'->G):G:=by
 induction D using Led.cs with
 |cons a b=>exact k _ _ rfl a b
theorem Led.perm (p:os.Perm os'):∀{news:L2},Led w V fl tl os news->∃news',Led w V fl tl os' news'/\news'.Perm news:=by
 induction p with
 |nil=>exact fun h=>⟨_,h,.refl _⟩
 |cons x _ ih=>
  intro news h;obtain ⟨i,o⟩:=x
  induction h using Led.cs with
  |cons a b=>
   refine aj (ih b) fun n' q1 q2=>?_;exact ⟨_,.cons a q1,q2.append_left _⟩
 |swap x y l=>
  intro news h;obtain ⟨i,o⟩:=x;obtain ⟨j,o'⟩:=y
  induction h using Led.cs with
  |cons a b=>
   induction b using Led.cs with
   |cons c e=>
    refine ⟨_,.cons c (.cons a e),?_⟩;rw[<-List.append_assoc,<-List.append_assoc];exact List.perm_append_comm.append_right _
 |trans _ _ ih1 ih2=>
  intro news h;refine aj (ih1 h) fun n1 a1 p1=>?_;refine aj (ih2 a1) fun n2 a2 p2=>?_;exact ⟨n2,a2,p2.trans p1⟩
theorem Led.split2 {b:List (Nat×AO)}:∀(a:List (Nat×AO)) {news:L2},Led w V fl tl (a++b) news->∃n1 n2,news=n1++n2/\Led w V fl [] a n1/\Led w V fl tl b n2:=fun a=>by
 induction a with
 |nil=>exact fun {news} h=>⟨[],news,rfl,.nil,h⟩
 |cons p a ih=>
  intro news h
  induction h using Led.cs with
  |cons x y=>
   refine aR (ih y) fun n1 n2 z'2 q1 q2=>?_;obtain rfl:=z'2;exact ⟨_,n2,(List.append_assoc ..).symm,.cons x q1,q2⟩
theorem Led.join {a b:List (Nat×AO)}{n1 n2:L2}(h:Led w V fl [] a n1)(h':Led w V fl tl b n2):Led w V fl tl (a++b) (n1++n2):=by
 induction h with
 |nil=>exact h'
 |cons x _ ih=>rw[List.append_assoc];exact .cons x ih
theorem Led.tl0 {os:List (Nat×AO)}{n:L2}(h:Led w V fl [] os n):Led w V fl tl os (n++tl):=by
 have:=h.join (b:=[]) (.nil:Led w V fl tl [] tl);rwa [List.append_nil]at this
end
def aL (l:List (Nat×AO)) (i:Nat):List (Nat×AO):=@List.rec (Nat×AO) (fun zz=>List (Nat×AO)) [] (fun p r ih=>@Bool.rec (fun zz=>List (Nat×AO)) (p::ih) r (Nat.beq p.1 i)) l
theorem bk {i:Nat}{o:AO}:∀{os:List (Nat×AO)},aa os i=some o->os.Perm ((i,o)::aL os i)
 |[]=>fun h=>ag h
 |p::r=>fun h=>by
  change @Bool.rec (fun zz=>Option AO) (aa r i) (some p.2) (Nat.beq p.1 i)=some o at h;show (p::r).Perm ((i,o)::@Bool.rec (fun zz=>List (Nat×AO)) (p::aL r i) r (Nat.beq p.1 i));generalize q:Nat.beq p.1 i=x';induction x' using aH with
  |true=>
   rw[q]at h;obtain rfl:=soo h;rw[<-Nat.eq_of_beq_eq_true q]
  |false=>
   rw[q]at h;exact ((bk h).cons p).trans (.swap ..)
noncomputable def A2:Int->List Nat
 |.ofNat n=>[0,n]
 |.negSucc n=>[1,n]
noncomputable def hd (l:List Nat):Nat:=l.headD 0
def A3 (l:List Nat):Int:=@Bool.rec (fun zz=>Int) (.negSucc (hd l.tail)) (.ofNat (hd l.tail)) (Nat.beq (hd l) 0)
def enc:AV->List Nat
 |.non=>[1]
 |.boo b=>[2,b.toNat]
 |.int i=>3::A2 i
 |.str l=>4::l
 |.obj k=>[5,k]
 |.st k=>[6,k]
 |.si k o=>7::k::A2 o
 |.ss p k q=>8::k::p.length::(p++q)
 |.uv k=>[9,k]
 |.nm k=>[10,k]
 |.opt k=>[11,k]
 |.opn k=>[12,k]
 |.rn=>[13]
 |.ai=>[14]
 |_=>[]
def dec (l:List Nat):AV:=match hd l with
 |1=>.non
 |2=>.boo (Nat.beq (hd l.tail) 1)
 |3=>.int (A3 l.tail)
 |4=>.str l.tail
 |5=>.obj (hd l.tail)
 |6=>.st (hd l.tail)
 |7=>.si (hd l.tail) (A3 l.tail.tail)
 |8=>.ss (l.tail.tail.tail.take (hd l.tail.tail)) (hd l.tail) (l.tail.tail.tail.drop (hd l.tail.tail))
 |9=>.uv (hd l.tail)
 |10=>.nm (hd l.tail)
 |11=>.opt (hd l.tail)
 |12=>.opn (hd l.tail)
 |14=>.ai
 |_=>.rn
theorem my (i:Int):A3 (A2 i)=i:=by cases i<;>rfl
set_option tactic.hygienic true in
theorem oY {a:AV}(h:(enc a).isEmpty=false):dec (enc a)=a:=by
 induction a using aA<;>first|exact eA h|rfl|skip
 ·rename_i b;induction b using aH<;>rfl
 ·exact congrArg AV.int (my _)
 ·exact congrArg (AV.si _) (my _)
 ·rename_i p k q;show AV.ss ((p++q).take p.length) k ((p++q).drop p.length)=_;rw[List.take_left,List.drop_left]
def bF (a b:AV):Bool:=!(enc a).isEmpty&&Fast.lEq (enc a) (enc b)
theorem aX {a b:AV}(h:bF a b=true):a=b:=by
 have h1:=an1 h;have h2:=an2 h;have h1:=(Bool.not_eq_true' _).mp h1;have e:=Fast.lEq_iff.mp h2;rw[<-oY h1,e,oY (e▸h1)]
noncomputable def vI (V:Vl):AV->Int
 |.int i=>i
 |.uv k=>V.ι k
 |.si k o=>V.ι k+o
 |_=>-1
noncomputable def vT (V:Vl):AV->Option (List Nat)
 |.str l=>some l
 |.ss p k q=>(V.τ k).map fun l=>p++l++q
 |_=>none
structure Rn where
 r:Nat->Bool
 f:Nat->Nat
 g:Nat->AV
 q:Nat->Bool
 e:Nat->Bool
structure Rn.Ok (m:Rn) (W V:Vl):Prop where
 ρ:∀c,m.r c=true->V.ρ c=W.ρ (m.f c)
 δ:∀c,m.r c=true->m.e c=false->V.δ c=W.δ (m.f c)
 ι:∀k,m.q k=true->V.ι k=vI W (m.g k)
 τ:∀c,m.q c=true->V.τ c=vT W (m.g c)
noncomputable def uvB (a:AV):Bool:=match a with
 |.non=>true
 |.uv _=>true
 |.int i=>Z.leB 0 i
 |_=>false
noncomputable def siB (a:AV):Bool:=match a with
 |.int _=>true
 |.si _ _=>true
 |_=>false
noncomputable def ssB (a:AV):Bool:=match a with
 |.str _=>true
 |.ss _ _ _=>true
 |_=>false
noncomputable def aiB (a:AV):Bool:=match a with
 |.int _=>true
 |.si _ _=>true
 |.hi _ _=>true
 |.nm _=>true
 |.ai=>true
 |_=>false
def tL (m:Rn) (a b:AV):Bool:=match b with
 |.obj c=>m.r c&&bF a (.obj (m.f c))
 |.uv k=>(m.q k&&Nat.ble 1000 k)&&(uvB a&&bF a (m.g k))
 |.si k o=>(m.q k&&Z.eqB o 0)&&(siB a&&bF a (m.g k))
 |.ss p c q=>(m.q c&&(p.isEmpty&&q.isEmpty))&&(ssB a&&bF a (m.g c))
 |.nm c=>(m.r c&&!m.e c)&&bF a (.nm (m.f c))
 |.st x=>bF a (.st x)
 |.non=>bF a .non
 |.boo c=>bF a (.boo c)
 |.int c=>bF a (.int c)
 |.str c=>bF a (.str c)
 |.ai=>aiB a
 |_=>false
section
variable {m:Rn}{W V:Vl}{a:AV}{v:Value}
theorem siD (h:siB a=true)(d:Den W a v):∃t,v=.int (vI W a) t:=by
 induction a using aA<;>first|exact ak h|exact d
theorem ssD (h:ssB a=true)(d:Den W a v):∃l t,vT W a=some l/\v=.str ⟨l.toArray⟩ t:=by
 induction a using aA<;>first|exact ak h|skip
 ·exact ⟨_,d.choose,rfl,d.choose_spec⟩
 ·refine aI d fun l t d1 d'3=>?_;clear d;obtain rfl:=d'3;exact ⟨_,t,by show Option.map _ _=_;rw[d1];rfl,rfl⟩
set_option tactic.hygienic true in
theorem uvD (h:uvB a=true)(d:Den W a v):(vI W a=-1/\v=.none)\/(vI W a≠-1/\∃t,v=.int (vI W a) t):=by
 induction a using aA<;>first|exact ak h|skip
 ·exact .inl ⟨rfl,d⟩
 ·rename_i i;have h0:0<=i:=(Z.leB_iff _ _).mp h;exact .inr ⟨by show i≠-1;lia,d⟩
 ·exact d.2
theorem wV {k:Nat}(M:m.Ok W V)(h:((m.q k&&Nat.ble 1000 k)&&(uvB a&&bF a (m.g k)))=true)(d:Den W a v):Den V (.uv k) v:=by
 have h1:=an1 h;have h2:=an2 h;have h3:=an1 h1;have h4:=an2 h1;have h5:=an1 h2;have h6:=an2 h2;have e:=M.ι k h3;rw[<-aX h6]at e;exact ⟨az h4,e▸uvD h5 d⟩
theorem wW {k:Nat}{o:Int}(M:m.Ok W V)(h:((m.q k&&Z.eqB o 0)&&(siB a&&bF a (m.g k)))=true)(d:Den W a v):Den V (.si k o) v:=by
 have h1:=an1 h;have h2:=an2 h;have h3:=an1 h1;have h4:=an2 h1;have h5:=an1 h2;have h6:=an2 h2;have e:=M.ι k h3;rw[<-aX h6]at e;obtain rfl:=(Z.eqB_iff _ _).mp h4;refine av (siD h5 d) fun t d=>?_;exact ⟨t,by rw[e,Int.add_zero];exact d⟩
theorem wX {c:Nat}{p q:List Nat}(M:m.Ok W V)(h:((m.q c&&(p.isEmpty&&q.isEmpty))&&(ssB a&&bF a (m.g c)))=true)(d:Den W a v):Den V (.ss p c q) v:=by
 have h1:=an1 h;have h2:=an2 h;have h3:=an1 h1;have h4:=an2 h1;have h5:=an1 h2;have h6:=an2 h2;have h7:=an1 h4;have h8:=an2 h4;have e:=M.τ c h3;rw[<-aX h6]at e;obtain rfl:=List.isEmpty_iff.mp h7;obtain rfl:=List.isEmpty_iff.mp h8;refine aI (ssD h5 d) fun l t d1 d2=>?_;exact ⟨l,t,e.trans d1,by rw[d2,List.nil_append,List.append_nil]⟩
theorem aiD (h:aiB a=true)(d:Den W a v):Den V .ai v:=by
 induction a using aA<;>first|exact ak h|skip
 ·exact ⟨_,d⟩
 ·exact ⟨_,d⟩
 ·refine aI d fun i t d'2 zy=>?_;clear d;obtain rfl:=d'2;exact ⟨i,t,rfl⟩
 ·refine aI d fun z t zy d'3=>?_;clear d;obtain rfl:=d'3;exact ⟨_,t,rfl⟩
 ·exact d
theorem ef {b:AV}(h:bF a b=true)(d:Den W a v):Den W b v:=aX h▸d
theorem wY {c:Nat}(M:m.Ok W V)(h:(m.r c&&bF a (.obj (m.f c)))=true)(d:Den W a v):Den V (.obj c) v:=
 let ⟨h1,h2⟩:=cL h;let ⟨x,d1,d2⟩:=ef h2 d;⟨x,(M.ρ c h1).trans d1,d2⟩
theorem wZ {c:Nat}(M:m.Ok W V)(h:((m.r c&&!m.e c)&&bF a (.nm (m.f c)))=true)(d:Den W a v):Den V (.nm c) v:=
 let ⟨h1,h2⟩:=cL h;let ⟨h1,h3⟩:=cL h1;let ⟨z,t,d1,d2⟩:=ef h2 d;⟨z,t,(M.δ c h1 ((Bool.not_eq_true' _).mp h3)).trans d1,d2⟩
theorem fc (M:m.Ok W V){b:AV}(h:tL m a b=true)(d:Den W a v):Den V b v:=by
 induction b using aA<;>first|exact ak h|exact wY M h d|exact wV M h d|exact wW M h d|exact wX M h d|exact wZ M h d|skip
 ·exact (ef (b:=.non) h d:Den W .non v)
 ·exact (ef (b:=.boo _) h d:Den W (.boo _) v)
 ·exact (ef (b:=.int _) h d:Den W (.int _) v)
 ·exact (ef (b:=.str _) h d:Den W (.str _) v)
 ·exact (ef (b:=.st _) h d:Den W (.st _) v)
 ·exact aiD h d
end
def cV {α:Type} (o:Option α) (k:α->Bool):Bool:=@Option.rec α (fun zz=>Bool) false k o
theorem aZ {α:Type}{o:Option α}{k:α->Bool}(h:cV o k=true):∃a,o=some a/\k a=true:=by
 induction o using aF with
 |none=>exact ak h
 |some a=>exact ⟨a,rfl,h⟩
def w5 (m:Rn):List AV->List AV->Bool
 |[],b=>b.isEmpty
 |x::r,b=>(match b with|y::s=>tL m x y&&w5 m r s|[]=>false)
def A4 (m:Rn):List (Str×AV)->List (Str×AV)->Bool
 |[],b=>b.isEmpty
 |x::r,b=>(match b with|y::s=>sq x.1 y.1&&(tL m x.2 y.2&&A4 m r s)|[]=>false)
def rfF (m:Rn) (a:List (Str×AV)) (dflt:Option AV) (b:List (Str×AV)):Bool:=b.all fun p=>cV ((aw a p.1).or dflt) fun v=>tL m v p.2
def Fm (m:Rn) (x y:AO):Bool:=match y with
 |.inst C n fs=>(match x with|.inst C' n' fs'=>Nat.beq C' C&&(Nat.ble n' n&&rfF m fs' none fs)|_=>false)
 |.lst es=>(match x with|.lst es'=>w5 m es' es|_=>false)
 |.tup es=>(match x with|.tup es'=>w5 m es' es|_=>false)
 |.dic kvs=>(match x with|.dic kvs'=>A4 m kvs' kvs|_=>false)
 |.fdc kvs=>(match x with|.fdc kvs'=>kvs'.all (fun p=>fJ (kvs.map (·.1)) p.1)&&rfF m kvs' none kvs|.dic kvs'=>kvs'.all (fun p=>fJ (kvs.map (·.1)) p.1)&&rfF m kvs' (some .non) kvs|_=>false)
 |.rws j ks v=>(match x with|.rws j' ks' v'=>(m.r j&&Nat.beq j' (m.f j))&&(dC ks' ks&&tL m v' v)|_=>false)
 |_=>false
section
variable {m:Rn}{W V:Vl}{w:World}{fl:FL}
theorem oZ (M:m.Ok W V):∀{a b:List AV} {vs:List Value},w5 m a b=true->Dens W a vs->Dens V b vs:=fun {a}=>by
 induction a with
 |nil=>
  intro b vs h d
  induction b using aV with
  |nil=>induction vs using aV<;>exact d
  |cons=>exact ak h
 |cons x r ih=>
  intro b vs h d
  induction b using aV with
  |nil=>exact ak h
  |cons y s=>
   have h1:=an1 h;have h2:=an2 h
   induction vs using aV with
   |nil=>exact d.elim
   |cons=>exact ⟨fc M h1 d.1,ih h2 d.2⟩
theorem w6 (M:m.Ok W V):∀{a b:List (Str×AV)} {vs:List (Str×Value)},A4 m a b=true->Zs W a vs->Zs V b vs:=fun {a}=>by
 induction a with
 |nil=>
  intro b vs h d
  induction b using aV with
  |nil=>induction vs using aV<;>exact d
  |cons=>exact ak h
 |cons x r ih=>
  intro b vs h d
  induction b using aV with
  |nil=>exact ak h
  |cons y s=>
   have h1:=an1 h;have h2:=an2 h;have h3:=an2 h2;have h2:=an1 h2
   induction vs using aV with
   |nil=>exact d.elim
   |cons=>exact ⟨(bh.mp h1).symm.trans d.1,fc M h2 d.2.1,ih h3 d.2.2⟩
theorem dK (M:m.Ok W V){fs fs':List (Str×AV)}{f:List Str}{n n':Nat}{es:List DictEntry}(h:rfF m fs' none fs=true)(l:n'<=n)(E:Ents W f n' fs' es):Ents V f n fs es:=
 ⟨E.keys,ba E.len l,fun x v hx=>by
  refine aj (aZ (gY h (x,v) (aU hx))) fun a h1 h2=>?_;rw[Option.or_none]at h1;refine aj (E.known x a h1) fun u g1 g2=>?_;exact ⟨u,g1,fc M h2 g2⟩⟩
theorem mz {a b:List (Str×AV)}(h:a.all (fun p=>fJ (b.map (·.1)) p.1)=true){x:Str}(m:x∈a.map (·.1)):x∈b.map (·.1):=by
 refine aj (List.mem_map.mp m) fun p hp z'2=>?_;obtain rfl:=z'2;exact eD (gY h p hp)
set_option tactic.hygienic true in
theorem w7 (M:m.Ok W V){c:Nat}{x y:AO}{l:L2}(hc:m.r c=true)(he:m.e c=false)(h:Fm m x y=true)(i:Is w W fl (m.f c) x l):Is w V fl c y l:=by
 have e1:=M.ρ c hc
 induction y using aN<;>first|exact ak h|skip
 ·induction x using aN<;>first|exact ak h|skip
  have h1:=an1 h;have h2:=an2 h;have h3:=an2 h2;have h2:=an1 h2;obtain rfl:=aK h1;refine iS i fun a d es k i1 i2 i3 i4=>?_;clear i;exact ⟨a,d,es,k,e1.trans i1,(M.δ c hc he).trans i2,dK M h3 (az h2) i3,i4⟩
 ·induction x using aN<;>first|exact ak h|skip
  refine bu i fun a vs k i1 i2 i3=>?_;clear i;exact ⟨a,vs,k,e1.trans i1,oZ M h i2,i3⟩
 ·induction x using aN<;>first|exact ak h|skip
  refine bu i fun a vs k i1 i2 i3=>?_;clear i;exact ⟨a,vs,k,e1.trans i1,oZ M h i2,i3⟩
 ·induction x using aN<;>first|exact ak h|skip
  refine cK i fun a o us i1 i2 i3 i4 i5=>?_;clear i;exact ⟨a,o,us,e1.trans i1,i2,i3,w6 M h i4,i5⟩
 ·induction x using aN<;>first|exact ak h|skip
  have h1:=an1 h;have h2:=an2 h;have h3:=an1 h1;have h4:=an2 h1;have h5:=an1 h2;have h6:=an2 h2;refine bZ i fun a o ep i1 i2 i'5 i3=>?_;clear i;refine gE i'5 fun es r1 r2 r3 r4=>?_;clear i'5;refine aR r3 fun ka u q1 q2 q3=>?_;clear r3;rw[Nat.eq_of_beq_eq_true h4,<-M.ρ _ h3]at q2;rw[bQ h5]at q1;exact ⟨a,o,ep,e1.trans i1,i2,⟨es,r1,r2,⟨ka,u,q1,q2,fc M h6 q3⟩,r4⟩,i3⟩
 ·rename_i kvs
  induction x using aN<;>first|exact ak h|skip
  ·have h1:=an1 h;have h2:=an2 h;refine cK i fun a o us i1 i2 i3 i4 i5=>?_;clear i;refine ⟨a,o,us,e1.trans i1,i2,i3,⟨fun e he=>mz h1 ?_,fun y a hy=>?_⟩,i5⟩
   ·rw[<-i4.names];exact cP he
   ·refine aj (aZ (gY h2 (y,a) (aU hy))) fun b g1 g2=>?_;refine fc M g2 ?_;rename_i kvs' _;generalize hl:aw kvs' y=x';induction x' using aF with
    |some b'=>
     rw[hl]at g1;obtain rfl:=soo g1;refine aj (i4.val.1 hl) fun u q1 q2=>?_;rw[q1];exact q2
    |none=>
     rw[hl]at g1;obtain rfl:AV.non=b:=soo g1;rw[i4.val.2 hl];rfl
  ·have h1:=an1 h;have h2:=an2 h;refine cK i fun a o us i1 i2 i3 i4 i5=>?_;clear i;refine ⟨a,o,us,e1.trans i1,i2,i3,⟨fun e he=>mz h1 (i4.ks e he),fun y a hy=>?_⟩,i5⟩;refine aj (aZ (gY h2 (y,a) (aU hy))) fun b g1 g2=>?_;rw[Option.or_none]at g1;exact fc M g2 (i4.at_ _ _ g1)
end
def fy (m:Rn):List (Nat×AO)->List (Nat×AO)->Bool
 |[],_=>true
 |p::r,os=>(m.r p.1&&!m.e p.1)&&cV (aa os (m.f p.1)) fun x=>Fm m x p.2&&fy m r (aL os (m.f p.1))
def de (f:Nat->Nat):List (Nat×AO)->List (Nat×AO)->List (Nat×AO)
 |[],os=>os
 |p::r,os=>de f r (aL os (f p.1))
set_option tactic.hygienic true in
theorem Led.ref {w:World}{W V:Vl}{fl:FL}{tl:L2}{m:Rn}(M:m.Ok W V)(os':List (Nat×AO)):∀{os:List (Nat×AO)} {news:L2},fy m os' os=true->Led w W fl tl os news->∃n1 n2,(n1++n2).Perm news/\Led w V fl [] os' n1/\Led w W fl tl (de m.f os' os) n2:=by
 induction os' with
 |nil=>exact fun {os news} _ D=>⟨[],news,.refl _,.nil,D⟩
 |cons p r ih=>
  intro os news h D;obtain ⟨c,y⟩:=p;have h1:=an1 h;have h2:=an2 h;have h0:=an2 h1;have h1:=an1 h1;refine aj (aZ h2) fun x h3 h4=>?_;have h5:=an2 h4;have h4:=an1 h4;refine aj (D.perm (bk h3)) fun news' D' p1=>?_
  induction D' using Led.cs with
  |cons i D''=>
   rename_i l news'';refine aR (ih h5 D'') fun n1 n2 p2 q1 q2=>?_;refine ⟨l++n1,n2,?_,.cons (w7 M h1 ((Bool.not_eq_true' _).mp h0) h4 i) q1,q2⟩;rw[List.append_assoc];exact (p2.append_left l).trans p1
noncomputable abbrev Dx.sub (d:Dx) (tb:Tb) (n:L2):Dx:={ d with tb:=tb,f:={ d.f with cm:=none },tl:=n }
noncomputable abbrev Dx.fr0 (d:Dx):AF:=⟨d.f.cs,[],[],none,none⟩
section
variable {d:Dx}{V W V':Vl}{fr:AF}{σ σ':ST}{s:Shared}{tb:Tb}
theorem At.sub (a:At d V fr σ s){m:Str->Option Value}{news n2 n':L2}{os':List (Nat×AO)}{nx:Nat}(X:Sx d V fr σ.os s.heap m news)(O:dB d.w d.K tb)(D:Led d.w V' tb.flds n2 os' n')(p:∀z∈n',z∈news)(nd:(n'.map (·.1)).Nodup)(v:Vx V' nx) :
  At (d.sub tb n2) V' d.fr0 ⟨os',nx⟩ s:=
 ⟨⟨O,a.c.B,a.c.hA,a.c.hh,a.c.hg,a.c.hf,a.c.hf,a.c.T,a.c.X⟩,⟨trivial,trivial,rfl,fun x i h=>ag h⟩,v,m,n',X.F,fun z hz=>X.N z (p z hz),D,nd,fun x v h=>ag h⟩
theorem At.back' (a:At d V fr σ s){h':Heap}{tk:Nat}{m:Str->Option Value}{news:L2}(le:V.le W)(X:Sx d V fr σ.os s.heap m news)(ff:∀m,Fr d.h₀ d.f.L s.heap m->Fr d.h₀ d.f.L h' m){n':L2}(N:News d.h₀ d.f.L h' n')(D:Led d.w W d.tb.flds d.tl σ'.os n')(nd:(n'.map (·.1)).Nodup)(v:Vx W σ'.nx) :
  At d W fr σ' (Shared.to s h' tk):=a.put le X (ff m X.F) N D nd v
end
theorem aW {a b:L2}(p:a.Perm b)(h:(b.map (·.1)).Nodup):(a.map (·.1)).Nodup:=(p.map _).nodup_iff.mpr h
noncomputable def tx (x:Str):AV:=.str x.cps.toList
def opV (c:Option Nat) (u:Nat):AV:=@Bool.rec (fun zz=>AV) (.opt (300+u)) (.obj 8) (@Option.rec Nat (fun zz=>Bool) false (fun i=>Nat.beq i u) c)
def qw (c:Option Nat):List (Str×AV):=[(s!"BasicObject",.obj 5),(s!"Object",.obj 4),(s!"Module",.obj 7),(s!"Class",.obj 6),(s!"Kernel",.rn),(s!"Comparable",.rn),(s!"Enumerable",.rn),(s!"NilClass",.rn),(s!"TrueClass",opV c 7),(s!"FalseClass",.rn),(s!"Numeric",.opn 305),(s!"Integer",opV c 5),(s!"String",opV c 0),(s!"Symbol",opV c 6),(s!"Array",opV c 1),(s!"Hash",opV c 2),(s!"Range",opV c 3),(s!"Proc",.rn),(s!"Fiber",.rn),(s!"Exception",.opn 304),(s!"ScriptError",.rn),(s!"NotImplementedError",.rn),(s!"SystemStackError",.rn),(s!"StandardError",.opn 304),(s!"ArgumentError",.rn),(s!"UncaughtThrowError",.rn),(s!"FiberError",.rn),(s!"IndexError",.rn),(s!"KeyError",.rn),(s!"StopIteration",.rn),(s!"LocalJumpError",.rn),(s!"NameError",.rn),(s!"NoMethodError",.rn),(s!"NoMatchingPatternError",.rn),(s!"NoMatchingPatternKeyError",.rn),(s!"RangeError",.rn),(s!"RuntimeError",.opn 304),(s!"FrozenError",opV c 4),(s!"TypeError",.rn),(s!"ZeroDivisionError",.rn)]
noncomputable def clN:List Str:=[s!"String",s!"Array",s!"Hash",s!"Range",s!"FrozenError",s!"Integer",s!"Symbol",s!"TrueClass"]
def clF (x:Str) (cl:Bool):List (Str×AV):=[(s!"name",tx x),(s!"native",tx x),(s!"is_class",.boo cl),(s!"attached",.non),(s!"outer",.non)]
def clB (x:Str) (n p:AV):AO:=.inst 228 100 ((s!"number",n)::(s!"parent",p)::clF x true)
noncomputable def dw (n v:AV):AO:=.inst 952 15 [(s!"natives",.obj 2),(s!"prelude",.obj 3),(s!"last_number",n),(s!"made",.obj 1),(s!"version",v),(s!"is_ready",.boo true)]
def clG (x:Str):List (Str×AV):=(s!"number",.ai)::clF x true
def opm (x:Str) (u:Nat):Nat×AO:=(10+u,.opm (300+u) (clG x))
def fD:List Str->Nat->Option Nat->List (Nat×AO)
 |[],_,_=>[]
 |x::r,u,c=>@Bool.rec (fun zz=>List (Nat×AO)) (opm x u::fD r (u+1) c) ((8,.inst 228 100 ((s!"number",.si 101 0)::clF x true))::(10+u,.tie (300+u) 8)::fD r (u+1) c) (@Option.rec Nat (fun zz=>Bool) false (fun i=>Nat.beq i u) c)
def wOs (c:Option Nat):List (Nat×AO):=(0,dw (.si 0 0) (.si 100 0))::(1,.fdc (qw c))::(2,.dic [])::(3,.dic [])::
 (4,clB s!"Object" (.int 2) (.obj 5))::(5,clB s!"BasicObject" (.int 3) .non)::(6,clB s!"Class" (.int 4) (.obj 7))::(7,clB s!"Module" (.int 5) (.obj 4))::fD clN 0 c
structure Sh where
 s:Nat
 fz:AV
 rf:Bool
 n:Nat
 ms:List Nat
noncomputable def Fn:List (Str×AV):=[(s!"@a",.uv 1000),(s!"@b",.uv 1001)]
noncomputable def thg (sh:Sh)(C o:Nat)(fs:List (Str×AV)):Nat×AO:=(41,.inst C 30 ((s!"number",.si 1 0)::(s!"owner",.obj o)::(s!"fields",.obj 43)::(s!"own",.non)::(s!"frozen",.boo sh.rf)::fs))
def ntL (sh:Sh) (v inner:AV):List (Nat×AO):=[(40,.lst [v,.int sh.s,sh.fz,.obj 42,inner]),(42,.fdc Fn)]
def ntT (sh:Sh) (C o:Nat) (inner:AV) (fs:List (Str×AV)) (r:List (Nat×AO)):List (Nat×AO):=ntL sh (.obj 41) inner++(thg sh C o fs::(43,.fdc Fn)::r)
noncomputable def uvs:Nat->Nat->List AV
 |0,_=>[]
 |n+1,k=>.uv k::uvs n (k+1)
noncomputable def yH:List Nat->Nat->List (Str×AV)
 |[],_=>[]
 |m::r,i=>(⟨⟨[m]⟩⟩,.obj (50+i))::yH r (i+1)
def Fo:List Nat->Nat->List (Nat×AO)
 |[],_=>[]
 |m::r,i=>(50+i,.inst 256 20 [(s!"name",.str [m]),(s!"sort",tx s!"reader"),(s!"params",.non),(s!"body",tx s!"@a"),(s!"sight",tx s!"public"),(s!"nesting",.obj (60+i)),(s!"code",.non)])::Fo r (i+1)
noncomputable def Fp (n:Nat):AV:=match n with|0=>.int (-1)|1=>.str [97]|_=>.boo true
def mA (sh:Sh):List (Nat×AO):=match sh.s with
 |0=>ntT sh 40 4 .non [] []
 |1=>ntT sh 62 8 (.ss [] 41 []) [(s!"text",.ss [] 41 [])] []
 |2=>ntT sh 82 8 (.obj 45) [(s!"items",.obj 44)] [(44,.lst (uvs sh.n 1010)),(45,.lst (uvs sh.n 1010))]
 |3=>match sh.n with
  |0=>ntT sh 120 8 (.obj 45) [(s!"rows",.obj 44),(s!"spare",.uv 1003)] [(44,.dic []),(45,.lst [.obj 47,.uv 1003]),(47,.lst [])]
  |_=>ntT sh 120 8 (.obj 45) [(s!"rows",.obj 44),(s!"spare",.uv 1003)] [(44,.rws 46 [s!"sym",s!"a"] (.obj 49)),(46,.tup [tx s!"sym",tx s!"a"]),(49,.lst [tx s!"a",.uv 1002]),(45,.lst [.obj 47,.uv 1003]),(47,.lst [.obj 48]),(48,.lst [tx s!"a",.uv 1002])]
 |4=>ntT sh 140 8 (.obj 45) [(s!"first",.int (.ofNat sh.n)),(s!"last",.non),(s!"open",.boo false)] [(45,.lst [.int (.ofNat sh.n),.non])]
 |5=>ntT sh 228 6 (.obj 45) ((s!"name",.non)::(s!"is_class",.boo true)::(s!"parent",.obj 4)::(s!"outer",.non)::(s!"methods",.obj 44)::(s!"constants",.obj 46)::(s!"mixed",.obj 47)::(s!"ahead",.obj 48)::(s!"attached",.non)::(s!"native",.non)::[])
   ([(44,.dic (yH sh.ms 0)),(45,.lst (sh.ms.map fun m=>.str [m])),(46,.dic []),(47,.lst []),(48,.lst [])]++Fo sh.ms 0)
 |_=>[(40,.lst [Fp sh.n,.int sh.s,sh.fz,.obj 42,Fp sh.n]),(42,.dic [])]
noncomputable def iA (sh:Sh):Option Nat:=match sh.s with
 |1=>some 0
 |2=>some 1
 |3=>some 2
 |4=>some 3
 |_=>none
def A5 {β:Type} (v:AV) (σ:ST) (k:Nat->Nat->List (Nat×AV)->R β):R β:=eE v σ fun i o=>match o with|.bx b ds=>k i b ds|_=>.no
def hkT:CL:=fun g vs σ=>gd (Nat.beq g 970) (on2 vs fun b m=>bV m fun mi=>A5 b σ fun i n ds=>match ds with|p::r=>gd (Z.eqB mi (.ofNat p.1)&&mw [2,3,4,5,6,8] p.1) (.ok p.2 (upO i (.bx (n+1) r) σ))|[]=>.no)
def Fq:Str:=S [109,97,100,101]
def yI:Str:=S [108,97,115,116,95,110,117,109,98,101,114]
noncomputable def tkM:List Nat:=[2,3,4,5,6,8]
def tkR (a b:AV) (m:Nat):R AV:=(ev dE 20).cl 970 [.obj 0,.int (.ofNat m)] ⟨[(0,.lst [a,b])],1⟩
theorem tk1:tkM.map (tkR (.ar (.v 200)) (.ar (.v 1)))=tkM.map fun m=>.ok (.ar (.md (.v 200) (.ofNat m))) ⟨[(0,.lst [.ar (.dv (.v 200) (.ofNat m)),.ar (.add (.v 1) (.c (.ofNat 1)))])],4⟩:=by kernel_rfl
theorem tk0:(List.range 64).map (fun k=>tkM.map (tkR (.int 0) (.int (.ofNat k))))=(List.range 64).map fun k=>tkM.map fun m=>.ok (.int (.ofNat (tkN 0 k m).1)) ⟨[(0,.lst [.int (.ofNat 0),.int (.ofNat (k+1))])],4⟩:=by kernel_rfl
noncomputable def iB (n k:Nat)(i:Nat):Int:=if i < 200 then k else if i < 1000 then n else 0
theorem A6 {n k:Nat}(h:1<=n):bK (iB n k):=by
 refine ⟨fun i hi=>?_,fun i hi=>?_,fun i h1 h2=>?_⟩
 ·unfold iB;rw[if_pos (by lia),if_pos (by lia)];exact Int.le_refl _
 ·unfold iB;rw[if_neg (by lia),if_neg (by lia)];lia
 ·unfold iB;rw[if_neg (by lia),if_pos (by lia)];lia
theorem tM {n k m:Nat}(hk:k < 64)(hm:m∈tkM):∃a b v a' b',tkR a b m=.ok v ⟨[(0,.lst [a',b'])],4⟩/\∀V:Vl,V.ι=iB (max n 1) k->(∀t,Den V a (.int (n:Nat) t))/\(∀t,Den V b (.int (k:Nat) t))/\(∀u,Den V v u->∃t,u=.int ((tkN n k m).1:Nat) t)/\
  (∀u,Den V a' u->∃t,u=.int ((tkN n k m).2:Nat) t)/\(∀u,Den V b' u->∃t,u=.int ((k+1:Nat):Int) t):=by
 cases n with
 |zero=>
  refine ⟨_,_,_,_,_,aq (aq tk0 k (eo hk)) m hm,fun V hV=>⟨fun t=>⟨t,rfl⟩,fun t=>⟨t,rfl⟩,fun u d=>d,fun u d=>?_,fun u d=>d⟩⟩;refine av d fun t d'1=>?_;clear d;obtain rfl:=d'1;exact ⟨t,by unfold tkN;rw[if_pos rfl];rfl⟩
 |succ n=>
  have e1:∀V:Vl,V.ι=iB (max (n+1) 1) k->V.ι 200=((n+1:Nat):Int):=fun V h=>by rw[h];unfold iB;rw[if_neg (by lia),if_pos (by lia),Nat.max_eq_left (by lia)]
  have e2:∀V:Vl,V.ι=iB (max (n+1) 1) k->V.ι 1=(k:Int):=fun V h=>by rw[h];unfold iB;rw[if_pos (by lia)]
  refine ⟨_,_,_,_,_,aq tk1 m hm,fun V hV=>⟨fun t=>⟨t,congrArg (Value.int · t) (e1 V hV).symm⟩,fun t=>⟨t,congrArg (Value.int · t) (e2 V hV).symm⟩,fun u d=>?_,fun u d=>?_,fun u d=>?_⟩⟩
  ·refine av d fun t d'1=>?_;clear d;obtain rfl:=d'1;refine ⟨t,congrArg (Value.int · t) ?_⟩;show Int.fmod (V.ι 200) (Int.ofNat m)=_;rw[e1 V hV];unfold tkN;rw[if_neg (Nat.succ_ne_zero n)];rfl
  ·refine av d fun t d'1=>?_;clear d;obtain rfl:=d'1;refine ⟨t,congrArg (Value.int · t) ?_⟩;show Int.fdiv (V.ι 200) (Int.ofNat m)=_;rw[e1 V hV];unfold tkN;rw[if_neg (Nat.succ_ne_zero n)];rfl
  ·refine av d fun t d'1=>?_;clear d;obtain rfl:=d'1;refine ⟨t,congrArg (Value.int · t) ?_⟩;show V.ι 1+Int.ofNat 1=_;rw[e2 V hV];rfl
theorem Snd.bx {β:Type}{v:AV}{σ:ST}{Φ:β->ST->Prop}{k:Nat->Nat->List (Nat×AV)->R β}(h:∀i b ds,v=.obj i->aa σ.os i=some (.bx b ds)->Snd (k i b ds) Φ):Snd (A5 v σ k) Φ:=
 Snd.ao fun i o hv ho=>by induction o using aN<;>first|exact Snd.no|exact h i _ _ hv ho
theorem jp {pre post:L2}{z:Addr×Obj}:(z::(pre++post)).Perm (pre++z::post):=List.perm_middle.symm
theorem A7 {n:Nat}(hn:20<=n):COk tbT n hkT:=by
 intro g vs σ v σ' q d V fr us ht rm dv;refine Snd.of q (Φ:=fun v σ'=>TC d V fr σ g us v σ') (Snd.gd fun hg=>aK hg▸Snd.n2 dv fun b mv u1 u2 e q1 q2=>e▸Snd.int fun mi hmi=>Snd.bx fun i bb ds hb ho=>?_)
 induction ds using aV with
 |nil=>exact Snd.no
 |cons p r=>
  obtain ⟨m,a⟩:=p;refine Snd.gd fun hm=>Snd.ok fun s R at_ P=>at_.stK fun mm news X=>?_;have h1:=an1 hm;have h2:=an2 hm;obtain rfl:=(Z.eqB_iff _ _).mp h1;refine av (q2.i hmi) fun t2 z'1=>?_;obtain rfl:=z'1;refine bu (X.D.split ho) fun pre l post e1 hi up=>?_;refine y4 hi fun x o vs k1 n0 k t1' t2' hρ hi'9 hi'10 hi'11 hi'12=>?_;clear hi;obtain rfl:=hi'9;obtain rfl:=hi'10;refine ay hi'11 fun hkb htk=>?_;clear hi'11;obtain rfl:=hi'12;subst e1;rw[hb]at q1;refine aj q1 fun x' hρ' q1'2=>?_;clear q1;obtain rfl:=q1'2;obtain rfl:=soo (hρ.symm.trans hρ');refine bU htk fun htk'0 hdig hrest=>?_;clear htk;refine ay htk'0 fun hm0 hk=>?_;clear htk'0;refine HA (tM (n:=n0) hk (cT h2)) fun a1 a2 dv' b1 b2 hrun hden=>?_;have V' :∃V':Vl,V'=⟨fun j=>if j=0 then some x else none,fun zz=>none,iB (max n0 1) k,fun zz=>none⟩:=⟨_,rfl⟩
  obtain ⟨V',hV'⟩:=V';refine yZ (hden V' (by rw[hV'])) fun d1 d2 d3 d4 d5=>?_;have hx0:V'.ρ 0=some x:=by rw[hV'];rfl
  have ob:∃ob:Obj,ob={ cls:=.type "list",data:=.seq #[.int (n0:Nat) t1',.int (k:Nat) t2'] k1 }:=⟨_,rfl⟩
  obtain ⟨ob,hob⟩:=ob;rw[<-hob]at X;have pm:((x,ob)::(pre++post)).Perm (pre++(x,ob)::post):=jp;have D1:Led d.w V' tbT.flds (pre++post) [(0,.lst [a1,a2])] ((x,ob)::(pre++post)):=.cons (l:=[(x,ob)]) (hob▸Is.lst (vs:=[.int (n0:Nat) t1',.int (k:Nat) t2']) hx0 (show Dens V' [a1,a2] [.int (n0:Nat) t1',.int (k:Nat) t2'] from ⟨d1 _,d2 _,trivial⟩)) .nil;have at':=at_.sub (nx:=1) X (ht▸at_.c.O) D1 (fun z hz=>pm.mem_iff.mp hz) (aW pm X.nd)
   ⟨fun j hj=>⟨by rw[hV'];exact if_neg (by lia),by rw[hV'],by rw[hV']⟩,by rw[hV'];exact A6 (by lia),fun k l h=>by rw[hV']at h;exact ag h⟩
  refine (bw bR 20).cl (d:=d.sub tbT (pre++post)) (fr:=d.fr0) hrun rfl (rm.mono hn) (us:=[.ref x,.int (.ofNat m) t2]) (show Dens V' [.obj 0,.int (.ofNat m)] [.ref x,.int (.ofNat m) t2] from ⟨⟨x,hx0,rfl⟩,⟨t2,rfl⟩,trivial⟩) s R at' fun u h tk W le du at'' ff=>at''.stK fun m'' news'' X''=>?_;refine yZ (hden W (by rw[le.ι,hV'])) fun d1' d2' d3' d4' d5'=>?_;have D'':=X''.D
  induction D'' using Led.cs with
  |cons ii D3=>
   induction D3 using Led.ns
   refine bu ii fun y ws kk w1 w2 ii'5=>?_;clear ii;obtain rfl:=ii'5;obtain rfl:=soo ((le.ρ _ _ hx0).symm.trans w1);refine aR w2.i2 fun c1 c2 z'2 w3 w4=>?_;obtain rfl:=z'2;refine av (d4' _ w3) fun t3 z'1=>?_;obtain rfl:=z'1;refine av (d5' _ w4) fun t4 z'1=>?_;obtain rfl:=z'1;refine av (d3' _ du) fun t5 z'1=>?_;obtain rfl:=z'1;exact P _ h tk V (.refl V) (hdig t5) (at_.back' (n':=pre++([(x,{ cls:=.type "list",data:=.seq [Value.int ((tkN n0 k m).2:Nat) t3,.int ((k+1:Nat):Int) t4].toArray kk })]++post)) (.refl V) X ff (fun z hz=>X''.N z ((jp (pre:=pre) (post:=post)).mem_iff.mpr hz)) (up _ _ (Is.bx hρ rfl rfl ⟨Nat.succ_le_succ hkb,hrest⟩)) (aW (jp (pre:=pre) (post:=post)).symm X''.nd) at_.v) ff
def cX:List Str:=(qw none).map (·.1)
noncomputable def cG (f:Nat->AV):List Str->Nat->List (Str×AV)
 |[],_=>[]
 |x::r,i=>(x,f i)::cG f r (i+1)
def ovr (l:List (Nat×AV)) (h:Nat->AV) (i:Nat):AV:=@Option.rec _ (fun zz=>AV) (h i) (fun v=>v) (aa l i)
def kU (l:List (Nat×AV)) (h:Nat->AV):List (Str×AV):=cG (ovr l h) cX 0
noncomputable def bj:Nat->Nat
 |0=>12|1=>14|2=>15|3=>16|4=>37|5=>11|6=>13|_=>8
noncomputable def jq:Nat->List Nat
 |4=>[36,23,19]|5=>[10]|_=>[]
noncomputable def cJ:Nat->List Nat
 |0=>[5]|1=>[6]|2=>[6]|3=>[6]|5=>[5]|6=>[5]|_=>[]
noncomputable def gk:List (Nat×AV):=[(0,.obj 5),(1,.obj 4),(2,.obj 7),(3,.obj 6)]
def bOs:List (Nat×AO):=((wOs none).take 8).drop 2
def nmU (u:Nat):Str:=(bp clN u).getD ⟨#[]⟩
def Fs (u:Nat) (mx:List AV) (k:Nat) (o:Int) (vv:AV) (h:Nat->AV):R AV:=
 (ev dE 90).cl 754 [.obj 0,tx (nmU u)] ⟨(0,dw (.hi k o) vv)::(1,.fdc (kU ((bj u::jq u).map (fun i=>(i,AV.non))++((cJ u).zip mx++gk)) h))::bOs,60⟩
def A8 (u:Nat) (a:Addr) (k:Nat) (o:Int) (vv:AV) (h:Nat->AV):R AV:=
 (ev dE 90).cl 754 [.obj 0,tx (nmU u)] ⟨[(0,dw (.hi k o) vv),(1,.fdc (kU [(bj u,.st a)] h))],60⟩
def A9 (r:R AV):Bool:=@R.rec AV (fun zz=>Bool) (fun zz zz=>true) false r
def vOf (r:R AV):AV:=@R.rec AV (fun zz=>AV) (fun v zz=>v) .non r
def sOf (r:R AV):ST:=@R.rec AV (fun zz=>ST) (fun zz σ=>σ) ⟨[],0⟩ r
noncomputable def qx (o:Int):Nat->Int
 |0=>o
 |n+1=>Int.add (qx o n) 1
noncomputable def mId:Rn:=⟨fun c=>Nat.blt c 8,fun c=>c,fun zz=>.non,fun zz=>false,fun zz=>false⟩
def qy (u:Nat) (o:Option AO):Bool:=cV o fun a=>match a with|.inst C n fs=>Nat.beq C 228&&(Nat.ble n 100&&rfF mId fs none (clG (nmU u)))|_=>false
noncomputable def qz:List (Nat×Bool):=[(0,true),(0,false),(1,true),(1,false),(2,true),(2,false),(3,true),(3,false),(5,true),(5,false),(6,true),(6,false),(4,true),(7,true)]
def tN (q:Nat×Bool) (c:Addr):List AV:=match cJ q.1 with|[]=>[]|_=>[@Bool.rec (fun zz=>AV) (.st c) .non q.2]
def gO (q:Nat×Bool) (c:Addr):List (Nat×AV):=(bj q.1,.obj 73)::(match q.1 with|4=>[(36,.obj 103),(23,.obj 133),(19,.obj 163)]|5=>[(10,.obj 103)]|_=>[])++((cJ q.1).zip [@Bool.rec (fun zz=>AV) (.st c) (.obj (match q.1 with|5=>143|_=>113)) q.2]++gk)
def Ft (q:Nat×Bool):Nat:=(match q.1 with|4=>3|5=>1|_=>0)+(match cJ q.1 with|[]=>1|_=>1+q.2.toNat)
structure Prj where
 b:Bool
 v:AV
 w:Option AO
 d:Option AO
 m:Bool
 r:List (Option AO)
def prj (u:Nat) (r:R AV):Prj:=⟨A9 r,vOf r,aa (sOf r).os 0,aa (sOf r).os 1,qy u (aa (sOf r).os 73),bOs.map fun p=>aa (sOf r).os p.1⟩
theorem w8 (c:Addr)(k:Nat)(o:Int)(vv:AV)(h:Nat->AV):qz.map (fun q=>prj q.1 (Fs q.1 (tN q c) k o vv h))=qz.map fun q=>⟨true,.obj 73,some (dw (.hi k (qx o (Ft q))) vv),some (.fdc (kU (gO q c) h)),true,bOs.map fun p=>some p.2⟩:=by kernel_rfl
theorem w9 (a:Addr)(k:Nat)(o:Int)(vv:AV)(h:Nat->AV):(List.range 8).map (fun u=>A8 u a k o vv h)=(List.range 8).map fun u=>.ok (.st a) (sOf (A8 u a k o vv h)):=by kernel_rfl
theorem tO (a:Addr)(k:Nat)(o:Int)(vv:AV)(h:Nat->AV):(List.range 8).map (fun u=>(sOf (A8 u a k o vv h)).os)=(List.range 8).map fun u=>[(0,dw (.hi k o) vv),(1,.fdc (kU [(bj u,.st a)] h))]:=by kernel_rfl
noncomputable def hiK:AV->Option (Nat×Int)
 |.si k o=>some (k,o)
 |.hi k o=>some (k,o)
 |_=>none
noncomputable def ioB:AV->Bool
 |.si _ _=>true
 |.hi _ _=>true
 |.int _=>true
 |_=>false
noncomputable def tP:AV->Bool
 |.obj _=>true
 |.opt _=>true
 |.opn _=>true
 |.rn=>true
 |_=>false
def stV (V:Vl) (a:AV):AV:=match a with
 |.obj i=>@Option.rec _ (fun zz=>AV) .rn (fun x=>.st x) (V.ρ i)
 |a=>a
noncomputable def tQ:AV->Bool
 |.obj _=>true
 |.st _=>true
 |.rn=>true
 |.non=>true
 |_=>false
section
variable {V W:Vl}{a:AV}{v:Value}
theorem kW {p:Nat×Int}(h:hiK a=some p)(d:Den V a v):Den V (.hi p.1 p.2) v:=by
 induction a using aA<;>first|exact ag h|obtain rfl:=soo h
 ·refine av d fun t d'1=>?_;clear d;obtain rfl:=d'1;exact ⟨_,t,rfl,Int.le_refl _⟩
 ·exact d
theorem kX (h:ioB a=true)(e:W.ι=V.ι)(d:Den V a v):Den W a v:=by
 induction a using aA<;>first|exact ak h|skip
 ·exact d
 ·refine av d fun t d'1=>?_;clear d;obtain rfl:=d'1;exact ⟨t,by rw[e]⟩
 ·obtain ⟨i,t,rfl,d⟩:=d;exact ⟨i,t,rfl,by rw[e];exact d⟩
theorem o4 (h:tP a=true)(e:W.ι=V.ι)(d:Den V a v):Den W (stV V a) v:=by
 induction a using aA<;>first|exact ak h|skip
 ·refine aj d fun x d1 d'2=>?_;clear d;obtain rfl:=d'2;show Den W (@Option.rec _ (fun zz=>AV) .rn (fun x=>.st x) (V.ρ _)) _;rw[d1];rfl
 ·show (W.ι _=-1/\_)\/(W.ι _≠-1/\_);rw[e];exact d
 ·show W.ι _=-1->_;rw[e];exact d
 ·exact d
theorem tR {V':Vl}{v':Value}(h:tP a=true)(e:W.ι=V.ι)(le:V.le V')(d0:Den V a v')(d:Den W (stV V a) v):Den V' a v:=by
 induction a using aA<;>first|exact ak h|skip
 ·refine aj d0 fun x d1 d0'2=>?_;clear d0;obtain rfl:=d0'2;have d:Den W (@Option.rec _ (fun zz=>AV) .rn (fun x=>.st x) (V.ρ _)) v:=d;rw[d1]at d;exact ⟨x,le.ρ _ _ d1,d⟩
 ·show (V'.ι _=-1/\_)\/(V'.ι _≠-1/\_);rw[le.ι,<-e];exact d
 ·show V'.ι _=-1->_;rw[le.ι,<-e];exact d
 ·exact d
theorem tS (h:tQ a=true)(d:Den W a v):v=.none\/∃x,v=.ref x:=by
 induction a using aA<;>first|exact ak h|skip
 ·exact .inl d
 ·refine aj d fun x zy d'2=>?_;clear d;obtain rfl:=d'2;exact .inr ⟨x,rfl⟩
 ·exact .inr ⟨_,d⟩
 ·exact d
end
theorem gP (f:Nat->AV):∀(l:List Str) (n:Nat),(cG f l n).map (·.1)=l
 |[]=>fun zz=>rfl
 |x::r=>fun n=>by show x::(cG f r (n+1)).map (·.1)=_;rw[gP f r]
theorem j9 {f:Nat->AV}{y:Str}{a:AV}:∀{l:List Str} {n:Nat},aw (cG f l n) y=some a->∃j,a=f (n+j)/\∀g:Nat->AV,aw (cG g l n) y=some (g (n+j))
 |[],_=>fun h=>ag h
 |x::r,n=>fun h=>by
  have e:∀g:Nat->AV,aw (cG g (x::r) n) y=if x=y then some (g n) else aw (cG g r (n+1)) y:=fun g=>aY (x,g n) _ _;rw[e]at h;by_cases q:x=y
  ·rw[if_pos q]at h;exact ⟨0,(soo h).symm,fun g=>by rw[e,if_pos q];rfl⟩
  ·rw[if_neg q]at h;refine aj (j9 h) fun j h1 h2=>?_;exact ⟨j+1,by rw[h1,Nat.add_assoc,Nat.add_comm 1],fun g=>by rw[e,if_neg q,h2,Nat.add_assoc,Nat.add_comm 1]⟩
theorem qA {V V':Vl}{f g:Nat->AV}{us:List (Str×Value)}(m:FdcOk V (cG g cX 0) us)(c:∀i y,(∀g:Nat->AV,aw (cG g cX 0) y=some (g i))->Den V (g i) ((valueAt us y).getD .none)->Den V' (f i) ((valueAt us y).getD .none)):FdcOk V' (cG f cX 0) us:=
 ⟨fun e he=>by rw[gP];rw[<-gP g cX 0];exact m.ks e he,fun y a h=>by
  refine aj (j9 h) fun j h1 h2=>?_;rw[Nat.zero_add]at h1;have h2:∀g:Nat->AV,aw (cG g cX 0) y=some (g j):=fun g=>by rw[h2 g,Nat.zero_add]
  rw[h1];exact c j y h2 (m.at_ y _ (h2 g))⟩
theorem nK:∀(kvs:List (Str×AV)) (pre:List AV),kvs=cG (fun i=>(pre++kvs.map (·.2)).getD i .rn) (kvs.map (·.1)) pre.length
 |[]=>fun zz=>rfl
 |p::r=>fun pre=>by
  obtain ⟨x,a⟩:=p;have ih:=nK r (pre++[a]);rw[List.append_assoc,List.length_append]at ih;show (x,a)::r=(x,(pre++a::r.map (·.2)).getD pre.length .rn)::cG _ _ (pre.length+1);rw[show (pre++a::r.map (·.2)).getD pre.length .rn=a by simp];exact congrArg _ ih
def wF (n v:AV):List (Str×AV):=[(S [110,97,116,105,118,101,115],.obj 2),(S [112,114,101,108,117,100,101],.obj 3),(yI,n),(Fq,.obj 1),(S [118,101,114,115,105,111,110],v),(S [105,115,95,114,101,97,100,121],.boo true)]
def Fu (a b:List (Str×AV)):Bool:=dC (a.map (·.1)) (b.map (·.1))
noncomputable def on6 {α β:Type}(l:List α)(k:α->α->α->α->α->α->Option β):Option β:=match l with
 |[a,b,c,d,e,f]=>k a b c d e f
 |_=>none
theorem Ba {α β:Type}{k:α->α->α->α->α->α->Option β}{r:β}:∀{l:List α},on6 l k=some r->∃a b c d e f,l=[a,b,c,d,e,f]/\k a b c d e f=some r
 |[a,b,c,d,e,f]=>fun h=>⟨a,b,c,d,e,f,rfl,h⟩
 |[]|[_]|[_,_]|[_,_,_]|[_,_,_,_]|[_,_,_,_,_]|_::_::_::_::_::_::_::_=>fun h=>ag h
def wOf (o:AO):Option (AV×AV):=match o with
 |.inst C n fs=>on6 fs fun a b c d e f=>gdO ((Nat.beq C 952&&Nat.ble n 15)&&(Fu [a,b,c,d,e,f] (wF .non .non)&&(bF a.2 (.obj 2)&&(bF b.2 (.obj 3)&&(bF d.2 (.obj 1)&&bF f.2 (.boo true)))))) (c.2,e.2)
 |_=>none
set_option tactic.hygienic true in
theorem tT {o:AO}{n v:AV}(h:wOf o=some (n,v)):∃m,m<=15/\o=.inst 952 m (wF n v):=by
 induction o using aN<;>first|exact ag h|skip
 rename_i C m fs;refine HF (Ba h) fun a b c d e f z'6 g=>?_;obtain rfl:=z'6;refine ay (ci g) fun g2 r=>?_;refine ay (bo r) fun z'0 z'1=>?_;obtain rfl:=z'0;obtain rfl:=z'1;have h1:=an1 g2;have h2:=an2 g2;have h6:=an2 h2;have h8:=an2 h6;have g1:=an2 h8;refine ⟨m,az (an2 h1),?_⟩;rw[Nat.eq_of_beq_eq_true (an1 h1)];have q:=bQ (an1 h2);refine ay (cM q) fun q1 q=>?_;refine ay (cM q) fun q2 q=>?_;refine ay (cM q) fun q3 q=>?_;refine ay (cM q) fun q4 q=>?_;refine ay (cM q) fun q5 q=>?_;exact congrArg (AO.inst 952 m) (congr (congrArg List.cons (Prod.ext q1 (aX (an1 h6)))) (congr (congrArg List.cons (Prod.ext q2 (aX (an1 h8)))) (congr (congrArg List.cons (Prod.ext q3 rfl)) (congr (congrArg List.cons (Prod.ext q4 (aX (an1 g1)))) (congr (congrArg List.cons (Prod.ext q5 rfl)) (congr (congrArg List.cons (Prod.ext (cM q).1 (aX (an2 g1)))) rfl))))))
theorem fm {α:Type}{P:α->Prop}{y:α}{l:List α}(h:P y)(t:∀x∈l,P x):∀x∈y::l,P x:=List.forall_mem_cons.mpr ⟨h,t⟩
theorem wK {w:World}{fl:FL}{W:Vl}{n v:AV}{m:Nat}{l:L2}(hm:m<=15)(h:Is w W fl 0 (.inst 952 m (wF n v)) l):∃un uv,Den W n un/\Den W v uv/\∀(V':Vl) (n' v':AV),(∀c,c < 8->V'.ρ c=W.ρ c)->V'.δ 0=W.δ 0->Den V' n' un->Den V' v' uv->Is w V' fl 0 (dw n' v') l:=by
 refine iS h fun x d es k h1 h2 h3 h4=>?_;clear h;refine aj (h3.known yI n rfl) fun un gn dn=>?_;refine aj (h3.known (S [118,101,114,115,105,111,110]) v rfl) fun uv gv dv=>?_;refine ⟨un,uv,dn,dv,fun V' n' v' hρ hδ hn hv=>⟨x,d,es,k,(hρ 0 (by decide)).trans h1,hδ.trans h2,⟨h3.keys,ba h3.len hm,fun y a hy=>?_⟩,h4⟩⟩;have go:∀{y:Str} {c:Nat},aw (wF n v) y=some (.obj c)->c < 8->∃u,getL y es=some (some u)/\Den V' (.obj c) u:=fun h hc=>(h3.known _ _ h).imp fun u q=>⟨q.1,q.2.imp fun z z1=>⟨(hρ _ hc).trans z1.1,z1.2⟩⟩
 exact (show∀p∈wF n' v',∃u,getL p.1 es=some (some u)/\Den V' p.2 u from fm (go rfl (by decide)) (fm (go rfl (by decide)) (fm ⟨un,gn,hn⟩ (fm (go rfl (by decide)) (fm ⟨uv,gv,hv⟩ (fm ((h3.known _ (.boo true) rfl).imp fun u q=>q) (List.forall_mem_nil _))))))) (y,a) (aU hy)
theorem wI {w:World}{fl:FL}{V V':Vl}{n v n' v':AV}{m:Nat}{l:L2}(hρ:∀c,c < 8->V'.ρ c=V.ρ c)(hδ:V'.δ 0=V.δ 0)(hn:∀u,Den V n u->Den V' n' u)(hv:∀u,Den V v u->Den V' v' u)(hm:m<=15)(h:Is w V fl 0 (.inst 952 m (wF n v)) l):Is w V' fl 0 (dw n' v') l:=by
 refine aR (wK hm h) fun un uv dn dv f=>?_;exact f V' n' v' hρ hδ (hn un dn) (hv uv dv)
theorem cO {i j:Nat}(h:j≠i):∀os:List (Nat×AO),aa (aL os i) j=aa os j
 |[]=>rfl
 |p::r=>by
  show aa (@Bool.rec (fun zz=>List (Nat×AO)) (p::aL r i) r (Nat.beq p.1 i)) j=_;rw[aM];generalize q:Nat.beq p.1 i=x';induction x' using aH with
  |true=>rw[if_neg fun e=>h (e.symm.trans (Nat.eq_of_beq_eq_true q))]
  |false=>show aa (p::aL r i) j=_;rw[aM,cO h r]
theorem tU:∀(l:List (Nat×AO)) {os:List (Nat×AO)},(l.map (·.1)).Nodup->(∀p∈l,aa os p.1=some p.2)->∃rest,os.Perm (l++rest)
 |[],os=>fun zz zz=>⟨os,.refl _⟩
 |p::r,os=>fun nd h=>by
  rw[List.map_cons,List.nodup_cons]at nd;refine av (tU r (os:=aL os p.1) nd.2 fun z hz=>by
   have ne:z.1≠p.1:=fun e=>nd.1 (List.mem_map.mpr ⟨z,hz,e⟩);rw[cO ne];exact h z (.tail _ hz)) fun rest q=>?_
  exact ⟨rest,(bk (h p (.head _))).trans (q.cons p)⟩
def yJ (u:Nat):List (Nat×AV):=(bj u,.opt (300+u))::((jq u).map (fun i=>(i,AV.opn (300+u)))++((cJ u).map (fun i=>(i,AV.rn))++gk))
structure BP where
 k:Nat
 o:Int
 n:AV
 v:AV
 l:List AV
 m:AO
def dOf (o:AO):Option (List AV):=match o with
 |.fdc kvs=>gdO (dC (kvs.map (·.1)) cX) (kvs.map (·.2))
 |_=>none
def os1 (u:Nat) (os:List (Nat×AO)):List (Nat×AO):=aL (aL (aL os 0) 1) (10+u)
def mB (u:Nat) (m:AO):Bool:=match m with|.opm k fs=>Nat.beq k (300+u)&&rfF mId fs none (clG (nmU u))|_=>false
def tV (x:Str):List Str->Nat->Option Nat
 |[],_=>none
 |y::r,i=>@Bool.rec (fun zz=>Option Nat) (tV x r (i+1)) (some i) (sq y x)
def Fv (u:Nat) (σ:ST):Option BP:=bO (aa σ.os 0) fun w=>bO (wOf w) fun p=>bO (hiK p.1) fun ko=>bO (aa (aL σ.os 0) 1) fun d=>bO (dOf d) fun l=>bO (aa (aL (aL σ.os 0) 1) (10+u)) fun m=>
 gdO ((ioB p.2&&Nat.ble 8 σ.nx)&&(l.all tP&&((yJ u).all (fun q=>bF (l.getD q.1 .rn) q.2)&&(mB u m&&fy mId bOs (os1 u σ.os))))) ⟨ko.1,ko.2,p.1,p.2,l,m⟩
def Fw (u nx:Nat) (l:List AV):List (Str×AV):=kU ((bj u,.obj nx)::((jq u).map (fun i=>(i,AV.opn 299))++(cJ u).map fun i=>(i,AV.rn))) fun i=>l.getD i .rn
def xa (u:Nat) (σ:ST) (b:BP):ST:=⟨(σ.nx,.inst 228 100 (clG (nmU u)))::(10+u,.tie (300+u) σ.nx)::(0,dw (.hi b.k b.o) b.v)::(1,.fdc (Fw u σ.nx b.l))::(bOs++de (fun c=>c) bOs (os1 u σ.os)),σ.nx+1⟩
noncomputable def is0:AV->Bool
 |.obj i=>Nat.beq i 0
 |_=>false
def hkB:CL:=fun g vs σ=>gd (Nat.beq g 754) (on2 vs fun w b=>cQ b fun x=>aE (tV ⟨x.toArray⟩ clN 0) fun u=>gd (is0 w) (aE (Fv u σ) fun t=>.ok (.obj σ.nx) (xa u σ t)))
theorem o5 {x:Str}:∀{l:List Str} {i u:Nat},tV x l i=some u->i<=u/\u < i+l.length/\l[u - i]? = some x
 |[],_,_=>fun h=>ag h
 |y::r,i,u=>fun h=>by
  change @Bool.rec (fun zz=>Option Nat) (tV x r (i+1)) (some i) (sq y x)=_ at h;generalize q:sq y x=x';induction x' using aH with
  |true=>
   rw[q]at h;obtain rfl:=soo h;obtain rfl:=bh.mp q;exact ⟨aP _,Nat.lt_add_of_pos_right (Nat.succ_pos _),by rw[Nat.sub_self];rfl⟩
  |false=>
   rw[q]at h;refine bU (o5 h) fun h1 h2 h3=>?_;refine ⟨Nat.le_of_succ_le h1,Nat.lt_of_lt_of_eq h2 (Nat.add_right_comm i 1 r.length),?_⟩;rw[show u - i=(u - (i+1))+1 from (Nat.succ_pred_eq_of_pos (Nat.sub_pos_of_lt h1)).symm];exact h3
theorem Bb {x:Str}{u:Nat}(h:tV x clN 0=some u):u < 8/\nmU u=x:=by
 refine bU (o5 h) fun zy h2 h3=>?_;refine ⟨by rwa [Nat.zero_add]at h2,?_⟩;unfold nmU;rw[br,show clN[u]? = some x from h3];rfl
structure BpOk (u:Nat) (σ:ST) (b:BP):Prop where
 w:∃m,m<=15/\aa σ.os 0=some (.inst 952 m (wF b.n b.v))
 k:hiK b.n=some (b.k,b.o)
 d:aa (aL σ.os 0) 1=some (.fdc (cG (fun i=>b.l.getD i .rn) cX 0))
 m:aa (aL (aL σ.os 0) 1) (10+u)=some b.m/\mB u b.m=true
 v:ioB b.v=true
 nx:8<=σ.nx
 l:∀i,tP (b.l.getD i .rn)=true
 n:∀q∈yJ u,b.l.getD q.1 .rn=q.2
 r:fy mId bOs (os1 u σ.os)=true
theorem tW {d:AO}{l:List AV}(h:dOf d=some l):d=.fdc (cG (fun i=>l.getD i .rn) cX 0):=by
 obtain ⟨kvs,rfl⟩ :∃kvs,d=.fdc kvs:=by induction d using aN<;>first|exact ag h|exact ⟨_,rfl⟩
 refine ay (ci h) fun e1 e2=>?_;have e:=nK kvs [];rw[bQ e1,List.nil_append,e2]at e;rw[e];rfl
theorem o6 {u:Nat}{σ:ST}{b:BP}(h:Fv u σ=some b):BpOk u σ b:=by
 refine aj (bL h) fun w h1 h=>?_;refine aj (bL h) fun p h2 h=>?_;refine aj (bL h) fun ko h3 h=>?_;refine aj (bL h) fun d h4 h=>?_;refine aj (bL h) fun l h5 h=>?_;refine aj (bL h) fun m h6 h=>?_;refine ay (ci h) fun g0 z'1=>?_;obtain rfl:=z'1;have g1:=an1 g0;have g2:=an2 g0;have g3:=an2 g1;have g1:=an1 g1;have g4:=an2 g2;have g2:=an1 g2;have g5:=an2 g4;have g4:=an1 g4;have g6:=an2 g5;have g5:=an1 g5;refine aj (tT h2) fun mm q1 q2=>?_;refine ⟨⟨mm,q1,q2▸h1⟩,h3,?_,⟨h6,g5⟩,g1,az g3,fun i=>?_,fun q hq=>aX (gY g4 q hq),g6⟩
 ·exact h4.trans (congrArg some (tW h5))
 ·rw[List.getD_eq_getElem?_getD];generalize hi:(l[i]?)=x';induction x' using aF with
  |none=>rfl
  |some a=>exact gY g2 a (List.mem_of_getElem? hi)
noncomputable def Vl.lo (V:Vl):Vl:=⟨fun c=>if c < 8 then V.ρ c else none,fun c=>if c < 8 then V.δ c else none,V.ι,fun zz=>none⟩
noncomputable def Vl.up (V W:Vl)(nx:Nat)(a c:Option Addr):Vl:=⟨fun i=>if i=nx then a else if i < 8 then W.ρ i else V.ρ i,fun i=>if i=nx then c else if i < 8 then W.δ i else V.δ i,V.ι,V.τ⟩
section
variable {V W:Vl}{nx m:Nat}{a c:Option Addr}
theorem Vx.lo (v:Vx V nx)(h:8<=m):Vx V.lo m:=⟨fun i hi=>⟨if_neg (by lia),if_neg (by lia),rfl⟩,v.num,fun k l h=>ag h⟩
theorem Vx.up (v:Vx V nx)(h:8<=nx):Vx (V.up W nx a c) (nx+1):=
 ⟨fun i hi=>by
  refine bU (v.fresh i (by lia)) fun f1 f2 f3=>?_;exact ⟨by show (if i=nx then a else if i < 8 then W.ρ i else V.ρ i)=none;rw[if_neg (by lia),if_neg (by lia)];exact f1,by show (if i=nx then c else if i < 8 then W.δ i else V.δ i)=none;rw[if_neg (by lia),if_neg (by lia)];exact f2,f3⟩,v.num,v.txt⟩
theorem yK (h:V.lo.le W){i:Nat}(hi:i < 8):(∀x,V.ρ i=some x->W.ρ i=some x)/\∀x,V.δ i=some x->W.δ i=some x:=
 ⟨fun x e=>h.ρ i x ((if_pos hi).trans e),fun x e=>h.δ i x ((if_pos hi).trans e)⟩
theorem Fy (h:V.lo.le W)(v:Vx V nx):V.le (V.up W nx a c):=
 ⟨fun i x e=>by
  by_cases q:i=nx
  ·rw[q,(v.fresh nx (Nat.le_refl _)).1]at e;exact ag e
  ·show (if i=nx then a else if i < 8 then W.ρ i else V.ρ i)=_;rw[if_neg q];by_cases r:i < 8
   ·rw[if_pos r];exact (yK h r).1 x e
   ·rw[if_neg r];exact e,fun i x e=>by
  by_cases q:i=nx
  ·rw[q,(v.fresh nx (Nat.le_refl _)).2.1]at e;exact ag e
  ·show (if i=nx then c else if i < 8 then W.δ i else V.δ i)=_;rw[if_neg q];by_cases r:i < 8
   ·rw[if_pos r];exact (yK h r).2 x e
   ·rw[if_neg r];exact e,rfl,fun i l e=>e⟩
theorem kc (h8:8<=nx){i:Nat}(hi:i < 8):(V.up W nx a c).ρ i=W.ρ i/\(V.up W nx a c).δ i=W.δ i:=
 ⟨(if_neg (by lia)).trans (if_pos hi),(if_neg (by lia)).trans (if_pos hi)⟩
theorem tX:mId.Ok V V.lo:=⟨fun c hc=>if_pos (az hc),fun c hc zz=>if_pos (az hc),fun k h=>ak h,fun k h=>ak h⟩
theorem tY (h8:8<=nx):mId.Ok W (V.up W nx a c):=⟨fun i hi=>(kc h8 (az hi)).1,fun i hi zz=>(kc h8 (az hi)).2,fun k h=>ak h,fun k h=>ak h⟩
theorem kY:mId.Ok V V:=⟨fun zz zz=>rfl,fun zz zz zz=>rfl,fun k h=>ak h,fun k h=>ak h⟩
end
theorem mC:fy mId bOs bOs=true:=by kernel_rfl
theorem o7:de (fun c=>c) bOs bOs=[]:=by kernel_rfl
theorem tZ {w:World}{fl:FL}{V V':Vl}{n:L2}(M:mId.Ok V V')(D:Led w V fl [] bOs n):∃n',n'.Perm n/\Led w V' fl [] bOs n':=by
 refine aR (D.ref M bOs mC) fun n1 n2 p q1 q2=>?_;rw[show de mId.f bOs bOs=[] from o7]at q2
 induction q2 using Led.ns
 exact ⟨n1,by rwa [List.append_nil]at p,q1⟩
theorem Fz (c:Addr)(h:Nat->AV):qz.all (fun q=>(gO q c).all (fun p=>Nat.beq p.1 (bj q.1)||(mw (jq q.1) p.1||(mw (cJ q.1) p.1||gk.any (fun r=>Nat.beq r.1 p.1&&bF r.2 p.2))))&&(cJ q.1).all fun i=>tQ (ovr (gO q c) h i))=true:=by kernel_rfl
theorem H1:gk.all (fun p=>match p.2 with|.obj c=>Nat.blt c 8|_=>false)=true:=by kernel_rfl
set_option tactic.hygienic true in
theorem o8 {V V':Vl}(h:∀i,i < 8->∀x,V.ρ i=some x->V'.ρ i=some x){i:Nat}{a:AV}{v:Value}(m:(i,a)∈gk)(d:Den V a v):Den V' a v:=by
 have q:=gY H1 _ m;dsimp only at q
 split at q
 ·rename_i c;refine aj d fun x d1 d2=>?_;clear d;exact ⟨x,h c (az q) x d1,d2⟩
 ·exact ak q
theorem BpOk.parts {w:World}{V:Vl}{fl:FL}{tl news:L2}{u:Nat}{σ:ST}{b:BP}(B:BpOk u σ b)(D:Led w V fl tl σ.os news){G:Prop}(Kk:∀m l0 l1 lu n1 n2,m<=15->(l0++(l1++(lu++(n1++n2)))).Perm news->Is w V fl 0 (.inst 952 m (wF b.n b.v)) l0->
  Is w V fl 1 (.fdc (cG (fun i=>b.l.getD i .rn) cX 0)) l1->Is w V fl (10+u) b.m lu->Led w V.lo fl [] bOs n1->Led w V fl tl (de (fun c=>c) bOs (os1 u σ.os)) n2->G):G:=by
 refine aj B.w fun m h1 h2=>?_;refine aj (D.perm (((bk h2).trans ((bk B.d).cons _)).trans (((bk B.m.1).cons _).cons _))) fun nP D p0=>?_
 induction D using Led.cs with
 |cons i0 D=>
  induction D using Led.cs with
  |cons i1 D=>
   induction D using Led.cs with
   |cons iu D=>
    refine aR (D.ref tX bOs B.r) fun n1 n2 p q1 q2=>?_;exact Kk m _ _ _ n1 n2 h1 (((((p.append_left _).append_left _).append_left _)).trans p0) i0 i1 iu q1 q2
theorem dL {α:Type}{f:Nat->α}{i:Nat}{r:List (Nat×α)}:∀{l:List Nat},aa (l.map (fun j=>(j,f j))++r) i=if i∈l then some (f i) else aa r i
 |[]=>rfl
 |x::l=>by
  show aa ((x,f x)::(l.map (fun j=>(j,f j))++r)) i=_;rw[aM,dL];by_cases h:x=i
  ·subst h;rw[if_pos rfl,if_pos (.head _)]
  ·rw[if_neg h];by_cases m:i∈l
   ·rw[if_pos m,if_pos (.tail _ m)]
   ·rw[if_neg m,if_neg fun q=>(List.mem_cons.mp q).elim (fun e=>h e.symm) m]
theorem eT {l:List (Nat×AV)}{h:Nat->AV}{i:Nat}:ovr l h i=(aa l i).getD (h i):=by
 unfold ovr;cases aa l i<;>rfl
theorem mD {f:Nat->AV}{y:Str}{a:AV}:∀{l:List Str} {n:Nat},(y,a)∈cG f l n->∃j,l[j]? = some y/\a=f (n+j)
 |[],_=>fun h=>absurd h bI
 |x::r,n=>fun h=>by
  rcases aG (show (y,a)∈(x,f n)::cG f r (n+1) from h) with e|h
  ·refine ay (bo e) fun z'0 z'1=>?_;obtain rfl:=z'0;obtain rfl:=z'1;exact ⟨0,rfl,rfl⟩
  ·refine aj (mD h) fun j h1 h2=>?_;exact ⟨j+1,h1,by rw[h2,Nat.add_assoc,Nat.add_comm 1]⟩
theorem iK {i:Nat}{y:Str}(h:∀g:Nat->AV,aw (cG g cX 0) y=some (g i)):cX[i]? = some y:=by
 refine aj (mD (aU (h fun i=>.nm i))) fun j h1 h2=>?_;cases h2;rw[Nat.zero_add];exact h1
theorem xd {u nx:Nat}{l:List AV}{g:Nat->AV}{V W V':Vl}{a:Addr}{us us':List (Str×Value)}(hl:∀i,tP (l.getD i .rn)=true)(n:bK V.ι)(hι:W.ι=V.ι)(le:V.le V')(ha:V'.ρ nx=some a)(hρ:∀i,i < 8->∀x,W.ρ i=some x->V'.ρ i=some x)
  (go:∀v,Den W (g (bj u)) v->v=.ref a) (gm:∀i∈cJ u,tQ (g i)=true) (ge:∀i,i≠bj u->i ∉ jq u->i ∉ cJ u->g i=stV V (l.getD i .rn)\/((i,g i)∈gk/\l.getD i .rn=g i))
  (m0:FdcOk V (cG (fun i=>l.getD i .rn) cX 0) us') (m:FdcOk W (cG g cX 0) us):FdcOk V' (Fw u nx l) us:=by
 refine qA m fun i y hy d=>?_;rw[eT,aM];by_cases h:bj u=i
 ·subst h;rw[if_pos rfl];exact ⟨a,ha,go _ d⟩
 rw[if_neg h,dL];by_cases h1:i∈jq u
 ·rw[if_pos h1];refine fun e=>absurd e ?_;have:=n.2.2 299 (by decide) (by decide);rw[le.ι];omega
 rw[if_neg h1,<-List.append_nil (List.map _ (cJ u)),dL];by_cases h2:i∈cJ u
 ·rw[if_pos h2];exact tS (gm i h2) d
 rw[if_neg h2];show Den V' (l.getD i .rn) _;rcases ge i (fun e=>h e.symm) h1 h2 with e|⟨e1,e2⟩
 ·rw[e]at d;exact tR (hl i) hι le (m0.at_ y _ (hy _)) d
 ·rw[e2];exact o8 hρ e1 d
theorem Ents.k {V W:Vl}{f:List Str}{n:Nat}{fs:List (Str×AV)}{es:List DictEntry}(E:Ents V f n fs es)(h:∀p∈fs,∀v,Den V p.2 v->Den W p.2 v):Ents W f n fs es:=
 ⟨E.keys,E.len,fun x v hx=>(E.known x v hx).imp fun u q=>⟨q.1,h (x,v) (aU hx) u q.2⟩⟩
theorem FdcIs.k {w:World}{V:Vl}{fl:FL}{i:Nat}{kvs:List (Str×AV)}{l:L2}(h:Is w V fl i (.fdc kvs) l){G:Prop}(k:∀x o us,V.ρ i=some x->l=[(x,o)]->FdcOk V kvs us->(∀(V':Vl) i' kvs',V'.ρ i'=some x->FdcOk V' kvs' us->Is w V' fl i' (.fdc kvs') l)->G):G:=by
 refine cK h fun x o us h1 h2 h3 h4 h'7=>?_;clear h;obtain rfl:=h'7;exact k x o us h1 rfl h4 fun V' i' kvs' g1 g2=>⟨x,o,us,g1,h2,h3,g2,rfl⟩
theorem o9 {w:World}{V W W1:Vl}{fl:FL}{tl l0 l1 n1 n2 ln:L2}{u:Nat}{σ:ST}{b:BP}{a dd:Addr}{o':Int}{g:Nat->AV}{us':List (Str×Value)}(B:BpOk u σ b)(v:Vx V σ.nx)(le:V.lo.le W)(ho:b.o<=o')
  (i0:Is w W fl 0 (dw (.hi b.k o') b.v) l0) (i1:Is w W fl 1 (.fdc (cG g cX 0)) l1) (m0:FdcOk V (cG (fun i=>b.l.getD i .rn) cX 0) us')
  (go:∀v,Den W (g (bj u)) v->v=.ref a) (gm:∀i∈cJ u,tQ (g i)=true) (ge:∀i,i≠bj u->i ∉ jq u->i ∉ cJ u->g i=stV V (b.l.getD i .rn)\/((i,g i)∈gk/\b.l.getD i .rn=g i))
  (c:∀V':Vl,V'.ρ σ.nx=some a->V'.δ σ.nx=some dd->Is w V' fl σ.nx (.inst 228 100 (clG (nmU u))) ln)
  (hT:V.ι (300+u)≠-1->a=(V.ι (300+u)).toNat) (D1:Led w W1 fl [] bOs n1) (M:mId.Ok W1 (V.up W σ.nx (some a) (some dd))) (D2:Led w V fl tl (de (fun c=>c) bOs (os1 u σ.os)) n2) :
  V.le (V.up W σ.nx (some a) (some dd))/\Vx (V.up W σ.nx (some a) (some dd)) (σ.nx+1)/\∃n',n'.Perm (ln++(l0++(l1++(n1++n2))))/\Led w (V.up W σ.nx (some a) (some dd)) fl tl (xa u σ b).os n':=by
 have L:V.le (V.up W σ.nx (some a) (some dd)):=Fy le v;have e0:(V.up W σ.nx (some a) (some dd)).ρ σ.nx=some a:=if_pos rfl;have e1:(V.up W σ.nx (some a) (some dd)).δ σ.nx=some dd:=if_pos rfl;have hι:W.ι=V.ι:=le.ι;refine ⟨L,v.up B.nx,?_⟩;refine aj (tZ M D1) fun n1' p1 q1=>?_;refine ⟨ln++(l0++(l1++(n1'++n2))),(((p1.append_right n2).append_left l1).append_left l0).append_left ln,.cons (c _ e0 e1) (.cons (l:=[]) ⟨rfl,fun z=>e0.trans (congrArg some (hT z))⟩ (.cons ?_ (.cons ?_ (q1.join (D2.mono L)))))⟩
 ·refine wI (n:=.hi b.k o') (fun c hc=>(kc B.nx hc).1) (kc B.nx (by decide)).2 (fun z d=>?_) (fun z d=>kX B.v hι.symm d) (aP _) i0;obtain ⟨i,t,rfl,d⟩:=d;rw[hι]at d;exact ⟨i,t,rfl,Int.le_trans (Int.add_le_add_left ho _) d⟩
 ·refine FdcIs.k i1 fun x o us h1 zz h2 h3=>h3 _ _ _ ((kc B.nx (by decide)).1.trans h1) ?_;exact xd B.l v.num hι L e0 (fun i hi x e=>(kc B.nx hi).1.trans e) go gm ge m0 h2
theorem gp:∀u,u < 8->∀b:Bool,(b=false->cJ u≠[])->(u,b)∈qz:=by decide
theorem pb (o:Int):∀n,o<=qx o n
 |0=>Int.le_refl _
 |n+1=>by
  have:=pb o n;show o<=Int.add (qx o n) 1;show o<=qx o n+1;lia
theorem pc {u:Nat}{V W:Vl}:∀p∈clG (nmU u),∀v,Den V p.2 v->Den W p.2 v:=by
 intro p hp v d;rcases aG hp with rfl|hp
 ·exact d
 rcases aG hp with rfl|hp
 ·exact d
 rcases aG hp with rfl|hp
 ·exact d
 rcases aG hp with rfl|hp
 ·exact d
 rcases aG hp with rfl|hp
 ·exact d
 rcases aG hp with rfl|hp
 ·exact d
 exact absurd hp bI
theorem t6 {u:Nat}{m:AO}(h:mB u m=true):∃fs,m=.opm (300+u) fs/\rfF mId fs none (clG (nmU u))=true:=by
 induction m using aN<;>first|exact ak h|skip
 have h1:=an1 h;have h2:=an2 h;obtain rfl:=aK h1;exact ⟨_,rfl,h2⟩
theorem nL {V:Vl}{c:Nat}(h:c < 8):V.lo.ρ c=V.ρ c:=if_pos h
theorem FA {V:Vl}{c:Nat}(h:c < 8):V.lo.δ c=V.δ c:=if_pos h
theorem t7 {V:Vl}{x:Str}{t:Tok}:Den V (tx x) (.str x t):=⟨t,by show _=Value.str ⟨x.cps.toList.toArray⟩ t;rw[Array.toArray_toList]⟩
theorem t8 {a b c r:L2}:(a++(b++(c++r))).Perm (b++(c++(a++r))):=(fS a b _).trans ((fS a c r).append_left b)
theorem xf {u:Nat}{σ:ST}{b:BP}{d:Dx}{V:Vl}{fr:AF}{x0:Addr}{t2:Tok}(hu:u < 8)(B:BpOk u σ b)(ht:d.tb=tbT)(rm:Room d.A 90)(hρ:V.ρ 0=some x0)(hi:V.ι (300+u)≠-1) :
  TC d V fr σ 754 [.ref x0,.str (nmU u) t2] (.obj σ.nx) (xa u σ b):=fun s R at_ P=>at_.stK fun mm news X=>by
 refine B.parts X.D fun m l0 l1 lu n1 n2 hm p i0 i1 iu D1 D2=>?_;refine aj (t6 B.m.2) fun fs e hfs=>?_;rw[e]at iu;obtain ⟨q,_⟩|⟨_,dd,es,kk,E,rfl⟩:=iu
 ·exact absurd q hi
 have run:=aq (w9 (V.ι (300+u)).toNat b.k b.o b.v fun i=>stV V (b.l.getD i .rn)) u (eo hu);have run2:=aq (tO (V.ι (300+u)).toNat b.k b.o b.v fun i=>stV V (b.l.getD i .rn)) u (eo hu);refine FdcIs.k i1 fun x1 o1 us1 r1 r2 r3 r4=>?_;have hn:=B.n (bj u,.opt (300+u)) (.head _);have D0:Led d.w V.lo d.tb.flds ([((V.ι (300+u)).toNat,instObj vn dd),(dd,dictOf es kk)]++(n1++n2)) [(0,dw (.hi b.k b.o) b.v),(1,.fdc (kU [(bj u,.st (V.ι (300+u)).toNat)] fun i=>stV V (b.l.getD i .rn)))] (l0++(l1++_)):=
  .cons (wI (V:=V) (fun c hc=>nL hc) (FA (by decide)) (fun z dz=>kW (V:=V) B.k dz) (fun z dz=>kX (V:=V) (W:=V.lo) B.v rfl dz) hm i0) (.cons (r4 _ _ _ ((nL (by decide)).trans r1) (qA r3 fun i y hy dy=>by
   rw[eT,aM];by_cases h:bj u=i
   ·subst h;rw[if_pos rfl];rw[hn]at dy;exact (dy.resolve_left fun z=>hi z.1).2
   ·rw[if_neg h];exact o4 (B.l i) rfl dy)) .nil)
 have at':=at_.sub (nx:=60) X (ht▸at_.c.O) (ht▸D0) (fun z hz=>p.mem_iff.mp hz) (aW p X.nd) (at_.v.lo (by decide));refine (bw bR 90).cl (d:=d.sub tbT _) (fr:=d.fr0) run rfl rm (us:=[.ref x0,.str (nmU u) t2]) (show Dens V.lo [.obj 0,tx (nmU u)] [.ref x0,.str (nmU u) t2] from ⟨⟨x0,(nL (by decide)).trans hρ,rfl⟩,t7,trivial⟩) s R at' fun uv h tk W le du at'' ff=>at''.stK fun m'' news'' X''=>?_;have D'':Led d.w W d.tb.flds _ _ news'':=ht▸run2▸X''.D
 induction D'' using Led.cs with
 |cons j0 D''=>
  induction D'' using Led.cs with
  |cons j1 D''=>
   induction D'' using Led.ns
   obtain ⟨le',v',n',p',D'⟩:=o9 (a:=(V.ι (300+u)).toNat) (dd:=dd) (g:=ovr [(bj u,.st (V.ι (300+u)).toNat)] fun i=>stV V (b.l.getD i .rn)) B at_.v le (Int.le_refl _) j0 j1 r3
    (fun v dv=>by rw[eT,aM,if_pos rfl]at dv;exact dv)
    (fun i hi=>by
     rw[eT,aM];by_cases h:bj u=i
     ·rw[if_pos h];rfl
     ·rw[if_neg h,show (aa [] i).getD (stV V (b.l.getD i .rn))=stV V (b.l.getD i .rn) from rfl,B.n (i,.rn) (.tail _ (a9 _ (bS _ (cP hi))))];rfl)
    (fun i h1 zz zz=>.inl (by rw[eT,aM,if_neg fun e=>h1 e.symm];rfl))
    (fun V' g1 g2=>Is.inst g1 g2 (dK kY hfs (aP _) (E V'))) (fun zz=>rfl) (D1.mono le) (tY B.nx) D2
   obtain rfl:uv=.ref (V.ι (300+u)).toNat:=du;have pp:=p'.trans (t8 (a:=[((V.ι (300+u)).toNat,instObj vn dd),(dd,dictOf es kk)]));exact P (.ref (V.ι (300+u)).toNat) h tk _ le' ⟨_,if_pos rfl,rfl⟩ (at_.back' (n':=n') le' X ff (fun z hz=>X''.N z (pp.mem_iff.mp hz)) D' (aW pp X''.nd) v') ff
def Bc (q:Bool) (c:Addr):AV:=@Bool.rec (fun zz=>AV) (.st c) .non q
theorem H2 (q:Bool)(c:Addr):(List.range 8).map (fun u=>(cJ u).zip (tN (u,q) c))=(List.range 8).map fun u=>(cJ u).map fun i=>(i,Bc q c):=by kernel_rfl
theorem H3:∀u,u < 8->(cJ u).length<=1:=by decide
theorem t9 {u:Nat}(hu:u < 8)(z:Str->Value)(V V':Vl):∃q c,(u,q)∈qz/\∀i∈cJ u,∀y,cX[i]? = some y->Den V .rn (z y)->Den V' (Bc q c) (z y):=by
 have h1:=H3 u hu;generalize hm:cJ u=x';induction x' using aV with
 |nil=>exact ⟨true,0,gp u hu true fun e=>eA e,fun i hi=>absurd hi bI⟩
 |cons i r=>
  rw[hm]at h1;obtain rfl:r=[]:=List.eq_nil_of_length_eq_zero (Nat.le_zero.mp (Nat.le_of_succ_le_succ h1));generalize hy:(cX[i]?)=x';induction x' using aF with
  |none=>exact ⟨true,0,gp u hu true fun e=>eA e,fun j hj y h=>by rw[List.mem_singleton.mp hj,hy]at h;exact ag h⟩
  |some y=>
   by_cases hz:∃c,z y=.ref c
   ·refine av hz fun c hc=>?_;clear hz;exact ⟨false,c,gp u hu false fun zz e=>(by rw[hm]at e;cases e),fun j hj y' h zz=>by rw[List.mem_singleton.mp hj,hy]at h;obtain rfl:=soo h;exact hc⟩
   ·exact ⟨true,0,gp u hu true fun e=>eA e,fun j hj y' h d=>by rw[List.mem_singleton.mp hj,hy]at h;obtain rfl:=soo h;exact d.resolve_right hz⟩
theorem pd {u:Nat}{o:Option AO}(h:qy u o=true):∃n fs,o=some (.inst 228 n fs)/\n<=100/\rfF mId fs none (clG (nmU u))=true:=by
 refine aj (aZ h) fun a z'1 h=>?_;obtain rfl:=z'1
 induction a using aN<;>first|exact ak h|skip
 have h1:=an1 h;have h2:=an2 h;have h3:=an2 h2;have h2:=an1 h2;obtain rfl:=aK h1;exact ⟨_,_,rfl,az h2,h3⟩
theorem ub {u:Nat}{q:Bool}{c:Addr}{h:Nat->AV}:ovr (gO (u,q) c) h (bj u)=.obj 73:=by
 rw[eT,show gO (u,q) c=(bj u,.obj 73)::(gO (u,q) c).tail from rfl,aM,if_pos rfl];rfl
section
variable {u:Nat}{σ:ST}{b:BP}
theorem BpOk.abs_in (B:BpOk u σ b){q:Bool}{c:Addr}{V:Vl}{us:List (Str×Value)}(hu:u < 8)(hi:V.ι (300+u)=-1)(m:FdcOk V (cG (fun i=>b.l.getD i .rn) cX 0) us)
  (hq:∀i∈cJ u,∀y,cX[i]? = some y->Den V .rn ((valueAt us y).getD .none)->Den V.lo (Bc q c) ((valueAt us y).getD .none)) :
  FdcOk V.lo (kU ((bj u::jq u).map (fun i=>(i,AV.non))++((cJ u).zip (tN (u,q) c)++gk)) fun i=>stV V (b.l.getD i .rn)) us:=by
 refine qA m fun i y hy d=>?_;rw[eT,dL];by_cases h:i∈bj u::jq u
 ·rw[if_pos h];show _=Value.none;rcases aG h with rfl|h
  ·rw[B.n (bj u,.opt (300+u)) (.head _)]at d;exact (d.resolve_right fun z=>z.1 hi).2
  ·rw[B.n (i,.opn (300+u)) (.tail _ (List.mem_append_left _ (List.mem_map_of_mem h)))]at d;exact d hi
 rw[if_neg h,aq (H2 q c) u (List.mem_range.mpr hu),dL];by_cases h2:i∈cJ u
 ·rw[if_pos h2];rw[B.n (i,.rn) (.tail _ (List.mem_append_right _ (List.mem_append_left _ (List.mem_map_of_mem h2))))]at d;exact hq i h2 y (iK hy) d
 rw[if_neg h2];generalize hl:aa gk i=x';induction x' using aF with
 |none=>exact o4 (B.l i) rfl d
 |some a=>
  have hm:=aO hl;rw[B.n (i,a) (.tail _ (List.mem_append_right _ (List.mem_append_right _ hm)))]at d;exact o8 (fun i h x e=>(nL h).trans e) hm d
theorem BpOk.abs_out (B:BpOk u σ b){q:Bool}{c:Addr}{V:Vl}(hq:(u,q)∈qz):(∀i∈cJ u,tQ (ovr (gO (u,q) c) (fun i=>stV V (b.l.getD i .rn)) i)=true)/\
  ∀i,i≠bj u->i ∉ jq u->i ∉ cJ u->ovr (gO (u,q) c) (fun i=>stV V (b.l.getD i .rn)) i=stV V (b.l.getD i .rn)\/((i,ovr (gO (u,q) c) (fun i=>stV V (b.l.getD i .rn)) i)∈gk/\b.l.getD i .rn=ovr (gO (u,q) c) (fun i=>stV V (b.l.getD i .rn)) i):=by
 have k1:=an1 ((aD (Fz c fun i=>stV V (b.l.getD i .rn)) hq));have k2:=an2 ((aD (Fz c fun i=>stV V (b.l.getD i .rn)) hq));refine ⟨fun i hi=>aD k2 hi,fun i h1 h2 h3=>?_⟩;rw[eT];generalize hl:(aa (gO (u,q) c) i)=x';induction x' using aF with
 |none=>exact .inl rfl
 |some a=>
  right;show (i,a)∈gk/\b.l.getD i .rn=a;have k:=aD k1 (aO hl);rcases cx k with k|k
  ·exact absurd (aK k) h1
  rcases cx k with k|k
  ·exact absurd (cT k) h2
  rcases cx k with k|k
  ·exact absurd (cT k) h3
  refine aj (List.any_eq_true.mp k) fun r hr k=>?_;have q1:=an1 k;have q2:=an2 k;have q1:=aK q1;have q2:=aX q2;dsimp only at q1 q2;have hm:(i,a)∈gk:=by rw[<-q1,<-q2];exact hr
  exact ⟨hm,B.n (i,a) (.tail _ (a9 _ (a9 _ hm)))⟩
end
theorem Bd {a b c:AO}:(((73,a)::(0,b)::(1,c)::bOs).map (·.1)).Nodup:=by
 have e:bOs.map (·.1)=[2,3,4,5,6,7]:=by kernel_rfl
 show (73::0::1::bOs.map (·.1)).Nodup;rw[e];decide
theorem bH {a b:L2}(p:a.Sublist b)(h:(b.map (·.1)).Nodup):(a.map (·.1)).Nodup:=(p.map _).nodup h
theorem ue {a b c e r l:L2}:(a++(b++(c++(e++r)))).Sublist (a++(b++(c++(e++(l++r))))):=((((fE l r).append_left e).append_left c).append_left b).append_left a
theorem xg {u:Nat}{σ:ST}{b:BP}{d:Dx}{V:Vl}{fr:AF}{x0:Addr}{t2:Tok}(hu:u < 8)(B:BpOk u σ b)(ht:d.tb=tbT)(rm:Room d.A 90)(hρ:V.ρ 0=some x0)(hi:V.ι (300+u)=-1) :
  TC d V fr σ 754 [.ref x0,.str (nmU u) t2] (.obj σ.nx) (xa u σ b):=fun s R at_ P=>at_.stK fun mm news X=>by
 refine B.parts X.D fun m l0 l1 lu n1 n2 hm p i0 i1 iu D1 D2=>?_;refine aj (t6 B.m.2) fun fs e zy=>?_;rw[e]at iu;obtain rfl:lu=[]:=iu.elim (fun q=>q.2) fun q=>absurd hi q.1;refine FdcIs.k i1 fun x1 o1 us1 r1 r2 r3 r4=>?_;refine aI (t9 hu (fun y=>(valueAt us1 y).getD .none) V V.lo) fun q c hq hz=>?_;have D0:Led d.w V.lo d.tb.flds n2 ((0,dw (.hi b.k b.o) b.v)::(1,.fdc (kU ((bj u::jq u).map (fun i=>(i,AV.non))++((cJ u).zip (tN (u,q) c)++gk)) fun i=>stV V (b.l.getD i .rn)))::bOs) (l0++(l1++(n1++n2))):=
  .cons (wI (V:=V) (fun c hc=>nL hc) (FA (by decide)) (fun z dz=>kW (V:=V) B.k dz) (fun z dz=>kX (V:=V) (W:=V.lo) B.v rfl dz) hm i0) (.cons (r4 _ _ _ ((nL (by decide)).trans r1) (B.abs_in hu hi r3 hz)) D1.tl0)
 have at':=at_.sub (nx:=60) X (ht▸at_.c.O) (ht▸D0) (fun z hz=>p.mem_iff.mp hz) (aW p X.nd) (at_.v.lo (by decide));have run:=aq (w8 c b.k b.o b.v fun i=>stV V (b.l.getD i .rn)) (u,q) hq;cases hr:Fs u (tN (u,q) c) b.k b.o b.v (fun i=>stV V (b.l.getD i .rn)) with
 |no=>rw[hr]at run;exact eA (show false=true from congrArg Prj.b run)
 |ok v'' σ''=>
 rw[hr]at run;obtain rfl:v''=.obj 73:=congrArg Prj.v run;have w0:aa σ''.os 0=some _:=congrArg Prj.w run;have w1:aa σ''.os 1=some _:=congrArg Prj.d run;have w2:bOs.map (fun p=>aa σ''.os p.1)=bOs.map fun p=>some p.2:=congrArg Prj.r run;refine aR (pd (show qy u (aa σ''.os 73)=true from congrArg Prj.m run)) fun n fs' w3 hn hfs=>?_;refine av (tU ((73,.inst 228 n fs')::(0,dw (.hi b.k (qx b.o (Ft (u,q)))) b.v)::(1,.fdc (kU (gO (u,q) c) fun i=>stV V (b.l.getD i .rn)))::bOs) (os:=σ''.os) Bd fun z hz=>by
  rcases aG hz with rfl|hz
  ·exact w3
  rcases aG hz with rfl|hz
  ·exact w0
  rcases aG hz with rfl|hz
  ·exact w1
  exact aq w2 z hz) fun rest pk=>?_
 refine (bw bR 90).cl (d:=d.sub tbT _) (fr:=d.fr0) hr rfl rm (us:=[.ref x0,.str (nmU u) t2]) (show Dens V.lo [.obj 0,tx (nmU u)] [.ref x0,.str (nmU u) t2] from ⟨⟨x0,(nL (by decide)).trans hρ,rfl⟩,t7,trivial⟩) s R at' fun uv h tk W le du at'' ff=>at''.stK fun m'' news'' X''=>?_;have D'':Led d.w W d.tb.flds _ _ news'':=ht▸X''.D;refine aj (D''.perm pk) fun n3 D3 p3=>?_
 induction D3 using Led.cs with
 |cons j2 D3=>
 induction D3 using Led.cs with
 |cons j0 D3=>
 induction D3 using Led.cs with
 |cons j1 D3=>
 refine aR (Led.split2 bOs D3) fun n4 n5 z'2 D4 D5=>?_;obtain rfl:=z'2;refine av D5.tail fun l5 z'1=>?_;obtain rfl:=z'1;refine iS j2 fun x dd es kk hx hd E j2'7=>?_;clear j2;obtain rfl:=j2'7;refine aj du fun y hy du'2=>?_;clear du;obtain rfl:=du'2;obtain rfl:=soo (hx.symm.trans hy);refine ay (B.abs_out (V:=V) (c:=c) hq) fun k1 k2=>?_;obtain ⟨le',v',n',p',D'⟩:=o9 (a:=x) (dd:=dd) (g:=ovr (gO (u,q) c) fun i=>stV V (b.l.getD i .rn)) B at_.v le (pb _ _) j0 j1 r3
  (fun v dv=>by rw[ub]at dv;refine aj dv fun z hz dv'2=>?_;clear dv;obtain rfl:=dv'2;rw[soo (hx.symm.trans hz)]) k1 k2
  (fun V' g1 g2=>Is.inst g1 g2 ((dK kY hfs hn E).k pc)) (fun z=>absurd hi z) D4 (tY B.nx) D2
 exact P (.ref x) h tk _ le' ⟨_,if_pos rfl,rfl⟩ (at_.back' (n':=n') le' X ff (fun z hz=>X''.N z (p3.mem_iff.mp (ue.subset (p'.mem_iff.mp hz)))) D' (aW p' (bH ue (aW p3 X''.nd))) v') ff
theorem Be {n:Nat}(hn:90<=n):COk tbT n hkB:=by
 intro g vs σ v σ' q d V fr us ht rm dv;refine Snd.of q (Φ:=fun v σ'=>TC d V fr σ g us v σ') (Snd.gd fun hg=>aK hg▸Snd.n2 dv fun a b u1 u2 e q1 q2=>e▸Snd.str fun x hx=>Snd.opt fun u hu=>Snd.gd fun h0=>Snd.opt fun t ht'=>Snd.ok ?_);refine ay (Bb hu) fun h1 h2=>?_;refine av (q2.str hx) fun t2 z'1=>?_;obtain rfl:=z'1;obtain ⟨x0,hx0,rfl⟩ :∃x0,V.ρ 0=some x0/\u1=.ref x0:=by
  induction a using aA<;>first|exact ak h0|skip
  rw[Nat.eq_of_beq_eq_true h0]at q1;exact q1
 rw[<-h2];by_cases hi:V.ι (300+u)=-1
 ·exact xg h1 (o6 ht') ht (rm.mono hn) hx0 hi
 ·exact xf h1 (o6 ht') ht (rm.mono hn) hx0 hi
def hk3:CL:=fun g vs σ=>(hkT g vs σ).or ((hkB g vs σ).or (hk2 g vs σ))
def ez:Cfg:={ dE with n0:=100,hk:=hk3 }
def lq (g:Nat):Str:=match aa E4 g with|some l=>l.2.2|none=>⟨#[]⟩
def σc (pre:List Value) (b:Nat) (sh:Sh) (ds:List (Nat×AV)):ST:=⟨wOs (iA sh)++((20,.ctb 984 (lq 987) [])::(21,.ctb 989 (lq 994) [])::(30,.bx b ds)::(31,.lsu pre [])::mA sh),100⟩
def ij:List Stmt:=(fiA 1015).body.drop 2
def wyA (wy:Nat):AV:=@Bool.rec (fun zz=>AV) (.ge (.ofNat 4)) (.int (.ofNat wy)) (Nat.ble wy 3)
def dFr (wy:Nat):AF:=⟨(fiA 1015).scope,[(S [119,111,114,108,100],.obj 0),(S [98,111,120],.obj 30),(S [110,111,116,101,115],.obj 31),(S [119,97,121],wyA wy),(S [110,111,116,101],.obj 40)],[],none,none⟩
def aT (pre:List Value) (b:Nat) (sh:Sh) (wy:Nat) (ds:List (Nat×AV)):RS:=(ev ez 200).bl ij (dFr wy) (σc pre b sh ds)
def jr:kQ:=⟨S [100,101,101,100,95,111,102],S [82,97,105,115,101,100],S [101],S [116,104,105,110,103],S [111,119,110,101,114],S [110,97,109,101],S [70,114,111,122,101,110,69,114,114,111,114]⟩
structure IfR where
 t:Expr
 g:Expr
 as:List Expr
 p:Pos
 p1:Pos
 p2:Pos
noncomputable def IfR.st (i:IfR):Stmt:=.If i.t [.Return (some (.Call i.g i.as [] i.p2)) i.p1] [] i.p
noncomputable def H4 (s:Stmt):Option IfR:=match s with
 |.If t [.Return (some (.Call g as _ p2)) p1] _ p=>some ⟨t,g,as,p,p1,p2⟩
 |_=>none
def dIf:IfR:=((bp ij 5).bind H4).getD ⟨.Constant .none 0 default,.Constant .none 0 default,[],default,default,default⟩
def Bf (q:AFl×AF) (σ:ST):R AV:=gd (cf q.1) (((ev ez 199).ts dIf.t q.2 σ).bind fun tr σ₁=>gd tr (((ev ez 199).ex dIf.g q.2 σ₁).bind fun u σ₂=>lH u fun f=>gd (Nat.beq f 1001) ((evs (ev ez 199).ex dIf.as q.2 σ₂).bind fun vs σ₃=>on1 vs fun v=>fY v fun j=>ET (ev ez 190).xe jr 544 j σ₃)))
def eg (pre:List Value) (b:Nat) (sh:Sh) (wy:Nat) (ds:List (Nat×AV)):R AV:=((ev ez 200).bl (ij.take 5) (dFr wy) (σc pre b sh ds)).bind Bf
theorem cN:fG ez:=fun n hn g vs σ v σ' q d V fr us ht rm dv=>
 Snd.of q (Φ:=fun v σ'=>TC d V fr σ g us v σ') (Snd.or (fun v σ' q=>A7 (n:=n+1) (ba (by decide) (Nat.le_succ_of_le hn)) q ht rm dv) (Snd.or (fun v σ' q=>Be (n:=n+1) (ba (by decide) (Nat.le_succ_of_le hn)) q ht rm dv) fun v σ' q=>wU n (ba (by decide) hn) q ht rm dv))
noncomputable def smp:AV->Bool
 |.non=>true
 |.boo _=>true
 |.int _=>true
 |.str _=>true
 |.obj _=>true
 |.uv _=>true
 |_=>false
def uf:AO->Bool
 |.lst es=>es.all smp
 |.tup es=>es.all smp
 |_=>false
section
variable {V W V2:Vl}{a b:AV}{u v:Value}
theorem FB {i:Int}{t t':Tok}(h:smp b=true)(d:Den V2 b (.int i t)):Den V2 b (.int i t'):=by
 induction b using aA<;>first|exact ak h|skip
 ·cases d
 ·cases d
 ·refine av d fun zy e=>?_;clear d;cases e;exact ⟨_,rfl⟩
 ·refine av d fun zy e=>?_;clear d;cases e
 ·refine aj d fun zy zy e=>?_;clear d;cases e
 ·obtain ⟨h1,⟨_,e⟩|⟨h2,_,e⟩⟩:=d
  ·cases e
  ·cases e;exact ⟨h1,.inr ⟨h2,_,rfl⟩⟩
theorem H5 {i:Str}{t t':Tok}(h:smp b=true)(d:Den V2 b (.str i t)):Den V2 b (.str i t'):=by
 induction b using aA<;>first|exact ak h|skip
 ·cases d
 ·cases d
 ·refine av d fun zy e=>?_;clear d;cases e
 ·refine av d fun zy e=>?_;clear d;cases e;exact ⟨_,rfl⟩
 ·refine aj d fun zy zy e=>?_;clear d;cases e
 ·obtain ⟨h1,⟨_,e⟩|⟨h2,_,e⟩⟩:=d<;>cases e
theorem xh (le:V.le W)(h:smp a=true)(h2:smp b=true)(d:Den V a u)(d':Den W a v)(e:Den V2 b u):Den V2 b v:=by
 induction a using aA<;>first|exact ak h|skip
 ·obtain rfl:=d;obtain rfl:=d';exact e
 ·obtain rfl:=d;obtain rfl:=d';exact e
 ·refine av d fun zy d'1=>?_;clear d;obtain rfl:=d'1;refine av d' fun zy d''1=>?_;clear d';obtain rfl:=d''1;exact FB h2 e
 ·refine av d fun zy d'1=>?_;clear d;obtain rfl:=d'1;refine av d' fun zy d''1=>?_;clear d';obtain rfl:=d''1;exact H5 h2 e
 ·refine aj d fun x h1 d'2=>?_;clear d;obtain rfl:=d'2;refine aj d' fun y h3 d''2=>?_;clear d';obtain rfl:=d''2;rw[le.ρ _ _ h1]at h3;obtain rfl:=soo h3;exact e
 ·obtain ⟨_,⟨h1,rfl⟩|⟨h1,_,rfl⟩⟩:=d
  ·obtain ⟨_,⟨_,rfl⟩|⟨h3,_,_⟩⟩:=d'
   ·exact e
   ·exact absurd (le.ι▸h1) h3
  ·obtain ⟨_,⟨h3,_⟩|⟨_,_,rfl⟩⟩:=d'
   ·exact absurd (le.ι▸h3) h1
   ·rw[le.ι];exact FB h2 e
theorem pe (le:V.le W):∀{as bs:List AV} {us vs:List Value},as.all smp=true->bs.all smp=true->Dens V as us->Dens W as vs->Dens V2 bs us->Dens V2 bs vs
 |[],[],[],[],_,_,_,_,e=>e
 |a::r,b::q,u::s,v::t,h,h2,d,d',e=>by
  rw[List.all_cons,Bool.and_eq_true]at h h2;exact ⟨xh le h.1 h2.1 d.1 d'.1 e.1,pe le h.2 h2.2 d.2 d'.2 e.2⟩
 |[],_,_::_,_,_,_,d,_,_|[],_,_,_::_,_,_,_,d,_|_::_,_,[],_,_,_,d,_,_|_::_,_,_,[],_,_,_,d,_|_,[],_::_,_,_,_,_,_,d|_,_::_,[],_,_,_,_,_,d=>d.elim
end
def ug (w:World) (fl:FL) (x:Addr) (o o':Obj):Prop:=∀V i y,uf y=true->Is w V fl i y [(x,o)]->Is w V fl i y [(x,o')]
theorem pf {w:World}{fl:FL}{V W:Vl}{i:Nat}{y:AO}{l l':L2}(le:V.le W)(h:uf y=true)(d:Is w V fl i y l)(d':Is w W fl i y l'):∃x o o',l=[(x,o)]/\l'=[(x,o')]/\ug w fl x o o':=by
 induction y using aN<;>first|exact ak h|skip
 all_goals
  refine bu d fun x vs k h1 h2 d'5=>?_;clear d;obtain rfl:=d'5;refine bu d' fun x' vs' k' h3 h4 d''5=>?_;clear d';obtain rfl:=d''5;rw[le.ρ _ _ h1]at h3;obtain rfl:=soo h3;refine ⟨x,_,_,rfl,rfl,fun V2 j y2 hs e=>?_⟩
  induction y2 using aN<;>first|exact ak hs|skip
  all_goals
   refine bu e fun z us kk g1 g2 g3=>?_;clear e;refine ay (bo (cM g3).1) fun z'0 g4=>?_;obtain rfl:=z'0
   first
    |(have q:=congrArg Obj.cls g4;injection q with q;exact absurd q (by decide))
    |(have g5:=congrArg Obj.data g4;injection g5 with g5 g6;have g5:=congrArg Array.toList g5;rw[List.toList_toArray,List.toList_toArray]at g5;subst g5;exact ⟨_,vs',k',g1,pe le h hs h2 h4 g2,rfl⟩)
def PLe (w:World) (fl:FL) (p p':L2):Prop:=∀z∈p,∃o',(z.1,o')∈p'/\ug w fl z.1 z.2 o'
theorem PLe.refl {w:World}{fl:FL}{p p':L2}(h:∀z∈p,z∈p'):PLe w fl p p':=fun z hz=>⟨z.2,h z hz,fun V i y zz d=>d⟩
theorem Led.pool {w:World}{fl:FL}{V:Vl}{p p':L2}(P:PLe w fl p p'){os:List (Nat×AO)}{l:L2}(D:Led w V fl [] os l):os.all (fun q=>uf q.2)=true->(∀z∈l,z∈p)->∃l',Led w V fl [] os l'/\(∀z∈l',z∈p')/\l'.map (·.1)=l.map (·.1):=by
 induction D with
 |nil=>exact fun zz zz=>⟨[],.nil,fun z hz=>absurd hz bI,rfl⟩
 |@cons i o l r news a b ih=>
  intro h hl;rw[List.all_cons,Bool.and_eq_true]at h;refine cq (ih h.2 fun z hz=>hl z (a9 _ hz)) fun l' h1 h2 h3=>?_;refine bu (pf (.refl V) h.1 a a) fun x ob zy z'3 zy zy=>?_;obtain rfl:=z'3;refine aj (P _ (hl (x,ob) (.head _))) fun o' q1 q2=>?_;refine ⟨(x,o')::l',.cons (l:=[(x,o')]) (q2 V i o h.1 a) h1,fun z hz=>?_,by rw[List.map_cons,h3];rfl⟩;rcases aG hz with rfl|hz
  ·exact q1
  ·exact h2 z hz
def Bg (s i:Nat):Bool:=@Bool.rec (fun zz=>Bool) ((Nat.beq s 2||(Nat.beq s 4||Nat.beq s 5))&&Nat.beq i 45) (Nat.ble 45 i&&Nat.ble i 48) (Nat.beq s 3)
def bA (sh:Sh):List (Nat×AO):=(mA sh).filter fun p=>Bg sh.s p.1
def bT (sh:Sh):List (Nat×AO):=(mA sh).filter fun p=>!Bg sh.s p.1
noncomputable def H6:List (List Nat):=[[],[109],[110],[111],[109,110],[109,111],[110,109],[110,111],[111,109],[111,110],[109,110,111],[109,111,110],[110,109,111],[110,111,109],[111,109,110],[111,110,109]]
noncomputable def shF (b:Bool):List Sh:=⟨0,.boo b,b,0,[]⟩::⟨1,.boo b,b,0,[]⟩::⟨3,.boo b,b,0,[]⟩::⟨3,.boo b,b,1,[]⟩::((List.range 15).map (fun n=>⟨2,.boo b,b,n,[]⟩)++H6.map fun m=>⟨5,.boo b,b,0,m⟩)
def shT:List Sh:=[⟨4,.boo true,true,0,[]⟩,⟨4,.boo true,true,1,[]⟩,⟨4,.boo true,true,2,[]⟩,⟨4,.non,false,0,[]⟩,⟨4,.non,false,1,[]⟩,⟨4,.non,false,2,[]⟩,⟨6,.boo true,true,0,[]⟩,⟨6,.boo true,true,1,[]⟩,⟨6,.boo true,true,2,[]⟩]++(shF true++shF false)
theorem pg:shT.all (fun sh=>(bA sh).all fun q=>uf q.2)=true:=by kernel_rfl
structure NtOk (w:World) (fl:FL) (V0:Vl) (t:Nat) (pool:L2) (a:Addr) (lo:L2) (sh:Sh) (V1:Vl) (lp:L2):Prop where
 mem:sh∈shT
 n:sh.s=2->sh.n<=t+2
 tx:sh.s=1->∃i m j,i+j<=t/\m<=2/\V1.τ 41=some (txt i m j)
 tn:sh.s≠1->V1.τ 41=none
 ρ:∀c,c < 8->V1.ρ c=V0.ρ c
 nr:V1.ι 1<=V0.ι 0
 uv:∀k,1000<=k->-1<=V1.ι k/\V1.ι k < 5
 at_:V1.ρ 40=some a
 c:∀u,iA sh=some u->V0.ι (300+u)≠-1/\V1.ρ 8=some (V0.ι (300+u)).toNat
 own:Led w V1 fl [] (bT sh) lo
 pol:Led w V1 fl [] (bA sh) lp
 mp:∀z∈lp,z∈pool
 nd:(lp.map (·.1)).Nodup
inductive Gs (w:World) (fl:FL) (V0:Vl) (t:Nat) (pool:L2):List Addr->L2->Prop
 |nil:Gs w fl V0 t pool [] []
 |cons {a as lo r sh V1 lp}:NtOk w fl V0 t pool a lo sh V1 lp->Gs w fl V0 t pool as r->Gs w fl V0 t pool (a::as) (lo++r)
structure FC (w:World) (fl:FL) (V:Vl) (p:OpP) (l:L2) (V0:Vl) (wl pool r:L2) (as:List Addr):Prop where
 pm:(wl++(pool++r)).Perm l
 wd:Led w V0 fl [] (wOs none) wl
 num:bK V0.ι
 z:0<=V0.ι 0
 ρ:V.ρ p.wi=V0.ρ 0
 gs:Gs w fl V0 p.t pool as r
 js:∀j∈p.js,∃a∈as,V.ρ j=some a
def piL (w:World) (V:Vl) (p:OpP) (l:L2):Prop:=p.t<=12/\∃V0 wl pool r as,FC w tbT.flds V p l V0 wl pool r as
section
variable {w:World}{fl:FL}{V V0 V2:Vl}{t:Nat}{pool:L2}
theorem Gs.pick {as:List Addr}{r:L2}{a:Addr}(G:Gs w fl V0 t pool as r):a∈as->∃lo r' as' sh V1 lp,NtOk w fl V0 t pool a lo sh V1 lp/\Gs w fl V0 t pool as' r'/\(lo++r').Perm r/\(a::as').Perm as:=by
 induction G with
 |nil=>exact fun h=>absurd h bI
 |@cons b as lo r sh V1 lp n g ih=>
  intro h;rcases aG h with rfl|h
  ·exact ⟨lo,r,as,sh,V1,lp,n,g,.refl _,.refl _⟩
  ·refine DJ (ih h) fun lo' r' as' sh' V1' lp' q1 q2 q3 q4=>?_;exact ⟨lo',lo++r',b::as',sh',V1',lp',q1,.cons n q2,(fS ..).trans (q3.append_left lo),(List.Perm.swap ..).trans (q4.cons b)⟩
end
theorem mE:∀{a b:L2},(∀z∈a,z∈b)->(a.map (·.1)).Nodup->∃r,(a++r).Perm b
 |[],b=>fun zz zz=>⟨b,.refl _⟩
 |x::a,b=>fun h nd=>by
  rw[List.map_cons,List.nodup_cons]at nd;refine dP (List.append_of_mem (h x (.head _))) fun p q e=>?_;refine av (mE (a:=a) (b:=p++q) (fun z hz=>by
   have hb:=h z (.tail _ hz);rw[e]at hb;rcases bn hb with m|m
   ·exact bS _ m
   ·rcases aG m with rfl|m
    ·exact absurd (cP hz) nd.1
    ·exact a9 _ m) nd.2) fun r hr=>?_
  exact ⟨r,by rw[e];exact (hr.cons x).trans List.perm_middle.symm⟩
def iL:Str:=S [110,117,109,98,101,114]
theorem kZ {w:World}{fl:FL}{V V2:Vl}(hι:∀k,300<=k->k < 1000->V2.ι k=V.ι k){c:Option Nat}:∀{l:List Str} {u:Nat} {n:L2},u+l.length<=8->(∀i,c=some i->i < u)->Led w V fl [] (fD l u none) n->Led w V2 fl [] (fD l u c) n
 |[],_,_=>fun zz zz D=>by induction D using Led.ns;exact .nil
 |x::r,u,n=>fun hu hc D=>by
  rw[List.length_cons]at hu;have e:fD (x::r) u c=opm x u::fD r (u+1) c:=by
   show @Bool.rec (fun zz=>List (Nat×AO)) _ _ (@Option.rec Nat (fun zz=>Bool) false (fun i=>Nat.beq i u) c)=_
   induction c using aF with
   |none=>rfl
   |some i=>
    have:Nat.beq i u=false:=by
     generalize q:Nat.beq i u=x';induction x' using aH with
     |false=>rfl
     |true=>exact absurd (aK q) (bJ (hc i rfl))
    show @Bool.rec (fun zz=>List (Nat×AO)) _ _ (Nat.beq i u)=_;rw[this]
  rw[e]
  induction D using Led.cs with
  |cons a b=>
   refine .cons ?_ (kZ hι (by lia) (fun i h=>Nat.lt_succ_of_lt (hc i h)) b);have q:=hι (300+u) (by lia) (by lia);show (V2.ι (300+u)=-1/\_)\/(V2.ι (300+u)≠-1/\∃d es kk,_/\_=[((V2.ι (300+u)).toNat,_),_]);rw[q];exact a
theorem ph {w:World}{fl:FL}{V:Vl}{u0:Nat}(h0:V.ι (300+u0)≠-1):∀{l:List Str} {u:Nat} {n:L2},u+l.length<=8->u<=u0->u0 < u+l.length->Led w V fl [] (fD l u none) n->
  ∃dd z,∀V2:Vl,V2.δ 8=some dd->V2.ι 101=z->V2.ρ 8=some (V.ι (300+u0)).toNat->(∀k,300<=k->k < 1000->V2.ι k=V.ι k)->Led w V2 fl [] (fD l u (some u0)) n
 |[],_,_=>fun zz h1 h2 D=>absurd h2 (by simp only[List.length_nil];lia)
 |x::r,u,n=>fun hu h1 h2 D=>by
  rw[List.length_cons]at hu h2;have e:fD (x::r) u (some u0)=@Bool.rec (fun zz=>List (Nat×AO)) (opm x u::fD r (u+1) (some u0)) ((8,.inst 228 100 ((iL,.si 101 0)::clF x true))::(10+u,.tie (300+u) 8)::fD r (u+1) (some u0)) (Nat.beq u0 u):=rfl
  induction D using Led.cs with
  |cons a b=>
   generalize q:Nat.beq u0 u=x';induction x' using aH with
   |true=>
    obtain rfl:=aK q;obtain ⟨q,_⟩|⟨_,d,es,kk,E,rfl⟩:=a
    ·exact absurd q h0
    obtain ⟨v,hv,z,t,rfl⟩:=(E V).known iL .ai rfl;refine ⟨d,z,fun V2 g1 g2 g3 g4=>?_⟩;rw[e,q];refine .cons (Is.inst g3 g1 ⟨(E V2).keys,(E V2).len,fun y b hy=>?_⟩) (.cons (l:=[]) ⟨rfl,fun zz=>by rw[g4 (300+u0) (by lia) (by lia)];exact g3⟩ (kZ g4 (by lia) (fun i h=>by obtain rfl:=soo h;lia) b));rw[aY]at hy;by_cases hk:iL=y
    ·rw[if_pos hk]at hy;obtain rfl:=soo hy;exact ⟨_,hk▸hv,t,by rw[g2,Int.add_zero]⟩
    ·rw[if_neg hk]at hy;exact (E V2).known y b (by show aw ((iL,.ai)::clF x true) y=_;rw[aY,if_neg hk];exact hy)
   |false=>
    have hne:u≠u0:=fun e=>Nat.ne_of_beq_eq_false q e.symm;refine dP (ph h0 (by lia) (by lia) (by lia) b) fun dd z f=>?_;refine ⟨dd,z,fun V2 g1 g2 g3 g4=>?_⟩;rw[e,q];refine .cons ?_ (f V2 g1 g2 g3 g4);have q:=g4 (300+u) (by lia) (by lia);show (V2.ι (300+u)=-1/\_)\/(V2.ι (300+u)≠-1/\∃d es kk,_/\_=[((V2.ι (300+u)).toNat,_),_]);rw[q];exact a
noncomputable def enV (V0 V1:Vl)(dd:Option Addr)(z:Int)(bx nl:Option Addr)(dj:Nat):Vl:=⟨fun c=>if c < 8 then V0.ρ c else if c=30 then bx else if c=31 then nl else if c < 100 then V1.ρ c else none,fun c=>if c < 8 then V0.δ c else if c=8 then dd else if c < 100 then V1.δ c else none,
 fun k=>if k=1 then V1.ι 1 else if k=101 then z else if k < 1000 then (if k=0\/100<=k then V0.ι k else -1) else if k=1200 then (dj:Nat) else V1.ι k,fun k=>if k=41 then V1.τ 41 else none⟩
noncomputable def mIn:Rn:=⟨fun c=>Nat.blt c 30||(Nat.ble 40 c&&Nat.blt c 100),fun c=>c,fun k=>match k with|1=>.si 1 0|41=>.ss [] 41 []|k=>.uv k,fun k=>Nat.beq k 1||(Nat.beq k 41||(Nat.ble 1000 k&&Nat.blt k 1200)),fun c=>Nat.ble c 8⟩
theorem uh:shT.all (fun sh=>fy mIn (bT sh++bA sh) (bT sh++bA sh))=true:=by kernel_rfl
theorem xj:shT.map (fun sh=>de (fun c=>c) (bT sh++bA sh) (bT sh++bA sh))=shT.map fun zz=>[]:=by kernel_rfl
def fW (c:Option Nat) (i:Nat):AV:=((qw c).map (·.2)).getD i .rn
theorem k8 (c:Option Nat):qw c=cG (fW c) cX 0:=by
 have e:=nK (qw c) [];rw[List.length_nil,List.nil_append]at e;exact e
def wB (u0:Nat) (a b:AV):Bool:=match a with
 |.rn=>bF b .rn
 |.obj c=>Nat.blt c 8&&bF b (.obj c)
 |.opn k=>(Nat.ble 300 k&&Nat.blt k 1000)&&bF b (.opn k)
 |.opt k=>(Nat.ble 300 k&&Nat.blt k 1000)&&(bF b (.opt k)||(Nat.beq k (300+u0)&&bF b (.obj 8)))
 |_=>false
noncomputable def uj:List (Option Nat×Nat):=[(none,700),(some 0,0),(some 1,1),(some 2,2),(some 3,3)]
theorem Bh:uj.all (fun q=>(List.range 40).all fun i=>wB q.2 (fW none i) (fW q.1 i))=true:=by kernel_rfl
section
variable {w:World}{fl:FL}{V0 V1:Vl}{t:Nat}{pool:L2}{a:Addr}{lo lp:L2}{sh:Sh}{dd bx nl:Option Addr}{z:Int}{dj:Nat}
theorem xk (n:bK V0.ι)(h0:0<=V0.ι 0)(h1:V1.ι 1<=V0.ι 0)(h2:∀k,1000<=k->-1<=V1.ι k/\V1.ι k < 5)(hj:dj < 5):bK (enV V0 V1 dd z bx nl dj).ι:=by
 refine ⟨fun k hk=>?_,fun k hk=>?_,fun k hk hk'=>?_⟩
 ·show (if k=1 then V1.ι 1 else if k=101 then z else if k < 1000 then (if k=0\/100<=k then V0.ι k else -1) else if k=1200 then (dj:Nat) else V1.ι k)<=V0.ι 0;by_cases e:k=1
  ·rw[if_pos e];exact h1
  rw[if_neg e,if_neg (by lia),if_pos (by lia)];by_cases e:k=0
  ·rw[if_pos (.inl e),e];exact Int.le_refl _
  ·rw[if_neg (by lia)];lia
 ·show -1<=(if k=1 then V1.ι 1 else if k=101 then z else if k < 1000 then (if k=0\/100<=k then V0.ι k else -1) else if k=1200 then (dj:Nat) else V1.ι k)/\(if k=1 then V1.ι 1 else if k=101 then z else if k < 1000 then (if k=0\/100<=k then V0.ι k else -1) else if k=1200 then (dj:Nat) else V1.ι k) < 5;rw[if_neg (by lia),if_neg (by lia),if_neg (by lia)];by_cases e:k=1200
  ·rw[if_pos e];lia
  ·rw[if_neg e];exact h2 k hk
 ·show 1<=(if k=1 then V1.ι 1 else if k=101 then z else if k < 1000 then (if k=0\/100<=k then V0.ι k else -1) else if k=1200 then (dj:Nat) else V1.ι k);rw[if_neg (by lia),if_neg (by lia),if_pos (by lia),if_pos (by lia)];exact n.2.2 k hk hk'
theorem FD (N:NtOk w fl V0 t pool a lo sh V1 lp)(n:bK V0.ι)(h0:0<=V0.ι 0)(ht:t<=12)(hj:dj < 5):Vx (enV V0 V1 dd z bx nl dj) 100:=by
 refine ⟨fun c hc=>⟨?_,?_,?_⟩,xk n h0 N.nr N.uv hj,fun k l h=>?_⟩
 ·show (if c < 8 then V0.ρ c else if c=30 then bx else if c=31 then nl else if c < 100 then V1.ρ c else none)=none;rw[if_neg (by lia),if_neg (by lia),if_neg (by lia),if_neg (by lia)]
 ·show (if c < 8 then V0.δ c else if c=8 then dd else if c < 100 then V1.δ c else none)=none;rw[if_neg (by lia),if_neg (by lia),if_neg (by lia)]
 ·show (if c=41 then V1.τ 41 else none)=none;rw[if_neg (by lia)]
 ·have h:(if k=41 then V1.τ 41 else none)=some l:=h;by_cases e:k=41
  ·rw[if_pos e]at h;by_cases q:sh.s=1
   ·refine bu (N.tx q) fun i m j h1 h2 h3=>?_;rw[h]at h3;obtain rfl:=soo h3;exact ⟨i,m,j,by lia,h2,rfl⟩
   ·rw[N.tn q]at h;exact ag h
  ·rw[if_neg e]at h;exact ag h
theorem ul (N:NtOk w fl V0 t pool a lo sh V1 lp):mIn.Ok V1 (enV V0 V1 dd z bx nl dj):=by
 refine ⟨fun c hc=>?_,fun c hc he=>?_,fun k hk=>?_,fun k hk=>?_⟩
 ·show (if c < 8 then V0.ρ c else if c=30 then bx else if c=31 then nl else if c < 100 then V1.ρ c else none)=V1.ρ c;by_cases h:c < 8
  ·rw[if_pos h,N.ρ c h]
  ·rcases cx hc with h1|h1
   ·have h1:=az h1;rw[if_neg h,if_neg (by lia),if_neg (by lia),if_pos (by lia)]
   ·have h2:=an2 h1;have h1:=an1 h1;have h1:=az h1;have h2:c < 100:=az h2;rw[if_neg h,if_neg (by lia),if_neg (by lia),if_pos h2]
 ·show (if c < 8 then V0.δ c else if c=8 then dd else if c < 100 then V1.δ c else none)=V1.δ c;have e:¬c<=8:=fun q=>by rw[show mIn.e c=Nat.ble c 8 from rfl,Nat.ble_eq_true_of_le q]at he;cases he
  have h1:c < 100:=by
   rcases cx hc with h1|h1
   ·have h1:c < 30:=az h1;lia
   ·exact az (cL h1).2
  rw[if_neg (by lia),if_neg (by lia),if_pos h1]
 all_goals
  rcases cx hk with h1|h1
  ·obtain rfl:=aK h1
   first
    |exact (Int.add_zero _).symm
    |rfl
  ·rcases cx h1 with h1|h1
   ·obtain rfl:=aK h1
    first
     |rfl
     |(show V1.τ 41=Option.map (fun l=>[]++l++[]) (V1.τ 41);cases V1.τ 41 with |none=>rfl |some l=>show some l=some ([]++l++[]);rw[List.nil_append,List.append_nil])
   ·have h2:=an2 h1;have h1:=an1 h1;have h1:=az h1;have h2:k < 1200:=az h2;have e:mIn.g k=.uv k:=by
     show (match k with|1=>AV.si 1 0|41=>.ss [] 41 []|k=>.uv k)=_
     split
     ·lia
     ·lia
     ·rfl
    rw[e]
    first
     |(show (if k=1 then V1.ι 1 else if k=101 then z else if k < 1000 then (if k=0\/100<=k then V0.ι k else -1) else if k=1200 then (dj:Nat) else V1.ι k)=V1.ι k;rw[if_neg (by lia),if_neg (by lia),if_neg (by lia),if_neg (by lia)])
     |(show (if k=41 then V1.τ 41 else none)=none;rw[if_neg (by lia)])
end
theorem jt:cX.length=40:=by kernel_rfl
theorem nN (c:Option Nat):wOs c=(0,dw (.si 0 0) (.si 100 0))::(1,.fdc (qw c))::(bOs++fD clN 0 c):=rfl
theorem fe:clN.length=8:=by kernel_rfl
section
variable {w:World}{fl:FL}{V V0 V2:Vl}
theorem Bi {u0:Nat}{a b:AV}{v:Value}(hρ:∀c,c < 8->V2.ρ c=V0.ρ c)(hι:∀k,300<=k->k < 1000->V2.ι k=V0.ι k)(h8:V0.ι (300+u0)≠-1/\V2.ρ 8=some (V0.ι (300+u0)).toNat\/700<=u0)(h:wB u0 a b=true)(d:Den V0 a v):Den V2 b v:=by
 induction a using aA<;>first|exact ak h|skip
 ·have h1:=an1 h;have h2:=an2 h;rw[aX h2];refine aj d fun x d1 d2=>?_;clear d;exact ⟨x,(hρ _ (az h1)).trans d1,d2⟩
 ·have h1:=an1 h;have h2:=an2 h;have h3:=an1 h1;have h4:=an2 h1;have q:=hι _ (az h3) (az h4);rcases cx h2 with h2|h2
  ·rw[aX h2];show (V2.ι _=-1/\_)\/(V2.ι _≠-1/\_=Value.ref (V2.ι _).toNat);rw[q];exact d
  ·have h5:=an1 h2;have h6:=an2 h2;obtain rfl:=aK h5;have h4:300+u0 < 1000:=az h4;refine ay (h8.resolve_right (by omega)) fun g1 g2=>?_;rw[aX h6];exact ⟨_,g2,(d.resolve_left fun z=>g1 z.1).2⟩
 ·have h1:=an1 h;have h2:=an2 h;have h3:=an1 h1;have h4:=an2 h1;have q:=hι _ (az h3) (az h4);rw[aX h2];show V2.ι _=-1->_;rw[q];exact d
 ·rw[aX h];exact d
theorem FE:uj.all (fun p=>@Option.rec Nat (fun zz=>Bool) (Nat.ble 700 p.2) (fun u=>Nat.beq u p.2&&Nat.blt p.2 8) p.1)=true:=by kernel_rfl
theorem pj {c:Option Nat}{u0:Nat}(hc:(c,u0)∈uj):(c=none/\700<=u0)\/(c=some u0/\u0 < 8):=by
 have q:=aD FE hc
 induction c using aF with
 |none=>exact .inl ⟨rfl,az q⟩
 |some u=>exact .inr ⟨congrArg some (aK (an1 q)),az (an2 q)⟩
theorem mF {c:Option Nat}{u0:Nat}{wl:L2}(hc:(c,u0)∈uj)(h8:c=some u0->V0.ι (300+u0)≠-1)(D:Led w V0 fl [] (wOs none) wl):∃dd z,∀V2:Vl,(∀c,c < 8->V2.ρ c=V0.ρ c)->(∀c,c < 8->V2.δ c=V0.δ c)->(∀k,300<=k->k < 1000->V2.ι k=V0.ι k)->V2.ι 0=V0.ι 0->V2.ι 100=V0.ι 100->
  V2.δ 8=dd->V2.ι 101=z->(c=some u0->V2.ρ 8=some (V0.ι (300+u0)).toNat)->∃wl',wl'.Perm wl/\Led w V2 fl [] (wOs c) wl':=by
 rw[nN]at D;refine D.inv fun l0 m0 e0 i0 D=>D.inv fun l1 m1 e1 i1 D=>?_;refine aR (Led.split2 bOs D) fun n1 n2 e2 D1 D2=>?_;subst e2;subst e1;subst e0;have key:∃dd z,∀V2:Vl,(∀k,300<=k->k < 1000->V2.ι k=V0.ι k)->V2.δ 8=dd->V2.ι 101=z->(c=some u0->V2.ρ 8=some (V0.ι (300+u0)).toNat)->Led w V2 fl [] (fD clN 0 c) n2:=by
  rcases pj hc with ⟨rfl,_⟩|⟨rfl,hu⟩
  ·exact ⟨none,0,fun V2 g1 zz zz zz=>kZ g1 (by rw[fe];decide) (fun i h=>ag h) D2⟩
  ·refine dP (ph (h8 rfl) (by rw[fe];decide) (bD _) (by rw[fe,Nat.zero_add];exact hu) D2) fun dd z f=>?_;exact ⟨some dd,z,fun V2 g1 g2 g3 g4=>f V2 g2 g3 (g4 rfl) g1⟩
 refine dP key fun dd z f=>?_;clear key;refine ⟨dd,z,fun V2 hρ hδ hι h0 h100 g1 g2 g3=>?_⟩;have M:mId.Ok V0 V2:=⟨fun c hc=>hρ c (az hc),fun c hc zz=>hδ c (az hc),fun k h=>ak h,fun k h=>ak h⟩
 refine aR (D1.ref M bOs mC) fun n1' n2' p q1 q2=>?_;rw[show de mId.f bOs bOs=[] from o7]at q2
 induction q2 using Led.ns
 rw[List.append_nil]at p;rw[nN];refine ⟨_,((p.append_right n2).append_left _).append_left _,.cons (wI (V:=V0) (n:=.si 0 0) (v:=.si 100 0) hρ (hδ 0 (by decide)) (fun u d=>?_) (fun u d=>?_) (aP _) i0) (.cons ?_ (q1.join (f V2 hι g1 g2 g3)))⟩
 ·refine av d fun t d'1=>?_;clear d;obtain rfl:=d'1;exact ⟨t,by rw[h0]⟩
 ·refine av d fun t d'1=>?_;clear d;obtain rfl:=d'1;exact ⟨t,by rw[h100]⟩
 ·refine FdcIs.k i1 fun x o us h1 zz h2 h3=>h3 _ _ _ ((hρ 1 (by decide)).trans h1) ?_;rw[k8]at h2 ⊢;refine qA h2 fun i y hy d=>Bi hρ hι ?_ (aD (aD Bh hc) (eo ?_)) d
  ·exact (pj hc).symm.imp (fun e=>⟨h8 e.1,g3 e.1⟩) fun e=>e.2
  ·have:=iK hy;rw[<-jt];exact (List.getElem?_eq_some_iff.mp this).1
end
theorem um (sh:Sh):∃u0,(iA sh,u0)∈uj/\∀u,iA sh=some u->u=u0:=by
 unfold iA
 split
 ·exact ⟨0,.tail _ (.head _),fun u h=>(soo h).symm⟩
 ·exact ⟨1,.tail _ (.tail _ (.head _)),fun u h=>(soo h).symm⟩
 ·exact ⟨2,.tail _ (.tail _ (.tail _ (.head _))),fun u h=>(soo h).symm⟩
 ·exact ⟨3,.tail _ (.tail _ (.tail _ (.tail _ (.head _)))),fun u h=>(soo h).symm⟩
 ·exact ⟨700,.head _,fun u h=>ag h⟩
structure kf (w:World) (fl:FL) (V0:Vl) (t:Nat) (pool:L2) (wl:L2) (bx nl:Option Addr) (dj:Nat) (a:Addr) (r:L2) (as:List Addr) (lo r':L2) (as':List Addr) (sh:Sh) (V1:Vl) (lp rest:L2) (dd:Option Addr) (z:Int) (wl' ln:L2):Prop where
 nt:NtOk w fl V0 t pool a lo sh V1 lp
 gs:Gs w fl V0 t pool as' r'
 pr:(lo++r').Perm r
 pa:(a::as').Perm as
 pp:(lp++rest).Perm pool
 pw:wl'.Perm wl
 pn:ln.Perm (lo++lp)
 wd:Led w (enV V0 V1 dd z bx nl dj) fl [] (wOs (iA sh)) wl'
 ns:Led w (enV V0 V1 dd z bx nl dj) fl [] (bT sh++bA sh) ln
 x:t<=12->Vx (enV V0 V1 dd z bx nl dj) 100
theorem gQ {w:World}{fl:FL}{V V0:Vl}{p:OpP}{l wl pool r:L2}{as:List Addr}(P:FC w fl V p l V0 wl pool r as){a:Addr}(ha:a∈as)(bx nl:Option Addr){dj:Nat}(hj:dj < 5){G:Prop}(Kk:∀lo r' as' sh V1 lp rest dd z wl' ln,kf w fl V0 p.t pool wl bx nl dj a r as lo r' as' sh V1 lp rest dd z wl' ln->G):G:=by
 refine DJ (P.gs.pick ha) fun lo r' as' sh V1 lp N G' pr pa=>?_;refine av (mE N.mp N.nd) fun rest pp=>?_;refine aj (um sh) fun u0 hc hu=>?_;refine dP (mF hc (fun e=>(N.c u0 e).1) P.wd) fun dd z f=>?_;have b:=uh;refine aR ((N.own.join N.pol).ref (ul (dd:=dd) (z:=z) (bx:=bx) (nl:=nl) (dj:=dj) N) _ (aD uh N.mem)) fun n1 n2 q q1 q2=>?_;rw[show de mIn.f (bT sh++bA sh) (bT sh++bA sh)=[] from aq xj sh N.mem]at q2
 induction q2 using Led.ns
 rw[List.append_nil]at q;have hι:∀k,300<=k->k < 1000->(enV V0 V1 dd z bx nl dj).ι k=V0.ι k:=fun k h1 h2=>by
  show (if k=1 then V1.ι 1 else if k=101 then z else if k < 1000 then (if k=0\/100<=k then V0.ι k else -1) else if k=1200 then (dj:Nat) else V1.ι k)=V0.ι k;rw[if_neg (by lia),if_neg (by lia),if_pos h2,if_pos (by lia)]
 refine aj (f (enV V0 V1 dd z bx nl dj) (fun c hc=>if_pos hc) (fun c hc=>if_pos hc) hι rfl rfl rfl rfl fun e=>(N.c u0 e).2) fun wl' pw D=>?_;exact Kk lo r' as' sh V1 lp rest dd z wl' n1 ⟨N,G',pr,pa,pp,pw,q,D,q1,fun ht=>FD N P.num P.z ht hj⟩
def foI (W:Vl) (f:Nat->AV) (u:Nat):Int:=match f (bj u) with
 |.obj c=>@Option.rec _ (fun zz=>Int) 0 (fun x=>(x:Nat)) (W.ρ c)
 |_=>W.ι (300+u)
def foV (W:Vl) (f:Nat->AV) (nl vl:Int):Vl:=⟨fun c=>if c < 8 then W.ρ c else none,fun c=>if c < 8 then W.δ c else none,fun k=>if k=0 then nl else if k=100 then vl else if 300<=k/\k < 308 then foI W f (k - 300) else W.ι k,fun zz=>none⟩
def Bj (u c:Nat) (o:Option AO):Bool:=cV o fun a=>match a with
 |.tie k j=>Nat.beq k (300+u)&&Nat.beq j c
 |_=>false
def foC (f:Nat->AV):List Str->Nat->List (Nat×AO)->Option (List (Nat×AO))
 |[],_,os=>some os
 |_::r,u,os=>match f (bj u) with
  |.opt k=>bO (gdO (Nat.beq k (300+u)&&cV (aa os (10+u)) (mB u)) ()) fun zz=>foC f r (u+1) (aL os (10+u))
  |.obj c=>bO (gdO (qy u (aa os c)&&Bj u c (aa (aL os c) (10+u))) ()) fun zz=>foC f r (u+1) (aL (aL os c) (10+u))
  |_=>none
theorem mG {W:Vl}{f:Nat->AV}{nl vl:Int}{u:Nat}(h:u < 8):(foV W f nl vl).ι (300+u)=foI W f u:=by
 show (if 300+u=0 then nl else if 300+u=100 then vl else if 300<=300+u/\300+u < 308 then foI W f (300+u - 300) else W.ι (300+u))=_;rw[if_neg (by lia),if_neg (by lia),if_pos (by lia),Nat.add_sub_cancel_left]
section
variable {w:World}{W:Vl}{fl:FL}{tl:L2}{f:Nat->AV}{nl vl:Int}
def FoR (w:World) (W:Vl) (fl:FL) (tl:L2) (f:Nat->AV) (nl vl:Int) (l:List Str) (u:Nat) (os':List (Nat×AO)) (n:L2):Prop:=
 ∃n1 n2,(n1++n2).Perm n/\Led w (foV W f nl vl) fl [] (fD l u none) n1/\Led w W fl tl os' n2/\∀i,i < l.length->∀c,f (bj (u+i))=.obj c->∃x,W.ρ c=some x/\(W.ι (300+(u+i))≠-1->x=(W.ι (300+(u+i))).toNat)
theorem FoR.cons {x:Str}{l:List Str}{u:Nat}{os':List (Nat×AO)}{n n₁ ln:L2}(p:(ln++n₁).Perm n)(F:FoR w W fl tl f nl vl l (u+1) os' n₁)(h4:Is w (foV W f nl vl) fl (10+u) (.opm (300+u) (clG x)) ln)(h5:∀c,f (bj u)=.obj c->∃x,W.ρ c=some x/\(W.ι (300+u)≠-1->x=(W.ι (300+u)).toNat)) :
  FoR w W fl tl f nl vl (x::l) u os' n:=by
 refine bt F fun n1 n2 q q1 q2 q3=>?_;clear F;refine ⟨ln++n1,n2,by rw[List.append_assoc];exact (q.append_left ln).trans p,.cons h4 q1,q2,fun i hi c hc=>?_⟩;cases i with
 |zero=>exact h5 c hc
 |succ i=>
  have e:u+(i+1)=u+1+i:=(Nat.add_right_comm u 1 i).symm;rw[e]at hc ⊢;exact q3 i (Nat.lt_of_succ_lt_succ hi) c hc
noncomputable def isO:AV->Bool
 |.obj _=>true
 |_=>false
theorem uq {v:AV}(h:isO v=true):∃c,v=.obj c:=by induction v using aA<;>first|exact ak h|exact ⟨_,rfl⟩
theorem iM {u c:Nat}{x:Addr}(h:f (bj u)=.obj c)(e:W.ρ c=some x):foI W f u=(x:Nat):=by
 unfold foI;rw[h];show @Option.rec _ (fun zz=>Int) 0 (fun x=>((x:Nat):Int)) (W.ρ c)=_;rw[e]
theorem iN {u:Nat}(h:isO (f (bj u))=false):foI W f u=W.ι (300+u):=by
 unfold foI;generalize f (bj u)=y at h ⊢
 induction y using aA<;>first|rfl|exact ak h.symm
theorem xm {x:Str}{r:List Str}{u c:Nat}{os os':List (Nat×AO)}{n:L2}(hu:u < 8)(ex:nmU u=x)(hf:f (bj u)=.obj c)(h:bO (gdO (qy u (aa os c)&&Bj u c (aa (aL os c) (10+u))) ()) (fun zz=>foC f r (u+1) (aL (aL os c) (10+u)))=some os')(D:Led w W fl tl os n)
  (ih:∀{os₁:List (Nat×AO)} {n₁:L2},foC f r (u+1) os₁=some os'->Led w W fl tl os₁ n₁->FoR w W fl tl f nl vl r (u+1) os' n₁):FoR w W fl tl f nl vl (x::r) u os' n:=by
 refine aj (bL h) fun zy h1 h2=>?_;refine ay (ci h1) fun h1 zy=>?_;have h6:=an2 h1;refine aR (pd (an1 h1)) fun n0 fs h3 h4 h5=>?_;refine aj (aZ h6) fun o h7 h8=>?_;refine aj (D.perm ((bk h3).trans ((bk h7).cons _))) fun n' D' p=>?_
 induction o using aN<;>first|exact ak h8|skip
 refine D'.inv fun la n1 e1 a D1=>D1.inv fun lb n2 e2 a' b=>?_;refine ay a' fun a''0 ht=>?_;clear a';obtain rfl:=a''0;refine iS a fun x0 d es kk i1 i2 i3 a'7=>?_;clear a;obtain rfl:=a'7;subst e2;subst e1;rw[Nat.eq_of_beq_eq_true (an1 h8),Nat.eq_of_beq_eq_true (an2 h8)]at ht;refine .cons p (ih h2 b) (.inr ?_) fun c' hc=>?_
 ·rw[mG hu,iM hf i1];refine ⟨(by lia),d,es,kk,fun W'=>?_,rfl⟩;rw[<-ex];exact (dK kY h5 h4 i3).k pc
 ·obtain rfl:c=c':=by injection hf.symm.trans hc
  exact ⟨x0,i1,fun z=>soo (i1.symm.trans (ht z))⟩
theorem xo {x:Str}{r:List Str}{u k:Nat}{os os':List (Nat×AO)}{n:L2}(hu:u < 8)(ex:nmU u=x)(hf:f (bj u)=.opt k)(h:bO (gdO (Nat.beq k (300+u)&&cV (aa os (10+u)) (mB u)) ()) (fun zz=>foC f r (u+1) (aL os (10+u)))=some os')(D:Led w W fl tl os n)
  (ih:∀{os₁:List (Nat×AO)} {n₁:L2},foC f r (u+1) os₁=some os'->Led w W fl tl os₁ n₁->FoR w W fl tl f nl vl r (u+1) os' n₁):FoR w W fl tl f nl vl (x::r) u os' n:=by
 refine aj (bL h) fun zy h1 h2=>?_;refine ay (ci h1) fun h1 zy=>?_;refine aj (aZ (an2 h1)) fun o h5 h6=>?_;refine aj (t6 h6) fun fs z'1 h7=>?_;obtain rfl:=z'1;refine aj (D.perm (bk h5)) fun n' D' p=>?_;refine D'.inv fun la n1 e1 a b=>?_;subst e1;refine .cons p (ih h2 b) ?_ fun c hc=>by rw[hf]at hc;exact AV.noConfusion hc
 have e:(foV W f nl vl).ι (300+u)=W.ι (300+u):=(mG hu).trans (iN (by rw[hf];rfl));show ((foV W f nl vl).ι (300+u)=-1/\_)\/((foV W f nl vl).ι (300+u)≠-1/\∃d es kk,_/\_=[(((foV W f nl vl).ι (300+u)).toNat,_),_]);rw[e];refine a.imp id fun ⟨q1,d,es,kk,q2,q3⟩=>⟨q1,d,es,kk,fun W'=>?_,q3⟩
 rw[<-ex];exact dK kY h7 (aP _) (q2 W')
theorem Bl {os':List (Nat×AO)}:∀{l:List Str} {u:Nat} {os:List (Nat×AO)} {n:L2},u+l.length<=8->(∀i x,l[i]? = some x->nmU (u+i)=x)->foC f l u os=some os'->Led w W fl tl os n->FoR w W fl tl f nl vl l u os' n:=fun {l}=>by
 induction l with
 |nil=>exact fun {u os n} zz zz h D=>by obtain rfl:=soo h;exact ⟨[],n,.refl _,.nil,D,fun i hi=>absurd hi (Nat.not_lt_zero i)⟩
 |cons x r ih=>
  intro u os n hu hx h D;rw[List.length_cons]at hu;have ex:nmU u=x:=hx 0 x rfl;have hu':u < 8:=iR (Nat.lt_add_of_pos_right (Nat.succ_pos _)) hu;have ih':=fun {os₁:List (Nat×AO)} {n₁:L2}=>ih (u:=u+1) (os:=os₁) (n:=n₁) (by rw[Nat.add_assoc,Nat.add_comm 1];exact hu) fun i y hy=>by rw[Nat.add_assoc,Nat.add_comm 1];exact hx (i+1) y hy
  change (match f (bj u) with
   |.opt k=>bO (gdO (Nat.beq k (300+u)&&cV (aa os (10+u)) (mB u)) ()) fun zz=>foC f r (u+1) (aL os (10+u))
   |.obj c=>bO (gdO (qy u (aa os c)&&Bj u c (aa (aL os c) (10+u))) ()) fun zz=>foC f r (u+1) (aL (aL os c) (10+u))
   |_=>none)=some os' at h
  generalize hf:f (bj u)=y at h
  induction y using aA<;>first|exact ag h|exact xm hu' ex hf h D ih'|exact xo hu' ex hf h D ih'
end
theorem xp:∀i x,clN[i]? = some x->nmU (0+i)=x:=fun i x h=>by
 unfold nmU;rw[Nat.zero_add,br,h];rfl
noncomputable def rnB:AV->Bool
 |.obj _=>true
 |.opt _=>true
 |.rn=>true
 |.st _=>true
 |.non=>true
 |_=>false
noncomputable def foO (k:Nat)(b:AV):Bool:=match b with
 |.opt k'=>Nat.beq k' k
 |.obj _=>true
 |_=>false
def foB (f:Nat->AV) (i:Nat) (a b:AV):Bool:=match a with
 |.rn=>rnB b
 |.obj c=>Nat.blt c 8&&bF b (.obj c)
 |.opt k=>(Nat.beq i (bj (k - 300))&&(Nat.ble 300 k&&Nat.blt k 308))&&foO k b
 |.opn k=>(Nat.ble 300 k&&Nat.blt k 308)&&(isO (f (bj (k - 300)))||bF b (.opn k))
 |_=>false
structure WFd where
 n:AV
 v:AV
 o:Int
 l:List AV
def foW (os:List (Nat×AO)):Option (WFd×List (Nat×AO)):=bO (aa os 0) fun w=>bO (wOf w) fun p=>bO (hiK p.1) fun ko=>bO (aa (aL os 0) 1) fun d=>bO (dOf d) fun l=>
 bO (gdO ((Nat.beq ko.1 0&&(Z.leB 0 ko.2&&ioB p.2))&&((List.range 40).all (fun i=>foB (fun i=>l.getD i .rn) i (fW none i) (l.getD i .rn))&&fy mId bOs (aL (aL os 0) 1))) ()) fun zz=>
 bO (foC (fun i=>l.getD i .rn) clN 0 (de (fun c=>c) bOs (aL (aL os 0) 1))) fun os'=>some (⟨p.1,p.2,ko.2,l⟩,os')
section
variable {w:World}{W:Vl}{fl:FL}{tl:L2}{f:Nat->AV}{nl vl:Int}
theorem Bm {u:Nat}(h:isO (f (bj u))=true):foI W f u≠-1:=by
 refine av (uq h) fun c e=>?_;unfold foI;rw[e];show @Option.rec _ (fun zz=>Int) 0 (fun x=>((x:Nat):Int)) (W.ρ _)≠-1;cases W.ρ _ with
 |none=>show (0:Int)≠-1;decide
 |some x=>show ((x:Nat):Int)≠-1;lia
theorem yL {k:Nat}(h1:300<=k)(h2:k < 308):(foV W f nl vl).ι k=foI W f (k - 300):=by
 have:=mG (W:=W) (f:=f) (nl:=nl) (vl:=vl) (u:=k - 300) (Nat.sub_lt_left_of_lt_add h1 h2);rwa [Nat.add_sub_of_le h1]at this
set_option tactic.hygienic true in
theorem xq {i:Nat}{a:AV}{v:Value}(h:foB f i a (f i)=true)(d:Den W (f i) v):Den (foV W f nl vl) a v:=by
 induction a using aA<;>first|exact ak h|skip
 ·have h1:=an1 h;have h2:=an2 h;rw[aX h2]at d;refine aj d fun x d1 d2=>?_;clear d;exact ⟨x,(if_pos (az h1)).trans d1,d2⟩
 ·rename_i k;have h1:=an1 h;have h2:=an2 h;have h3:=an2 h1;have h1:=an1 h1;have h4:=an2 h3;have h3:=an1 h3;have h3:=az h3;have h4:k < 308:=az h4;have e:=yL (W:=W) (f:=f) (nl:=nl) (vl:=vl) h3 h4;show ((foV W f nl vl).ι k=-1/\_)\/((foV W f nl vl).ι k≠-1/\v=.ref ((foV W f nl vl).ι k).toNat);have hi:=aK h1;generalize q:f i=y at h2 d
  induction y using aA<;>first|exact ak h2|skip
  ·refine aj d fun x d1 d'2=>?_;clear d;obtain rfl:=d'2;rw[e,iM (hi▸q) d1];exact .inr ⟨by lia,rfl⟩
  ·obtain rfl:=aK h2;rw[e,iN (by rw[<-hi,q];rfl),show 300+(_ - 300)=_ from Nat.add_sub_of_le h3];exact d
 ·rename_i k;have h1:=an1 h;have h2:=an2 h;have h3:=an1 h1;have h4:=an2 h1;have h3:=az h3;have h4:k < 308:=az h4;have e:=yL (W:=W) (f:=f) (nl:=nl) (vl:=vl) h3 h4;show (foV W f nl vl).ι k=-1->_;rw[e];generalize q:(isO (f (bj (k - 300))))=x';induction x' using aH with
  |true=>exact fun z=>absurd z (Bm q)
  |false=>
   rw[q]at h2;rw[iN q,show 300+(k - 300)=k from Nat.add_sub_of_le h3];rw[aX h2]at d;exact d
 ·generalize f i=y at h d
  induction y using aA<;>first|exact ak h|skip
  ·exact .inl d
  ·refine aj d fun x zy d'2=>?_;clear d;obtain rfl:=d'2;exact .inr ⟨x,rfl⟩
  ·exact .inr ⟨_,d⟩
  ·rcases d with ⟨_,rfl⟩|⟨_,rfl⟩
   ·exact .inl rfl
   ·exact .inr ⟨_,rfl⟩
  ·exact d
theorem Bn {a:AV}{u:Value}(h:ioB a=true)(d:Den W a u):∃i t,u=.int i t:=by
 induction a using aA<;>first|exact ak h|skip
 ·refine av d fun t d'1=>?_;clear d;obtain rfl:=d'1;exact ⟨_,_,rfl⟩
 ·refine av d fun t d'1=>?_;clear d;obtain rfl:=d'1;exact ⟨_,_,rfl⟩
 ·refine aI d fun i t d'2 zy=>?_;clear d;obtain rfl:=d'2;exact ⟨_,_,rfl⟩
theorem k9 (n:bK W.ι)(h:W.ι 0<=nl):bK (foV W f nl vl).ι:=by
 refine ⟨fun k hk=>?_,fun k hk=>?_,fun k hk hk'=>?_⟩
 ·show (if k=0 then nl else if k=100 then vl else if 300<=k/\k < 308 then foI W f (k - 300) else W.ι k)<=nl;by_cases e:k=0
  ·rw[if_pos e];exact Int.le_refl _
  ·rw[if_neg e,if_neg (by lia),if_neg (by lia)];exact Int.le_trans (n.1 k hk) h
 ·show -1<=(if k=0 then nl else if k=100 then vl else if 300<=k/\k < 308 then foI W f (k - 300) else W.ι k)/\(if k=0 then nl else if k=100 then vl else if 300<=k/\k < 308 then foI W f (k - 300) else W.ι k) < 5;rw[if_neg (by lia),if_neg (by lia),if_neg (by lia)];exact n.2.1 k hk
 ·show 1<=(if k=0 then nl else if k=100 then vl else if 300<=k/\k < 308 then foI W f (k - 300) else W.ι k);rw[if_neg (by lia),if_neg (by lia),if_neg (by lia)];exact n.2.2 k hk hk'
theorem gq {c:Nat}(h:c < 8):(foV W f nl vl).ρ c=W.ρ c:=if_pos h
theorem FF {c:Nat}(h:c < 8):(foV W f nl vl).δ c=W.δ c:=if_pos h
theorem nO {os os':List (Nat×AO)}{n:L2}{q:WFd}(h:foW os=some (q,os'))(D:Led w W fl tl os n){G:Prop}(Kk:∀nl vl n1 n2,(n1++n2).Perm n->Led w (foV W (fun i=>q.l.getD i .rn) nl vl) fl [] (wOs none) n1->Led w W fl tl os' n2->0<=q.o->W.ι 0+q.o<=nl->(∀u,u < 8->∀c,q.l.getD (bj u) .rn=.obj c->∃x,W.ρ c=some x/\(W.ι (300+u)≠-1->x=(W.ι (300+u)).toNat))->G):G:=by
 refine aj (bL h) fun o0 h1 h=>?_;refine aj (bL h) fun p h2 h=>?_;refine aj (bL h) fun ko h3 h=>?_;refine aj (bL h) fun d h4 h=>?_;refine aj (bL h) fun l h5 h=>?_;refine aj (bL h) fun zy h6 h=>?_;refine aj (bL h) fun os₁ h7 h=>?_;refine ay (bo (soo h)) fun z'0 z'1=>?_;obtain rfl:=z'0;obtain rfl:=z'1;refine ay (ci h6) fun h6 zy=>?_;have g7:=an1 h6;have g8:=an2 h6;have g1:=an1 g7;have g9:=an2 g7;have g3:=an1 g9;have g4:=an2 g9;have g2:=an1 g8;have g5:=an2 g8;obtain ⟨k0,ko⟩:=ko;obtain rfl:k0=0:=aK g1;obtain ⟨n0,v0⟩:=p;refine aj (tT h2) fun m hm z'2=>?_;obtain rfl:=z'2;obtain rfl:=tW h5;refine aj (D.perm ((bk h1).trans ((bk h4).cons _))) fun nP D p0=>?_;refine D.inv fun l0 m0 e0 i0 Da=>Da.inv fun l1 m1 e1 i1 Db=>?_;subst e1;subst e0;refine aR (Db.ref tX bOs g5) fun n1 n2 p1 D1 D2=>?_;refine aR (wK hm i0) fun un uv dn dv f0=>?_;refine aI (kW h3 dn) fun nl t1 z'2 hn=>?_;obtain rfl:=z'2;refine dP (Bn g4 dv) fun vl t2 z'2=>?_;obtain rfl:=z'2;refine bt (Bl (W:=W) (f:=fun i=>l.getD i .rn) (nl:=nl) (vl:=vl) (by rw[fe];decide) xp h7 D2) fun n3 n4 p2 D3 D4 K=>?_;have M:mId.Ok W.lo (foV W (fun i=>l.getD i .rn) nl vl):=⟨fun c zz=>rfl,fun c zz zz=>rfl,fun k h=>ak h,fun k h=>ak h⟩
 refine aj (tZ M D1) fun n1' p3 D1'=>?_;refine Kk nl vl _ n4 ?_ (.cons (f0 _ (.si 0 0) (.si 100 0) (fun c hc=>gq hc) (FF (by decide)) ⟨t1,?_⟩ ⟨t2,?_⟩) (.cons (FdcIs.k i1 fun x o us r1 r2 r3 r4=>r4 _ _ _ ((gq (by decide)).trans r1) ?_) (D1'.join D3))) D4 ((Z.leB_iff _ _).mp g3) hn (fun u hu c hc=>by have q:=K u (by rw[fe];exact hu) c (by rw[Nat.zero_add];exact hc);rwa [Nat.zero_add]at q)
 ·rw[List.append_assoc,List.append_assoc,List.append_assoc];exact (((((p3.append_right _).trans (p2.append_left n1)).trans p1).append_left _).append_left _).trans p0
 ·show Value.int nl t1=.int ((foV W _ nl vl).ι 0+0) t1;rw[Int.add_zero];rfl
 ·show Value.int vl t2=.int ((foV W _ nl vl).ι 100+0) t2;rw[Int.add_zero];rfl
 ·rw[k8];refine qA r3 fun i y hy d=>xq (f:=fun i=>l.getD i .rn) (aD g2 (eo ?_)) d;have:=iK hy;rw[<-jt];exact (List.getElem?_eq_some_iff.mp this).1
end
def qB (W:Vl) (m:Rn):Vl:=⟨fun c=>@Bool.rec (fun zz=>Option Addr) none (W.ρ (m.f c)) (m.r c),fun c=>@Bool.rec (fun zz=>Option Addr) none (W.δ (m.f c)) (m.r c),fun k=>@Bool.rec (fun zz=>Int) 0 (vI W (m.g k)) (m.q k),fun k=>@Bool.rec (fun zz=>Option (List Nat)) none (vT W (m.g k)) (m.q k)⟩
theorem eh (W:Vl)(m:Rn):m.Ok W (qB W m):=by
 refine ⟨fun c h=>?_,fun c h zz=>?_,fun k h=>?_,fun k h=>?_⟩
 ·show @Bool.rec (fun zz=>Option Addr) none (W.ρ (m.f c)) (m.r c)=_;rw[h]
 ·show @Bool.rec (fun zz=>Option Addr) none (W.δ (m.f c)) (m.r c)=_;rw[h]
 ·show @Bool.rec (fun zz=>Int) 0 (vI W (m.g k)) (m.q k)=_;rw[h]
 ·show @Bool.rec (fun zz=>Option (List Nat)) none (vT W (m.g k)) (m.q k)=_;rw[h]
structure Mp where
 i:List (Nat×Nat)
 n:List (Nat×AV)
def isS {α:Type} (o:Option α):Bool:=@Option.rec α (fun zz=>Bool) false (fun zz=>true) o
def cY (s:Mp):Rn:=⟨fun c=>Nat.blt c 8||isS (aa s.i c),fun c=>@Bool.rec (fun zz=>Nat) ((aa s.i c).getD 0) c (Nat.blt c 8),fun k=>(aa s.n k).getD .non,fun k=>isS (aa s.n k),fun zz=>false⟩
def Bo (a b:Sh):Bool:=(Nat.beq a.s b.s&&bF a.fz b.fz)&&((a.rf==b.rf)&&(Nat.beq a.n b.n&&Fast.lEq a.ms b.ms))
theorem ld {a b:Sh}(h:Bo a b=true):a=b:=by
 have h1:=an1 h;have h2:=an2 h;have h3:=an1 h1;have h4:=an2 h1;have h5:=an1 h2;have h6:=an2 h2;have h7:=an1 h6;have h8:=an2 h6;obtain ⟨s,fz,rf,n,ms⟩:=a;obtain ⟨s',fz',rf',n',ms'⟩:=b;obtain rfl:s=s':=aK h3;obtain rfl:fz=fz':=aX h4;obtain rfl:rf=rf':=eq_of_beq h5;obtain rfl:n=n':=aK h7;obtain rfl:ms=ms':=Fast.lEq_iff.mp h8;rfl
noncomputable def uvO (a:AV):Bool:=match a with
 |.uv k=>Nat.ble 1000 k
 |.non=>true
 |.int i=>Z.leB (-1) i&&Z.ltB i 5
 |_=>false
noncomputable def nrO (o:Int)(a:AV):Bool:=match a with
 |.si k j=>Nat.blt k 100&&Z.leB j o
 |_=>false
def txO (g:Nat) (a:AV):Bool:=match a with
 |.ss p k q=>Nat.beq k 41&&((Fast.lEq p []&&Fast.lEq q [])||(Nat.beq g 1&&((Fast.lEq p []&&Fast.lEq q [99])||(Fast.lEq p [100]&&Fast.lEq q []))))
 |.str l=>Fast.lEq l []||(Fast.lEq l [97]||Fast.lEq l [97,98])
 |_=>false
def ntB (g:Nat) (q:WFd) (sh:Sh) (s:Mp):Bool:=(shT.any (Bo sh)&&(isS (aa s.i 40)&&s.n.all (fun p=>Nat.blt p.1 1000||uvO p.2)))&&
 (@Option.rec AV (fun zz=>Bool) true (nrO q.o) (aa s.n 1)&&((@Bool.rec (fun zz=>Bool) (!isS (aa s.n 41)) (@Option.rec AV (fun zz=>Bool) false (txO g) (aa s.n 41)) (Nat.beq sh.s 1))&&
 @Option.rec Nat (fun zz=>Bool) true (fun u=>Nat.blt u 8&&(isS (aa s.i 8)&&bF (q.l.getD (bj u) .rn) (.obj ((aa s.i 8).getD 0)))) (iA sh)))
theorem Bp {α:Type}{o:Option α}(h:isS o=true):∃a,o=some a:=by
 induction o using aF with
 |none=>exact ak h
 |some a=>exact ⟨a,rfl⟩
theorem xr {s:Mp}{c:Nat}(h:c < 8):(cY s).r c=true/\(cY s).f c=c:=by
 have e:Nat.blt c 8=true:=Nat.ble_eq_true_of_le h;refine ⟨by show (Nat.blt c 8||_)=true;rw[e];rfl,by show @Bool.rec (fun zz=>Nat) _ c (Nat.blt c 8)=c;rw[e]⟩
theorem lg {s:Mp}{c i:Nat}(h:8<=c)(e:aa s.i c=some i):(cY s).r c=true/\(cY s).f c=i:=by
 have q:Nat.blt c 8=false:=by
  generalize q:Nat.blt c 8=x';induction x' using aH with
  |false=>rfl
  |true=>exact absurd (az q) (by lia)
 refine ⟨by show (_||isS (aa s.i c))=true;rw[e];exact Bool.or_true _,by show @Bool.rec (fun zz=>Nat) ((aa s.i c).getD 0) c (Nat.blt c 8)=i;rw[q,e];rfl⟩
theorem FH (i m j:Nat):txt i m j++[99]=txt i m (j+1):=by
 unfold txt;rw[List.append_assoc,List.append_assoc,<-List.replicate_succ']
theorem FJ (i m j:Nat):[100]++txt i m j=txt (i+1) m j:=by
 unfold txt;rw[List.replicate_succ];rfl
section
variable {W:Vl}{t g:Nat}
theorem Bq {a:AV}(h:txO g a=true)(hx:∀p q,a=.ss p 41 q->∃i m j,i+j<=t/\m<=2/\W.τ 41=some (txt i m j)):∃i m j,i+j<=t+g/\m<=2/\vT W a=some (txt i m j):=by
 induction a using aA<;>first|exact ak h|skip
 ·rcases cx h with h|h
  ·rw[Fast.lEq_iff.mp h];exact ⟨0,0,0,by lia,by lia,rfl⟩
  rcases cx h with h|h
  ·rw[Fast.lEq_iff.mp h];exact ⟨0,1,0,by lia,by lia,rfl⟩
  ·rw[Fast.lEq_iff.mp h];exact ⟨0,2,0,by lia,by lia,rfl⟩
 ·have h1:=an1 h;have h2:=an2 h;obtain rfl:=aK h1;refine bu (hx _ _ rfl) fun i m j e1 e2 e3=>?_;have ev:∀p q,vT W (.ss p 41 q)=some (p++txt i m j++q):=fun p q=>by show Option.map _ (W.τ 41)=_;rw[e3];rfl
  rw[ev];rcases cx h2 with h|h
  ·have h3:=an1 h;have h4:=an2 h;rw[Fast.lEq_iff.mp h3,Fast.lEq_iff.mp h4,List.append_nil];exact ⟨i,m,j,by lia,e2,rfl⟩
  have hg:=an1 h;have h:=an2 h;obtain rfl:=aK hg;rcases cx h with h|h
  ·have h3:=an1 h;have h4:=an2 h;rw[Fast.lEq_iff.mp h3,Fast.lEq_iff.mp h4];exact ⟨i,m,j+1,by lia,e2,by rw[<-FH];rfl⟩
  ·have h3:=an1 h;have h4:=an2 h;rw[Fast.lEq_iff.mp h3,Fast.lEq_iff.mp h4,List.append_nil];exact ⟨i+1,m,j,by lia,e2,by rw[<-FJ]⟩
theorem Br {a:AV}(n:bK W.ι)(h:uvO a=true) : -1<=vI W a/\vI W a < 5:=by
 induction a using aA<;>first|exact ak h|skip
 ·exact ⟨Int.le_refl _,by show (-1:Int) < 5;decide⟩
 ·have h1:=an1 h;have h2:=an2 h;exact ⟨(Z.leB_iff _ _).mp h1,(Z.ltB_iff _ _).mp h2⟩
 ·exact n.2.1 _ (az h)
theorem lh {w:World}{fl:FL}{q:WFd}{sh:Sh}{s:Mp}{nl vl:Int}{pool lo lp:L2}{a:Addr}{k0:Nat}(h:ntB g q sh s=true)(n:bK W.ι)(h0:0<=W.ι 0)(ho:0<=q.o)(hn:W.ι 0+q.o<=nl)(K:∀u,u < 8->∀c,q.l.getD (bj u) .rn=.obj c->∃x,W.ρ c=some x)
  (hs:sh.s=2->sh.n<=t+g+2) (hx:∀p q,aa s.n 41=some (.ss p 41 q)->∃i m j,i+j<=t/\m<=2/\W.τ 41=some (txt i m j)) (hk:aa s.i 40=some k0) (ha:W.ρ k0=some a)
  (own:Led w (qB W (cY s)) fl [] (bT sh) lo) (pol:Led w (qB W (cY s)) fl [] (bA sh) lp) (mp:∀z∈lp,z∈pool) (nd:(lp.map (·.1)).Nodup) :
  NtOk w fl (foV W (fun i=>q.l.getD i .rn) nl vl) (t+g) pool a lo sh (qB W (cY s)) lp:=by
 have h1:=an1 h;have h2:=an2 h;have h3:=an1 h1;have h4:=an2 h1;have h5:=an1 h4;have h6:=an2 h4;have h7:=an1 h2;have h8:=an2 h2;have h9:=an1 h8;have g1:=an2 h8;have M:=eh W (cY s);refine ⟨?_,hs,fun e=>?_,fun e=>?_,fun c hc=>?_,?_,fun k hk=>?_,?_,fun u e=>?_,own,pol,mp,nd⟩
 ·refine aj (List.any_eq_true.mp h3) fun x hx e=>?_;rw[ld e];exact hx
 ·rw[e]at h9;have h9:@Option.rec AV (fun zz=>Bool) false (txO g) (aa s.n 41)=true:=h9;generalize hl:aa s.n 41=x';induction x' using aF with
  |none=>rw[hl]at h9;exact ak h9
  |some b=>
   rw[hl]at h9;refine bu (Bq (W:=W) (t:=t) (g:=g) h9 fun p q e=>hx p q (by rw[hl,e])) fun i m j q1 q2 q3=>?_;refine ⟨i,m,j,q1,q2,?_⟩;rw[M.τ 41 (by show isS (aa s.n 41)=true;rw[hl];rfl),show (cY s).g 41=b by show (aa s.n 41).getD .non=b;rw[hl];rfl];exact q3
 ·have e1:Nat.beq sh.s 1=false:=by
   generalize q:Nat.beq sh.s 1=x';induction x' using aH with
   |false=>rfl
   |true=>exact absurd (aK q) e
  rw[e1]at h9;have h9:isS (aa s.n 41)=false:=(Bool.not_eq_true' _).mp h9;show @Bool.rec (fun zz=>Option (List Nat)) none _ (isS (aa s.n 41))=none;rw[h9]
 ·refine ay (xr (s:=s) hc) fun e1 e2=>?_;rw[M.ρ c e1,e2,gq hc]
 ·show @Bool.rec (fun zz=>Int) 0 (vI W ((aa s.n 1).getD .non)) (isS (aa s.n 1))<=nl;generalize hl:aa s.n 1=x';induction x' using aF with
  |none=>show (0:Int)<=nl;lia
  |some b=>
   rw[hl]at h7;have h7:nrO q.o b=true:=h7;show vI W b<=nl
   induction b using aA<;>first|exact ak h7|skip
   have r1:=an1 h7;have r2:=an2 h7;have r1:=n.1 _ (az r1);have r2:=(Z.leB_iff _ _).mp r2;show W.ι _+_<=nl;lia
 ·show -1<=@Bool.rec (fun zz=>Int) 0 (vI W ((aa s.n k).getD .non)) (isS (aa s.n k))/\@Bool.rec (fun zz=>Int) 0 (vI W ((aa s.n k).getD .non)) (isS (aa s.n k)) < 5;generalize hl:aa s.n k=x';induction x' using aF with
  |none=>exact ⟨by show (-1:Int)<=0;decide,by show (0:Int) < 5;decide⟩
  |some b=>
   have:=aD h6 (aO hl);rcases cx this with r|r
   ·exact absurd (az r:k < 1000) (by lia)
   ·exact Br n r
 ·refine ay (lg (s:=s) (show 8<=40 by decide) hk) fun e1 e2=>?_;rw[M.ρ 40 e1,e2];exact ha
 ·rw[e]at g1;have g1:(Nat.blt u 8&&(isS (aa s.i 8)&&bF (q.l.getD (bj u) .rn) (.obj ((aa s.i 8).getD 0))))=true:=g1;have r1:=an1 g1;have r2:=an2 g1;have r3:=an2 r2;have r2:=an1 r2;refine av (Bp r2) fun c hc=>?_;have r3:=aX r3;rw[hc]at r3;have hu:u < 8:=az r1;refine av (K u hu c r3) fun x hx=>?_;refine ay (lg (s:=s) (aP 8) hc) fun e1 e2=>?_;have ei:=(mG (W:=W) (f:=fun i=>q.l.getD i .rn) (nl:=nl) (vl:=vl) hu).trans (iM r3 hx);rw[ei,M.ρ 8 e1,e2,hx];exact ⟨by lia,rfl⟩
end
section
variable {w:World}{fl:FL}{V W V0 V0' V1:Vl}{t g:Nat}{pool pool':L2}
theorem Led.untl {tl:L2}{os:List (Nat×AO)}{n:L2}(D:Led w V fl tl os n):∃l,n=l++tl/\Led w V fl [] os l:=by
 induction D with
 |nil=>exact ⟨[],rfl,.nil⟩
 |cons a _ ih=>
  refine aj ih fun l' ih'1 h=>?_;clear ih;obtain rfl:=ih'1;exact ⟨_,(List.append_assoc ..).symm,.cons a h⟩
theorem xt {sh:Sh}{u:Nat}(h:iA sh=some u):u < 8:=by
 unfold iA at h
 split at h<;>first|exact ag h|(obtain rfl:=soo h;decide)
theorem NtOk.carry {a:Addr}{lo lp:L2}{sh:Sh}(N:NtOk w fl V0 t pool a lo sh V1 lp)(hρ:∀c,c < 8->V0'.ρ c=V0.ρ c)(hn:V0.ι 0<=V0'.ι 0)(hc:∀u,u < 8->V0.ι (300+u)≠-1->V0'.ι (300+u)≠-1/\(V0'.ι (300+u)).toNat=(V0.ι (300+u)).toNat)(P:PLe w fl pool pool') :
  ∃lp',NtOk w fl V0' (t+g) pool' a lo sh V1 lp':=by
 refine cq (N.pol.pool P (aD pg N.mem) N.mp) fun lp' h1 h2 h3=>?_;refine ⟨lp',N.mem,fun e=>ba (N.n e) (by lia),fun e=>?_,N.tn,fun c hc=>(N.ρ c hc).trans (hρ c hc).symm,Int.le_trans N.nr hn,N.uv,N.at_,fun u e=>?_,N.own,h1,h2,h3▸N.nd⟩
 ·refine bu (N.tx e) fun i m j q1 q2 q3=>?_;exact ⟨i,m,j,ba q1 (Nat.le_add_right _ _),q2,q3⟩
 ·refine ay (N.c u e) fun q1 q2=>?_;refine ay (hc u (xt e) q1) fun q3 q4=>?_;exact ⟨q3,q4.symm▸q2⟩
theorem Gs.carry {as:List Addr}{r:L2}(G:Gs w fl V0 t pool as r)(hρ:∀c,c < 8->V0'.ρ c=V0.ρ c)(hn:V0.ι 0<=V0'.ι 0)(hc:∀u,u < 8->V0.ι (300+u)≠-1->V0'.ι (300+u)≠-1/\(V0'.ι (300+u)).toNat=(V0.ι (300+u)).toNat)(P:PLe w fl pool pool'):Gs w fl V0' (t+g) pool' as r:=by
 induction G with
 |nil=>exact .nil
 |cons N _ ih=>exact (N.carry hρ hn hc P).elim fun zz N'=>.cons N' ih
theorem Led.ple (le:V.le W){os:List (Nat×AO)}{a:L2}(D:Led w V fl [] os a):∀{b:L2},os.all (fun q=>uf q.2)=true->Led w W fl [] os b->PLe w fl a b:=by
 induction D with
 |nil=>exact fun zz zz z hz=>absurd hz bI
 |cons i _ ih=>
  intro b h D';rw[List.all_cons,Bool.and_eq_true]at h
  induction D' using Led.cs with
  |cons i' D'=>
   refine bu (pf le h.1 i i') fun x o o' z'3 z'4 q=>?_;obtain rfl:=z'3;obtain rfl:=z'4;intro z hz;rcases aG hz with rfl|hz
   ·exact ⟨o',.head _,q⟩
   ·refine aj (ih h.2 D' z hz) fun p q1 q2=>?_;exact ⟨p,.tail _ q1,q2⟩
theorem PLe.app {a b c d:L2}(h:PLe w fl a c)(h':PLe w fl b d):PLe w fl (a++b) (c++d):=fun z hz=>by
 rcases bn hz with m|m
 ·refine aj (h z m) fun o q1 q2=>?_;exact ⟨o,bS _ q1,q2⟩
 ·refine aj (h' z m) fun o q1 q2=>?_;exact ⟨o,a9 _ q1,q2⟩
theorem PLe.sub {a b c d:L2}(h:PLe w fl a c)(h1:∀z∈b,z∈a)(h2:∀z∈c,z∈d):PLe w fl b d:=fun z hz=>(h z (h1 z hz)).imp fun o q=>⟨h2 _ q.1,q.2⟩
theorem ju {f:Nat->AV}{nl vl:Int}(hι:∀u,u < 8->W.ι (300+u)=V.ι (300+u))(K:∀u,u < 8->∀c,f (bj u)=.obj c->∃x,W.ρ c=some x/\(W.ι (300+u)≠-1->x=(W.ι (300+u)).toNat)){u:Nat}(hu:u < 8)(h:V.ι (300+u)≠-1):(foV W f nl vl).ι (300+u)≠-1/\((foV W f nl vl).ι (300+u)).toNat=(V.ι (300+u)).toNat:=by
 rw[mG hu];rw[<-hι u hu]at h ⊢;generalize q:(isO (f (bj u)))=x';induction x' using aH with
 |false=>rw[iN q];exact ⟨h,rfl⟩
 |true=>
  refine av (uq q) fun zy e=>?_;refine aj (K u hu _ e) fun x h1 h2=>?_;rw[iM e h1];exact ⟨by lia,by rw[<-h2 h];rfl⟩
noncomputable def H7 (o:AO):Bool:=match o with
 |.inst _ _ _=>true
 |.dic _=>true
 |.fdc _=>true
 |_=>false
theorem xu:(List.range 8).all (fun c=>cV (aa (wOs none) c) H7)=true:=by kernel_rfl
theorem b0 {wl:L2}(D:Led w V0 fl [] (wOs none) wl){c:Nat}(hc:c < 8):∃x,V0.ρ c=some x:=by
 refine aj (aZ (aD xu (eo hc))) fun o h1 h2=>?_;refine aj (D.mem h1) fun l i zy=>?_
 induction o using aN<;>first|exact ak h2|skip
 ·refine Hx i fun x zy zy zy q zy=>?_;clear i;exact ⟨x,q⟩
 ·refine mV i fun x zy zy q zy=>?_;clear i;exact ⟨x,q⟩
 ·refine mV i fun x zy zy q zy=>?_;clear i;exact ⟨x,q⟩
end
def adI (c i:Nat) (s:Mp):Mp:=@Bool.rec (fun zz=>Mp) (@Option.rec Nat (fun zz=>Mp) ⟨(c,i)::s.i,s.n⟩ (fun zz=>s) (aa s.i c)) s (Nat.blt c 8)
def adN (k:Nat) (a:AV) (s:Mp):Mp:=@Option.rec AV (fun zz=>Mp) ⟨s.i,(k,a)::s.n⟩ (fun zz=>s) (aa s.n k)
def mtV (y x:AV) (s:Mp):Mp:=match y with
 |.obj c=>(match x with|.obj i=>adI c i s|_=>s)
 |.uv k=>adN k x s
 |.ss _ k _=>adN k x s
 |.si k _=>adN k x s
 |_=>s
def mtL:List AV->List AV->Mp->Mp
 |[],_,s=>s
 |y::r,xs,s=>(match xs with|x::q=>mtL r q (mtV y x s)|[]=>s)
def mtF (fs:List (Str×AV)):List (Str×AV)->Mp->Mp
 |[],s=>s
 |p::r,s=>mtF fs r (mtV p.2 ((aw fs p.1).getD .non) s)
def mtO (y x:AO) (s:Mp):Mp:=match y with
 |.inst _ _ fs=>(match x with|.inst _ _ fs'=>mtF fs' fs s|_=>s)
 |.lst es=>(match x with|.lst es'=>mtL es es' s|_=>s)
 |.tup es=>(match x with|.tup es'=>mtL es es' s|_=>s)
 |.dic kvs=>(match x with|.dic kvs'=>mtL (kvs.map (·.2)) (kvs'.map (·.2)) s|_=>s)
 |.fdc kvs=>(match x with|.fdc kvs'=>mtF kvs' kvs s|.dic kvs'=>mtF kvs' kvs s|_=>s)
 |.rws j _ v=>(match x with|.rws j' _ v'=>mtV v v' (adI j j' s)|_=>s)
 |_=>s
def mtE (os:List (Nat×AO)):List (Nat×AO)->Mp->Mp
 |[],s=>s
 |p::r,s=>mtE os r (@Option.rec Nat (fun zz=>Mp) s (fun i=>@Option.rec AO (fun zz=>Mp) s (fun x=>mtO p.2 x s) (aa os i)) (aa s.i p.1))
def uu (sh:Sh) (k0:Nat) (os:List (Nat×AO)):Mp:=mtE os (mA sh) ⟨[(40,k0)],[]⟩
noncomputable def mS:Rn:=⟨fun zz=>true,fun c=>c,fun k=>.uv k,fun k=>Nat.ble 1000 k,fun zz=>false⟩
noncomputable def noT (V:Vl):Vl:=⟨V.ρ,V.δ,V.ι,fun zz=>none⟩
theorem uw {V:Vl}:mS.Ok V (noT V):=⟨fun zz zz=>rfl,fun zz zz zz=>rfl,fun k zz=>rfl,fun k zz=>rfl⟩
theorem Bt {V W:Vl}(h:V.le W):(noT V).le (noT W):=⟨h.ρ,h.δ,h.ι,fun zz zz e=>ag e⟩
def fO (g:Nat) (q:WFd) (sh:Sh) (s:Mp) (k0:Nat) (os:List (Nat×AO)):Bool:=(cV (aa s.i 40) (Nat.beq k0)&&ntB g q sh s)&&fy (cY s) (bT sh) os
def fP (sh sh':Sh) (s:Mp) (os:List (Nat×AO)):Bool:=fy mS (bA sh) os&&fy (cY s) (bA sh') os
noncomputable def szB (g:Nat)(sh sh':Sh):Bool:=(!(Nat.beq sh'.s 2)||(Nat.beq sh.s 2&&Nat.ble sh'.n (sh.n+g)))&&(!(Nat.beq sh'.s 1)||Nat.beq sh.s 1)
def fB1 (g:Nat) (sh sh':Sh) (q:WFd×List (Nat×AO)) (s:Mp):Bool:=fO g q.1 sh' s 40 q.2&&fP sh sh' s (de (cY s).f (bT sh') q.2)
def fB (g:Nat) (sh sh':Sh) (os:List (Nat×AO)):Bool:=szB g sh sh'&&cV (foW os) fun q=>fB1 g sh sh' q (uu sh' 40 q.2)
def fC2 (g:Nat) (sh sh'':Sh) (q:WFd) (k':Nat) (s:Mp) (os:List (Nat×AO)) (s2:Mp):Bool:=fO g q sh'' s2 k' os&&(fP sh sh s (de (cY s2).f (bT sh'') os)&&fy (cY s2) (bA sh'') (de (cY s2).f (bT sh'') os))
def fC1 (g:Nat) (sh sh'':Sh) (k':Nat) (q:WFd×List (Nat×AO)) (s:Mp) (os:List (Nat×AO)):Bool:=fO g q.1 sh s 40 q.2&&fC2 g sh sh'' q.1 k' s os (uu sh'' k' os)
def fC (g:Nat) (sh sh'':Sh) (k':Nat) (os:List (Nat×AO)):Bool:=szB g sh sh''&&cV (foW os) fun q=>fC1 g sh sh'' k' q (uu sh 40 q.2) (de (cY (uu sh 40 q.2)).f (bT sh) q.2)
theorem uy:shT.all (fun sh=>fy mIn (bA sh) (bA sh)&&fy mS (bA sh) (bA sh))=true:=by kernel_rfl
theorem xw:shT.map (fun sh=>de (fun c=>c) (bA sh) (bA sh))=shT.map fun zz=>[]:=by kernel_rfl
section
variable {w:World}{fl:FL}{W V0 V1:Vl}{t g:Nat}{os:List (Nat×AO)}{n:L2}{q:WFd}{s:Mp}{sh sh':Sh}
theorem yM (h:szB g sh sh'=true)(hn:sh.s=2->sh.n<=t+2)(e:sh'.s=2):sh'.n<=t+g+2:=by
 have h1:=an1 h;rw[e]at h1;have h2:=an1 ((show (Nat.beq sh.s 2&&Nat.ble sh'.n (sh.n+g))=true from h1));have h3:=an2 ((show (Nat.beq sh.s 2&&Nat.ble sh'.n (sh.n+g))=true from h1));have:=hn (aK h2);have:=az h3;lia
theorem yN (h:szB g sh sh'=true)(e:sh'.s=1):sh.s=1:=by
 have h1:=an2 h;rw[e]at h1;exact aK (show Nat.beq sh.s 1=true from h1)
theorem uz (h:ntB g q sh s=true)(e:sh.s≠1):aa s.n 41=none:=by
 have h2:=an2 h;have h2:=an2 h2;have h2:=an1 h2;have e1:Nat.beq sh.s 1=false:=by
  generalize q:Nat.beq sh.s 1=x';induction x' using aH with
  |false=>rfl
  |true=>exact absurd (aK q) e
 rw[e1]at h2;have h2:isS (aa s.n 41)=false:=(Bool.not_eq_true' _).mp h2;generalize q:aa s.n 41=x';induction x' using aF with
 |none=>rfl
 |some a=>rw[q]at h2;exact eA h2
theorem pq {k0:Nat}(h:fO g q sh s k0 os=true)(D:Led w W fl [] os n):aa s.i 40=some k0/\ntB g q sh s=true/\∃n1 n2,(n1++n2).Perm n/\Led w (qB W (cY s)) fl [] (bT sh) n1/\Led w W fl [] (de (cY s).f (bT sh) os) n2:=by
 have h1:=an1 h;have h2:=an2 h;have h3:=an2 h1;have h1:=an1 h1;refine aj (aZ h1) fun k e h4=>?_;obtain rfl:=aK h4;exact ⟨e,h3,D.ref (eh W (cY s)) _ h2⟩
theorem gr {a b c:L2}(p:(a++b).Perm c)(nd:(c.map (·.1)).Nodup):(a.map (·.1)).Nodup:=bH (jN a b) (aW p nd)
theorem cZ {a b c:L2}(p:(a++b).Perm c):∀z∈a,z∈c:=fun z hz=>p.mem_iff.mp (bS _ hz)
theorem bW {a b c:L2}(p:(a++b).Perm c)(nd:(c.map (·.1)).Nodup):(b.map (·.1)).Nodup:=bH (fE a b) (aW p nd)
theorem pv {pool:L2}{a:Addr}{lo lp:L2}{dd bx nl:Option Addr}{z:Int}{dj:Nat}(N:NtOk w fl V0 t pool a lo sh V1 lp)(le:(enV V0 V1 dd z bx nl dj).le W){b:L2}(D:Led w (noT W) fl [] (bA sh) b):PLe w fl lp b:=by
 have h:=an1 ((aD uy N.mem));have h2:=an2 ((aD uy N.mem));have h':=aq xw sh N.mem;refine aR (N.pol.ref (ul (dd:=dd) (z:=z) (bx:=bx) (nl:=nl) (dj:=dj) N) _ h) fun n1 n2 p q1 q2=>?_;rw[show de mIn.f (bA sh) (bA sh)=[] from h']at q2
 induction q2 using Led.ns
 refine aR (q1.ref uw _ h2) fun n3 n4 p' q3 q4=>?_;rw[show de mS.f (bA sh) (bA sh)=[] from h']at q4
 induction q4 using Led.ns
 rw[List.append_nil]at p p';exact (q3.ple (Bt le) (aD pg N.mem) D).sub (fun z hz=>p'.mem_iff.mpr (p.mem_iff.mpr hz)) fun z hz=>hz
theorem yO {pool wl r lo r' lp rest wl' ln:L2}{as as':List Addr}{a:Addr}{dd bx nb:Option Addr}{z:Int}{dj:Nat}(O:kf w fl V0 t pool wl bx nb dj a r as lo r' as' sh V1 lp rest dd z wl' ln)(h0:0<=V0.ι 0)(num:bK W.ι)(le:(enV V0 V1 dd z bx nb dj).le W)(W0:Led w V0 fl [] (wOs none) wl)
  (D:Led w W fl [] os n) (nd:(n.map (·.1)).Nodup) (h:fB g sh sh' os=true) {G:Prop} (Kk:∀V2 wl2 pool' lo',(wl2++(pool'++(lo'++r'))).Perm (n++(rest++r'))->Led w V2 fl [] (wOs none) wl2->bK V2.ι->0<=V2.ι 0->((∀c,c < 8->V2.ρ c=W.ρ c))->Gs w fl V2 (t+g) pool' (a::as') (lo'++r')->G):G:=by
 have hz:=an1 h;have h:=an2 h;refine aj (aZ h) fun z'0 hq h=>?_;obtain ⟨q,os1⟩:=z'0;have h1:=an1 h;have h2:=an2 h;have h3:=an2 h2;have h2:=an1 h2;refine nO hq D fun nl vl n1 n2 p1 D1 D2 ho hn K=>?_;obtain ⟨hk,hb,n3,n4,p2,D3,D4⟩:=pq h1 D2;refine aR (D4.ref uw _ h2) fun a1 b1 p3 E1 zy=>?_;refine aR (D4.ref (eh W _) _ h3) fun a2 b2 p4 E2 zy=>?_;have hι:W.ι=(enV V0 V1 dd z bx nb dj).ι:=le.ι;have e0:W.ι 0=V0.ι 0:=by rw[hι];rfl
 have nd2:=bW p1 nd;have nd4:=bW p2 nd2;have hρ:∀c,c < 8->W.ρ c=V0.ρ c:=fun c hc=>by
  refine av (b0 W0 hc) fun x hx=>?_;rw[hx];exact le.ρ c x ((if_pos hc).trans hx)
 have Pl:PLe w fl pool (n4++rest):=((pv O.nt le E1).app (PLe.refl (p:=rest) (p':=rest) fun z hz=>hz)).sub (fun z hz=>O.pp.mem_iff.mpr hz) fun z hz=>by
  rcases bn hz with m|m
  ·exact bS _ (cZ p3 z m)
  ·exact a9 _ m
 have N:=lh (w:=w) (fl:=fl) (t:=t) (pool:=n4++rest) (a:=a) hb num (by lia) ho hn (vl:=vl) (fun u hu c hc=>(K u hu c hc).imp fun x y=>y.1) (yM hz O.nt.n) (fun p q' e=>by
  by_cases hs:sh'.s=1
  ·refine bu (O.nt.tx (yN hz hs)) fun i m j r1 r2 r3=>?_;exact ⟨i,m,j,r1,r2,le.τ 41 _ r3⟩
  ·rw[uz hb hs]at e;exact ag e) hk (le.ρ 40 a O.nt.at_) D3 E2 (fun z hz=>bS _ (cZ p4 z hz)) (gr p4 nd4)
 refine Kk _ n1 (n4++rest) n3 ?_ D1 (k9 num (by lia)) ?_ (fun c hc=>gq hc) (.cons N (O.gs.carry (fun c hc=>(gq hc).trans (hρ c hc)) ?_ (fun u hu hh=>?_) Pl))
 ·have e1:(n4++rest++(n3++r')).Perm (n3++n4++(rest++r')):=by
   rw[List.append_assoc,List.append_assoc];exact ((fS rest n3 r').append_left n4).trans (fS n4 n3 _)
  refine (e1.append_left n1).trans ?_;rw[<-List.append_assoc];exact (((p2.append_left n1).trans p1).append_right _)
 ·show 0<=nl;lia
 ·show V0.ι 0<=nl;lia
 ·refine ju (V:=V0) (W:=W) (nl:=nl) (vl:=vl) (fun u hu=>?_) K hu hh;rw[hι];show (if 300+u=1 then V1.ι 1 else if 300+u=101 then z else if 300+u < 1000 then (if 300+u=0\/100<=300+u then V0.ι (300+u) else -1) else if 300+u=1200 then (dj:Nat) else V1.ι (300+u))=V0.ι (300+u);rw[if_neg (by lia),if_neg (by lia),if_pos (by lia),if_pos (by lia)]
end
noncomputable def H8:AO->Bool
 |.lst _=>true
 |_=>false
theorem Bu:shT.all (fun sh=>cV (aa (bT sh) 40) H8)=true:=by kernel_rfl
section
variable {w:World}{fl:FL}{W V0 V1:Vl}{t g:Nat}{os:List (Nat×AO)}{n:L2}{q:WFd}{s:Mp}{sh sh':Sh}
theorem xx (h:ntB g q sh s=true):sh∈shT:=by
 have h1:=an1 h;have h3:=an1 h1;refine aj (List.any_eq_true.mp h3) fun x hx e=>?_;rw[ld e];exact hx
theorem uA {k0:Nat}{n:L2}(h:ntB g q sh s=true)(hk:aa s.i 40=some k0)(D:Led w (qB W (cY s)) fl [] (bT sh) n):∃a,W.ρ k0=some a:=by
 refine aj (aZ (aD Bu (xx h))) fun o h1 h2=>?_;refine aj (D.mem h1) fun l i zy=>?_
 induction o using aN<;>first|exact ak h2|skip
 refine mV i fun x zy zy hx zy=>?_;clear i;refine ay (lg (s:=s) (show 8<=40 by decide) hk) fun e1 e2=>?_;rw[(eh W (cY s)).ρ 40 e1,e2]at hx;exact ⟨x,hx⟩
set_option tactic.hygienic true in
theorem FK {pool wl r lo r' lp rest wl' ln:L2}{as as':List Addr}{a:Addr}{dd bx nb:Option Addr}{z:Int}{dj k':Nat}(O:kf w fl V0 t pool wl bx nb dj a r as lo r' as' sh V1 lp rest dd z wl' ln)(h0:0<=V0.ι 0)(num:bK W.ι)(le:(enV V0 V1 dd z bx nb dj).le W)(W0:Led w V0 fl [] (wOs none) wl)
  (D:Led w W fl [] os n) (nd:(n.map (·.1)).Nodup) (h:fC g sh sh' k' os=true) {G:Prop} (Kk:∀V2 wl2 pool' lo' a2,W.ρ k'=some a2->(wl2++(pool'++(lo'++r'))).Perm (n++(rest++r'))->Led w V2 fl [] (wOs none) wl2->bK V2.ι->0<=V2.ι 0->((∀c,c < 8->V2.ρ c=W.ρ c))->Gs w fl V2 (t+g) pool' (a::a2::as') (lo'++r')->G):G:=by
 have hz:=an1 h;have h:=an2 h;refine aj (aZ h) fun z'0 hq h=>?_;obtain ⟨q,os1⟩:=z'0;have h1:=an1 h;have h:=an2 h;have h4:=an1 h;have h:=an2 h;have h2:=an1 h;have h5:=an2 h;have h3:=an2 h2;have h2:=an1 h2;refine nO hq D fun nl vl n1 n2 p1 D1 D2 ho hn K=>?_;obtain ⟨hk,hb,n3,n4,p2,D3,D4⟩:=pq h1 D2;obtain ⟨hk2,hb2,n5,n6,p5,D5,D6⟩:=pq h4 D4;refine av (uA hb2 hk2 D5) fun a2 ha2=>?_;refine aR (D6.ref uw _ h2) fun a1 b1 p3 E1 zy=>?_;refine aR (D6.ref (eh W _) _ h3) fun a3 b2 p4 E2 zy=>?_;refine aR (D6.ref (eh W _) _ h5) fun a4 b3 p6 E3 zy=>?_;have hι:W.ι=(enV V0 V1 dd z bx nb dj).ι:=le.ι;have e0:W.ι 0=V0.ι 0:=by rw[hι];rfl
 have nd2:=bW p1 nd;have nd4:=bW p2 nd2;have nd6:=bW p5 nd4;have hρ:∀c,c < 8->W.ρ c=V0.ρ c:=fun c hc=>by
  refine av (b0 W0 hc) fun x hx=>?_;rw[hx];exact le.ρ c x ((if_pos hc).trans hx)
 have Pl:PLe w fl pool (n6++rest):=((pv O.nt le E1).app (PLe.refl (p:=rest) (p':=rest) fun z hz=>hz)).sub (fun z hz=>O.pp.mem_iff.mpr hz) fun z hz=>by
  rcases bn hz with m|m
  ·exact bS _ (cZ p3 z m)
  ·exact a9 _ m
 have tx:∀{sh':Sh} {s:Mp},ntB g q sh' s=true->(sh'.s=1->sh.s=1)->∀p q',aa s.n 41=some (.ss p 41 q')->∃i m j,i+j<=t/\m<=2/\W.τ 41=some (txt i m j):=fun hb hs p q' e=>by
  rename_i sh' s;by_cases h1:sh'.s=1
  ·refine bu (O.nt.tx (hs h1)) fun i m j r1 r2 r3=>?_;exact ⟨i,m,j,r1,r2,le.τ 41 _ r3⟩
  ·rw[uz hb h1]at e;exact ag e
 have N:=lh (w:=w) (fl:=fl) (t:=t) (pool:=n6++rest) (a:=a) hb num (by lia) ho hn (vl:=vl) (fun u hu c hc=>(K u hu c hc).imp fun x y=>y.1) (fun e=>ba (O.nt.n e) (by lia)) (tx hb id) hk (le.ρ 40 a O.nt.at_) D3 E2 (fun z hz=>bS _ (cZ p4 z hz)) (gr p4 nd6);have N2:=lh (w:=w) (fl:=fl) (t:=t) (pool:=n6++rest) (a:=a2) hb2 num (by lia) ho hn (vl:=vl) (fun u hu c hc=>(K u hu c hc).imp fun x y=>y.1) (yM hz O.nt.n) (tx hb2 (yN hz)) hk2 ha2 D5 E3 (fun z hz=>bS _ (cZ p6 z hz)) (gr p6 nd6);have G:=O.gs.carry (g:=g) (V0':=foV W (fun i=>q.l.getD i .rn) nl vl) (fun c hc=>(gq hc).trans (hρ c hc)) (show V0.ι 0<=nl by lia) (fun u hu hh=>ju (V:=V0) (W:=W) (nl:=nl) (vl:=vl) (fun u hu=>by
  rw[hι];show (if 300+u=1 then V1.ι 1 else if 300+u=101 then z else if 300+u < 1000 then (if 300+u=0\/100<=300+u then V0.ι (300+u) else -1) else if 300+u=1200 then (dj:Nat) else V1.ι (300+u))=V0.ι (300+u);rw[if_neg (by lia),if_neg (by lia),if_pos (by lia),if_pos (by lia)]) K hu hh) Pl
 refine Kk _ n1 (n6++rest) (n3++n5) a2 ha2 ?_ D1 (k9 num (by lia)) (show 0<=nl by lia) (fun c hc=>gq hc) ?_
 ·have e1:(n6++rest++(n3++n5++r')).Perm (n3++(n5++n6)++(rest++r')):=by
   rw[List.append_assoc,List.append_assoc,List.append_assoc,List.append_assoc];refine ((fS rest n3 _).append_left n6).trans ((fS n6 n3 _).trans (List.Perm.append_left n3 ?_));exact ((fS rest n5 _).append_left n6).trans (fS n6 n5 _)
  refine (e1.append_left n1).trans ?_;rw[<-List.append_assoc];exact ((((p5.append_left n3).trans p2).append_left n1).trans p1).append_right _
 ·rw[List.append_assoc];exact .cons N (.cons N2 G)
end
def bN {α:Type} (r:R α):ST:=@R.rec α (fun zz=>ST) (fun zz σ=>σ) ⟨[],0⟩ r
def okB {α:Type} (r:R α) (k:α->Bool):Bool:=@R.rec α (fun zz=>Bool) (fun a zz=>k a) false r
def sys (os:List (Nat×AO)):List (Nat×AO):=aL (aL (aL (aL os 20) 21) 30) 31
noncomputable def trB (a:AV):Bool:=match a with|.boo b=>b|_=>false
def qC (q:AFl×AF):Bool:=match q.1 with|.ret v=>trB v|_=>false
def Bv (P:Addr) (q:Str) (o:Option AO):Bool:=cV o fun a=>match a with|.ctb P' q' _=>Nat.beq P' P&&sq q' q|_=>false
def jL (os:List (Nat×AO)):Bool:=Bv 984 (lq 987) (aa os 20)&&Bv 989 (lq 994) (aa (aL os 20) 21)
def kOf (σ:ST):Nat:=match aa σ.os 31 with|some (.lsu _ [.obj k])=>k|_=>0
structure DO where
 ok:Bool
 bx:Option AO
 ls:Option AO
def qD {α:Type} (r:R α) (k:α->Bool) (c:List (Nat×AO)->Bool):DO:=⟨okB r k&&(jL (bN r).os&&c (sys (bN r).os)),aa (aL (aL (bN r).os 20) 21) 30,aa (aL (aL (aL (bN r).os 20) 21) 30) 31⟩
def dIn (r:RS) (sh sh':Sh):DO:=qD r qC (fB 1 sh sh')
def dCp (r:RS) (sh sh':Sh):DO:=qD r qC (fC 1 sh sh' (kOf (bN r)))
def dNo (r:R AV) (sh:Sh):DO:=qD r trB (fB 1 sh sh)
noncomputable def mH (sh:Sh):Sh:=⟨sh.s,.boo true,true,sh.n,sh.ms⟩
noncomputable def nQ (sh:Sh):Sh:=⟨sh.s,(match sh.s with|4=>.non|_=>.boo false),false,sh.n,sh.ms⟩
noncomputable def H9 (m:Nat)(l:List Nat):Bool:=l.any (Nat.beq m)
def dM (sh:Sh) (i:Nat):Sh:=match sh.s with
 |2=>⟨2,sh.fz,sh.rf,(match i with|0=>sh.n+1|1=>sh.n - 1|2=>sh.n|_=>0),[]⟩
 |3=>⟨3,sh.fz,sh.rf,(match i with|0=>1|1=>0|2=>sh.n|_=>0),[]⟩
 |5=>⟨5,sh.fz,sh.rf,0,@Bool.rec (fun zz=>List Nat) (sh.ms++[[109,110,111,109].getD i 0]) sh.ms (H9 ([109,110,111,109].getD i 0) sh.ms)⟩
 |_=>sh
noncomputable def dgS (i:Nat):List (Nat×AV):=[(2,.int (.ofNat i)),(5,.uv 1200)]
noncomputable def dgT (i:Nat):List (Nat×AV):=[(4,.int (.ofNat i)),(5,.uv 1200)]
section
variable {d:Dx}{V W V':Vl}{fr fr':AF}{σ σ':ST}{s:Shared}{tb:Tb}{m:Str->Option Value}{news n' tl':L2}
theorem At.re (a:At d V fr σ s)(X:Sx d V fr σ.os s.heap m news){os':List (Nat×AO)}{nx:Nat}(O:dB d.w d.K tb)(D:Led d.w V' tb.flds tl' os' n')(p:∀z∈n',z∈news)(nd:(n'.map (·.1)).Nodup)(v:Vx V' nx)
  (l:Lx { d with tb:=tb,tl:=tl' } V' fr') (lc:∀x v,aw fr'.loc x=some v->∃u,m x=some u/\Den V' v u):At { d with tb:=tb,tl:=tl' } V' fr' ⟨os',nx⟩ s:=
 ⟨⟨O,a.c.B,a.c.hA,a.c.hh,a.c.hg,a.c.hk,a.c.hf,a.c.T,a.c.X⟩,l,v,m,n',X.F,fun z hz=>X.N z (p z hz),D,nd,lc⟩
theorem jv {n:Nat}:∀{l:List (Str×NameKind)},dD l=true->∀acc,cellsFrom n l acc=acc
 |[]=>fun zz zz=>rfl
 |(x,k)::r=>fun h acc=>by
  have h1:=an1 h;have h2:=an2 h;unfold cellsFrom;rw[if_neg,jv h2];intro q;rw[show k=.cell from eq_of_beq q]at h1;exact ak h1
abbrev Lv (d:Dx) (m:Str->Option Value) (g:Heap) (R:Result->Shared->Prop) (v:Value) (s':Shared):Prop:=LeaveS0 [d.f.L] d.h₀ d.f.L m g R v s'
set_option backward.match.sparseCases true in
noncomputable abbrev flR:Flow->Value
 |.ret v=>v
 |_=>.none
set_option backward.match.sparseCases true in
theorem FM {g:Addr}{fi:FI}{vs:List AV}{us:List Value}{bs:List (Str×AV)}{R:Result->Shared->Prop}{n:Nat}(hO:d.outer=[])(hfi:aa d.tb.fns g=some fi)(hb:hG fi vs=some bs)(nc:dD fi.scope.names=true)(dv:Dens V vs us)
  (rm:Room d.A (n+1)) (a:At d V fr σ s) (x:Sx d V fr σ.os s.heap m news) (hfr:d.f.env.frame=some d.f.L)
  (k:∀f' g' h₁ tk,f'.cl=[]->f'.cm=none->Room (d.call f' g').A n->KtsDicts ((d.call f' g').outer.filterMap (·.frame)) g'->(d.call f' g').outer.filterMap (·.frame)=[d.f.L]->At (d.call f' g') V ⟨fi.scope,b9 fi.scope.names bs,[],none,none⟩ σ (Shared.to s h₁ tk)->
   wpAny d.M (d.call f' g').A (execs fi.body (d.call f' g').ev) (fun fl s'=>Lv d m g' R (flR fl) s')
    (fun e s'=>wpAny d.M (d.call f' g').A (leaving f'.env e) (fun zz s''=>R (.error e) s'') (fun e' s''=>R (.error e') s'') s') (Shared.to s h₁ tk)):codeAny d.M d.A (.call (.ref g) ⟨us,[]⟩) R s:=by
 refine av a.c.B fun A₀ B=>?_;have FO:=a.c.O.fn _ _ hfi;refine FO.k fun oc od dV kV doc pm an cdv ct osl dvs hK hcd hdf hbind=>?_;refine bU (iU hb) fun l1 l2 z'2=>?_;obtain rfl:=z'2;have e1:=dv.length;have e2:=(hdf V).length;have hb:=hbind s us a.Xs (by lia) (by lia);have zz:Zs V (fi.ps.zip (vs++fi.df.drop (vs.length+fi.df.length - fi.ps.length))).reverse (fi.ps.zip (us++dvs.drop (us.length+dvs.length - fi.ps.length))).reverse:=by
  rw[e1,e2];exact (Zs.zip _ (dv.app ((hdf V).drop _))).rev
 have hloc:∀y∈fi.ps.zip (us++dvs.drop (us.length+dvs.length - fi.ps.length)),fi.scope.names.lookup y.1=some .local:=fun y hy=>(FO.cell.1 y.1 (List.of_mem_zip hy).1).resolve_right fun q=>by
  rw[jv nc]at q;exact ak q.2
 refine ay rm fun r1 r2=>?_;clear rm;refine mU (groundX (R:=R) B x.F x.N a.c.hA hfr a.c.hf) fun FG BG st zy=>?_;refine codeAny_call_def (fd:=fnOf fi.name fi.qual fi.params fi.body fi.scope dV kV doc pm an cdv ct) (body:=fi.body) (by lia) (a.Xs _ _ hK) rfl (a.c.T.nolimit.keeps x.F.keep) (codeRec_of a.Xs hcd) rfl hb (dJ nc) hloc (fun h₁ hns hk₁=>?_) FO.co FO.gen FO.kind;have hfm:(d.f.env::d.outer).filterMap (·.frame)=[d.f.L]:=by rw[hO];show List.filterMap _ [d.f.env]=_;rw[List.filterMap_cons,hfr];rfl
 refine bZ (id FG.ns) fun oL es ep hLg hLd hLk hLf=>?_;refine wpAny_mono (k ⟨fi.qual,fi.scope,s.heap.objs.size,g,cdv,[],none⟩ (hideAll s.heap (news.map (·.1))) h₁ _ rfl rfl ⟨by show d.A.depth+1+3*n < _;lia,by show d.A.units+3+10*n+10 < _;lia⟩ (fun b hb'=>?_) hfm
  ⟨⟨a.c.O,⟨d.A,BG⟩,by show d.A.frames.map _=_;rw[a.c.hA];rfl,a.c.hh,a.c.hg,FO.kind,FO.kind,a.c.T.keeps fun b o e=>st b o e,a.c.X.keeps fun b o e=>st b o e⟩,⟨trivial,trivial,rfl,fun y i hy=>ag hy⟩,a.v,
   ⟨_,news,⟨hns,fun b o e=>hk₁ b o (of_hideAll _ e),Nat.le_of_eq (hideAll_size _ _)⟩,fun p hp=>⟨hk₁ _ _ (x.N p hp).1,bJ (Heap.lt_size (x.N p hp).1),hideAll_none _ (cP hp)⟩,x.D,x.nd,fun y v hy=>?_⟩⟩) (fun fl s' hl=>?_) fun zz zz y=>y
 ·change b∈(d.f.env::d.outer).filterMap (·.frame) at hb';rw[hfm]at hb';obtain rfl:=bg hb';exact ⟨oL,es,ep,hLg,hLd⟩
 ·refine ay (ce hy) fun q1 q2=>?_;exact (zz.look y).1 q1
 ·refine iS hl fun g' L' m' news' T' F' N' kk=>?_;clear hl;have nL₀:d.h₀.get? d.f.L=none:=kts_self x.F;refine av (T'.up hLg) fun sl hs=>?_;refine kk ⟨⟨_,es,ep,F'.keep _ _ hs,hLd,hLk,hLf⟩,fun b o e=>F'.keep b o (T'.other b o (st b o e) fun q=>?_),x.F.above⟩ fun p hp=>⟨(N' p hp).1,fun q=>?_,?_⟩
  ·rw[List.mem_singleton.mp q,nL₀]at e;exact ag e
  ·have:=(N' p hp).2.2;rw[q,hs]at this;exact ag this.symm
  ·generalize q:(d.h₀.get? p.1)=x';induction x' using aF with
   |none=>rfl
   |some o=>
    refine av (T'.up (st _ _ q)) fun sl' hs'=>?_;have:=(N' p hp).2.2;rw[hs']at this;exact ag this.symm
theorem FN {g:Addr}{fi:FI}{vs:List AV}{us:List Value}{bs:List (Str×AV)}{R:Result->Shared->Prop}{n:Nat}(hfi:aa d.tb.fns g=some fi)(hb:hG fi vs=some bs)(nc:dD fi.scope.names=true)(dv:Dens V vs us)
  (rm:Room d.A (n+1)) (a:At d V fr σ s) (x:Sx d V fr σ.os s.heap m news)
  (k:∀f' h₁ tk,f'.cl=[]->f'.cm=none->Room (d.call f' (hideAll s.heap (news.map (·.1)))).A n->At (d.call f' (hideAll s.heap (news.map (·.1)))) V ⟨fi.scope,b9 fi.scope.names bs,[],none,none⟩ σ (Shared.to s h₁ tk)->
   wpAny d.M (d.call f' (hideAll s.heap (news.map (·.1)))).A (execs fi.body (d.call f' (hideAll s.heap (news.map (·.1)))).ev) (fun fl s'=>LeaveK d.h₀ d.f.L m (hideAll s.heap (news.map (·.1))) R (flR fl) s')
    (fun e s'=>wpAny d.M (d.call f' (hideAll s.heap (news.map (·.1)))).A (leaving f'.env e) (fun zz s''=>R (.error e) s'') (fun e' s''=>R (.error e') s'') s') (Shared.to s h₁ tk)):codeAny d.M d.A (.call (.ref g) ⟨us,[]⟩) R s:=by
 refine av a.c.B fun A₀ B=>?_;have FO:=a.c.O.fn _ _ hfi;refine FO.k fun oc od dV kV doc pm an cdv ct osl dvs hK hcd hdf hbind=>?_;refine bU (iU hb) fun l1 l2 z'2=>?_;obtain rfl:=z'2;have e1:=dv.length;have e2:=(hdf V).length;have hb:=hbind s us a.Xs (by lia) (by lia);have zz:Zs V (fi.ps.zip (vs++fi.df.drop (vs.length+fi.df.length - fi.ps.length))).reverse (fi.ps.zip (us++dvs.drop (us.length+dvs.length - fi.ps.length))).reverse:=by
  rw[e1,e2];exact (Zs.zip _ (dv.app ((hdf V).drop _))).rev
 have hloc:∀y∈fi.ps.zip (us++dvs.drop (us.length+dvs.length - fi.ps.length)),fi.scope.names.lookup y.1=some .local:=fun y hy=>(FO.cell.1 y.1 (List.of_mem_zip hy).1).resolve_right fun q=>by
  rw[jv nc]at q;exact ak q.2
 refine ay rm fun r1 r2=>?_;clear rm;refine mU (groundX (R:=R) B x.F x.N a.c.hA rfl a.c.hf) fun FG BG st lv=>?_;refine codeAny_call_def (fd:=fnOf fi.name fi.qual fi.params fi.body fi.scope dV kV doc pm an cdv ct) (body:=fi.body) (by lia) (a.Xs _ _ hK) rfl (a.c.T.nolimit.keeps x.F.keep) (codeRec_of a.Xs hcd) rfl hb (dJ nc) hloc (fun h₁ hns hk₁=>?_) FO.co FO.gen FO.kind;refine wpAny_mono (k ⟨fi.qual,fi.scope,s.heap.objs.size,g,cdv,[],none⟩ h₁ _ rfl rfl ⟨by show d.A.depth+1+3*n < _;lia,by show d.A.units+3+10*n+10 < _;lia⟩
  ⟨⟨a.c.O,⟨d.A,BG⟩,by show d.A.frames.map _=_;rw[a.c.hA];rfl,a.c.hh,a.c.hg,FO.kind,FO.kind,a.c.T.keeps fun b o e=>st b o e,a.c.X.keeps fun b o e=>st b o e⟩,⟨trivial,trivial,rfl,fun y i hy=>ag hy⟩,a.v,
   ⟨_,news,⟨hns,fun b o e=>hk₁ b o (of_hideAll _ e),Nat.le_of_eq (hideAll_size _ _)⟩,fun p hp=>⟨hk₁ _ _ (x.N p hp).1,bJ (Heap.lt_size (x.N p hp).1),hideAll_none _ (cP hp)⟩,x.D,x.nd,fun y v hy=>?_⟩⟩) (fun fl s' hl=>lv _ _ hl) fun zz zz y=>y
 refine ay (ce hy) fun q1 q2=>?_;exact (zz.look y).1 q1
end
theorem jw {α:Type}{r:R α}{k:α->Bool}(h:okB r k=true):∃a σ,r=.ok a σ/\k a=true:=by
 induction r using R.casesOn with
 |ok a σ=>exact ⟨a,σ,rfl,h⟩
 |no=>exact ak h
theorem fg {P:Addr}{q:Str}{o:Option AO}(h:Bv P q o=true):∃js,o=some (.ctb P q js):=by
 refine aj (aZ h) fun a z'1 h=>?_;obtain rfl:=z'1
 induction a using aN<;>first|exact ak h|skip
 have h1:=an1 h;have h2:=an2 h;obtain rfl:=aK h1;obtain rfl:=bh.mp h2;exact ⟨_,rfl⟩
theorem DO.k {α:Type}{r:R α}{k:α->Bool}{c:List (Nat×AO)->Bool}{x y:Option AO}(h:qD r k c=⟨true,x,y⟩):∃a σ,r=.ok a σ/\k a=true/\jL σ.os=true/\c (sys σ.os)=true/\aa (aL (aL σ.os 20) 21) 30=x/\aa (aL (aL (aL σ.os 20) 21) 30) 31=y:=by
 obtain ⟨h1,h2,h3⟩:(okB r k&&(jL (bN r).os&&c (sys (bN r).os)))=true/\aa (aL (aL (bN r).os 20) 21) 30=x/\aa (aL (aL (aL (bN r).os 20) 21) 30) 31=y:=by
  injection h with h1 h2 h3;exact ⟨h1,h2,h3⟩
 have h4:=an2 h1;have h1:=an1 h1;have h5:=an2 h4;have h4:=an1 h4;refine aI (jw h1) fun a σ z'2 hk=>?_;obtain rfl:=z'2;exact ⟨a,σ,rfl,hk,h4,h5,h2,h3⟩
section
variable {w:World}{V W:Vl}{fl fl':FL}{tl news:L2}{os:List (Nat×AO)}
theorem Led.out {i:Nat}{o:AO}(D:Led w V fl tl os news)(h:aa os i=some o):∃l n,(l++n).Perm news/\Is w V fl i o l/\Led w V fl tl (aL os i) n:=by
 refine aj (D.perm (bk h)) fun n' D' p=>?_
 induction D' using Led.cs with
 |cons a b=>exact ⟨_,_,p,a,b⟩
structure Ia (w:World) (W:Vl) (fl:FL) (os:List (Nat×AO)) (x y:AO) (l:L2) (a b c e n:L2):Prop where
 p:(a++(b++(c++(e++n)))).Perm l
 a:∃js,Is w W fl 20 (.ctb 984 (lq 987) js) a
 b:∃js,Is w W fl 21 (.ctb 989 (lq 994) js) b
 c:Is w W fl 30 x c
 e:Is w W fl 31 y e
 n:Led w W fl [] (sys os) n
theorem FP {x y:AO}{l:L2}(D:Led w W fl [] os l)(h:jL os=true)(hx:aa (aL (aL os 20) 21) 30=some x)(hy:aa (aL (aL (aL os 20) 21) 30) 31=some y){G:Prop}(Kk:∀a b c e n,Ia w W fl os x y l a b c e n->G):G:=by
 have h1:=an1 h;have h2:=an2 h;refine av (fg h1) fun js h1=>?_;refine av (fg h2) fun js' h2=>?_;refine aR (D.out h1) fun a n1 p1 i1 D1=>?_;refine aR (D1.out h2) fun b n2 p2 i2 D2=>?_;refine aR (D2.out hx) fun c n3 p3 i3 D3=>?_;refine aR (D3.out hy) fun e n4 p4 i4 D4=>?_;exact Kk a b c e n4 ⟨(((p4.append_left c).trans p3).append_left b |>.trans p2).append_left a |>.trans p1,⟨js,i1⟩,⟨js',i2⟩,i3,i4,D4⟩
theorem bY {i j:Nat}{P:Addr}{q:Str}{js:List Nat}{l:L2}(h:Is w V fl i (.ctb P q js) l):Is w W fl' j (.ctb P q []) l:=by
 refine aR h fun ps cs h1 zy h'4=>?_;clear h;obtain rfl:=h'4;exact ⟨ps,cs,h1,fun j hj=>absurd hj bI,rfl⟩
theorem uB {n k m:Nat}(h:0 < m):(tkN n k m).1 < m:=by
 unfold tkN
 split
 ·exact Nat.mod_lt _ h
 ·exact Nat.mod_lt _ h
theorem li {i b:Nat}{l:L2}(h:Is w V fl i (.bx b []) l)(hb:b+2<=64){m1 m2:Nat}(h1:0 < m1)(h2:0 < m2):∃d1 d2,d1 < m1/\d2 < m2/\∀{W fl' j a},W.ρ j=V.ρ i->(∀t,Den W a (.int (d2:Nat) t))->Is w W fl' j (.bx b [(m1,.int (.ofNat d1)),(m2,a)]) l:=by
 refine y4 h fun x o vs k1 n k t1 t2 hx ho hv h'11 h'12=>?_;clear h;refine ay h'11 fun hk zy=>?_;clear h'11;obtain rfl:=h'12;refine ⟨_,_,uB (n:=n) (k:=k) h1,uB (n:=(tkN n k m1).2) (k:=k+1) h2,fun {W fl' j a} e ha=>⟨x,o,vs,k1,n,k,t1,t2,e.trans hx,ho,hv,⟨hk,⟨h1,by lia⟩,fun t=>⟨t,rfl⟩,⟨h2,by lia⟩,ha,trivial⟩,rfl⟩⟩
theorem fh {i j b b':Nat}{ds:List (Nat×AV)}{l:L2}(h:Is w V fl i (.bx b ds) l)(hb:b<=b')(e:W.ρ j=V.ρ i):Is w W fl' j (.bx b' []) l:=by
 refine y4 h fun x o vs k1 n k t1 t2 hx ho hv h'11 h'12=>?_;clear h;refine ay h'11 fun hk zy=>?_;clear h'11;obtain rfl:=h'12;exact ⟨x,o,vs,k1,n,k,t1,t2,e.trans hx,ho,hv,⟨ba hk hb,trivial⟩,rfl⟩
theorem FQ {i b:Nat}{ds:List (Nat×AV)}{l:L2}(h:Is w V fl i (.bx b ds) l):∃x,V.ρ i=some x:=by
 refine HG h fun x zy zy zy zy zy zy zy hx zy=>?_;clear h;exact ⟨x,hx⟩
theorem uC {i:Nat}{es:List AV}{l:L2}(h:Is w V fl i (.lst es) l)(hl:es.length<=100):∃x vs,V.ρ i=some x/\Dens V es vs/\∀{W fl' j},W.ρ j=some x->Is w W fl' j (.lsu vs []) l:=by
 refine bu h fun x vs k hx hd h'5=>?_;clear h;obtain rfl:=h'5;have:=hd.length;exact ⟨x,vs,hx,hd,fun {W fl' j} e=>⟨x,[],k,e,trivial,by lia,by rw[List.append_nil]⟩⟩
theorem uD {i:Nat}{es ap:List AV}{vs:List Value}{l:L2}(h:Is w W fl i (.lsu vs ap) l){V':Vl}{j:Nat}{fs:List AV}(e:V'.ρ j=W.ρ i)(hd:∀us,Dens W ap us->Dens V' fs (vs++us)):Is w V' fl' j (.lst fs) l:=by
 refine bZ h fun x us k hx h1 zy h'6=>?_;clear h;obtain rfl:=h'6;exact ⟨x,_,k,e.trans hx,hd us h1,rfl⟩
end
def cnt (z:Addr×Obj) (l:L2):Nat:=@List.countP (Addr×Obj) (fun y=>@decide (y=z) (Classical.propDecidable _)) l
theorem aJ (z:Addr×Obj)(a b:L2):cnt z (a++b)=cnt z a+cnt z b:=List.countP_append
theorem fj (z:Addr×Obj):cnt z []=0:=rfl
theorem jx (z:Addr×Obj)(a:L2):cnt z (z::a)=cnt z a+1:=@List.countP_cons_of_pos (Addr×Obj) (fun y=>@decide (y=z) (Classical.propDecidable _)) z a (@decide_eq_true _ (Classical.propDecidable _) rfl)
theorem px {z:Addr×Obj}{a:L2}(h:0 < cnt z a):z∈a:=by
 refine aj (List.countP_pos_iff.mp h) fun y hy e=>?_;exact @of_decide_eq_true _ (Classical.propDecidable _) e▸hy
theorem aS {a b:L2}(h:a.Perm b)(z:Addr×Obj):cnt z a=cnt z b:=h.countP_eq _
theorem kg:∀{a b:L2},(∀z,cnt z a=cnt z b)->a.Perm b
 |[],b=>fun h=>by
  induction b using aV with
  |nil=>exact .nil
  |cons x r=>
   have:=h x;rw[fj,jx]at this;lia
 |x::a,b=>fun h=>by
  have hx:x∈b:=px (by rw[<-h x,jx];lia);refine dP (List.append_of_mem hx) fun p q z'2=>?_;obtain rfl:=z'2;refine (List.Perm.cons x (kg fun z=>?_)).trans List.perm_middle.symm;have:=h z;rw[aS List.perm_middle z,show x::a=[x]++a from rfl,show x::(p++q)=[x]++(p++q) from rfl,aJ,aJ]at this;lia
section
variable {w:World}{V V0 V1:Vl}{fl:FL}{t:Nat}{pool wl r lo r' lp rest wl' ln:L2}{as as':List Addr}{a:Addr}{dd:Option Addr}{xb xl:Addr}{dj:Nat}{z:Int}{sh:Sh}
theorem gR:(bT sh++bA sh).Perm (mA sh):=by
 refine List.perm_append_comm.trans ?_;exact List.filter_append_perm (fun p=>Bg sh.s p.1) (mA sh)
theorem Bw (O:kf w tbT.flds V0 t pool wl (some xb) (some xl) dj a r as lo r' as' sh V1 lp rest dd z wl' ln){js js':List Nat}{l20 l21 lb ll:L2}{b:Nat}{ds:List (Nat×AV)}{vs:List Value}(c20:Is w V fl 20 (.ctb 984 (lq 987) js) l20)(c21:Is w V fl 21 (.ctb 989 (lq 994) js') l21)
  (ib:Is w (enV V0 V1 dd z (some xb) (some xl) dj) tbT.flds 30 (.bx b ds) lb) (il:Is w (enV V0 V1 dd z (some xb) (some xl) dj) tbT.flds 31 (.lsu vs []) ll) (n2:L2) :
  ∃n',Led w (enV V0 V1 dd z (some xb) (some xl) dj) tbT.flds n2 (σc vs b sh ds).os n'/\∀y,cnt y n'=cnt y wl+(cnt y l20+(cnt y l21+(cnt y lb+(cnt y ll+(cnt y lo+cnt y lp)))))+cnt y n2:=by
 refine aj (O.ns.perm gR) fun nn Dn pn=>?_;refine ⟨_,O.wd.join (.cons (bY c20) (.cons (bY c21) (.cons ib (.cons il Dn.tl0)))),fun y=>?_⟩;have h1:=aS O.pw y;have h2:=aS O.pn y;have h3:=aS pn y;rw[aJ]at h2;rw[aJ,aJ,aJ,aJ,aJ,aJ];lia
end
structure PiL (w:World) (x0:Option Addr) (t:Nat) (as:List Addr) (lq:L2) (V0:Vl) (wl pool r:L2):Prop where
 pm:(wl++(pool++r)).Perm lq
 wd:Led w V0 tbT.flds [] (wOs none) wl
 num:bK V0.ι
 z:0<=V0.ι 0
 ρ:V0.ρ 0=x0
 gs:Gs w tbT.flds V0 t pool as r
structure mI (w:World) (x0:Option Addr) (t b:Nat) (xb xl:Addr) (vs:List Value) (as:List Addr) (nm news:L2) (ap as':List Addr) (lw l20 l21 lb ll:L2):Prop where
 pm:∀y,cnt y news=cnt y lw+(cnt y l20+(cnt y l21+(cnt y lb+(cnt y ll+cnt y nm))))
 pi:∃V2 wl pool r,PiL w x0 t as' lw V2 wl pool r
 sub:∀x∈as,x∈as'
 am:∀x∈ap,x∈as'
 al:ap.length<=1
 c20:∀V fl,Is w V fl 20 (.ctb 984 (lq 987) []) l20
 c21:∀V fl,Is w V fl 21 (.ctb 989 (lq 994) []) l21
 bx:∀(V:Vl) fl j,V.ρ j=some xb->Is w V fl j (.bx b []) lb
 ls:∀(V:Vl) fl j es fs,V.ρ j=some xl->Dens V es vs->Dens V fs (ap.map .ref)->Is w V fl j (.lst (es++fs)) ll
section
variable {w:World}{W V0 V1:Vl}{t g:Nat}{pool wl r lo r' lp rest wl' ln:L2}{as as':List Addr}{a:Addr}{dd:Option Addr}{xb xl:Addr}{dj:Nat}{z:Int}{sh sh':Sh}{lw nm l news:L2}{os:List (Nat×AO)}{b b':Nat}{vs:List Value}{x0:Option Addr}
theorem yP {apA:List AV}{ap:List Addr}{ll:L2}(hx:W.ρ 31=some xl)(h:Is w W tbT.flds 31 (.lsu vs apA) ll)(ha:∀us,Dens W apA us->us=ap.map .ref):∀(V:Vl) fl j es fs,V.ρ j=some xl->Dens V es vs->Dens V fs (ap.map .ref)->Is w V fl j (.lst (es++fs)) ll:=
 fun V fl j es fs e d1 d2=>uD (es:=es) h (e.trans hx.symm) fun us du=>d1.app (ha us du▸d2)
theorem pz (O:kf w tbT.flds V0 t pool wl (some xb) (some xl) dj a r as lo r' as' sh V1 lp rest dd z wl' ln)(P:PiL w x0 t as lw V0 wl pool r)(num:bK W.ι)(le:(enV V0 V1 dd z (some xb) (some xl) dj).le W)
  (D:Led w W tbT.flds (rest++(r'++nm)) os news) (nd:(news.map (·.1)).Nodup) (h1:jL os=true) (h2:aa (aL (aL os 20) 21) 30=some (.bx b [])) {apA:List AV} (h3:aa (aL (aL (aL os 20) 21) 30) 31=some (.lsu vs apA))
  (ha:apA=[]\/apA=[.obj 40]) (hf:fB g sh sh' (sys os)=true) (hb:b<=b') {G:Prop} (Kk:∀ap as2 lw' l20 l21 lb ll,mI w x0 (t+g) b' xb xl vs as nm news ap as2 lw' l20 l21 lb ll->G):G:=by
 refine aj D.untl fun l z'1 Dl=>?_;obtain rfl:=z'1;refine FP Dl h1 h2 h3 fun na nb nc ne nn Q=>?_;have ndl:(l.map (·.1)).Nodup:=bH (jN l _) nd;have ndn:(nn.map (·.1)).Nodup:=bH (((fE ne nn).trans (fE nc _)).trans ((fE nb _).trans (fE na _))) (aW Q.p ndl);refine yO O P.z num le P.wd Q.n ndn hf fun V2 wl2 pool' lo' q1 q2 q3 q4 q5 q6=>?_;have e0:W.ρ 0=V0.ρ 0:=by
  refine av (b0 P.wd (c:=0) (by decide)) fun x hx=>?_;rw[hx];exact le.ρ 0 x hx
 refine av Q.a fun js ia=>?_;refine av Q.b fun js' ib=>?_;have hx31:W.ρ 31=some xl:=le.ρ 31 xl rfl;have h40:W.ρ 40=some a:=le.ρ 40 a O.nt.at_;have hp:∀{ap:List Addr},ap.length<=1->(∀us,Dens W apA us->us=ap.map .ref)->(∀x∈ap,x∈a::as')->mI w x0 (t+g) b' xb xl vs as nm (l++(rest++(r'++nm))) ap (a::as') (wl2++(pool'++(lo'++r'))) na nb nc ne:=fun hl hap hm=>by
  refine ⟨fun y=>?_,⟨V2,wl2,pool',_,.refl _,q2,q3,q4,(q5 0 (by decide)).trans (e0.trans P.ρ),q6⟩,fun x hx=>O.pa.mem_iff.mpr hx,hm,hl,fun zz zz=>bY ia,fun zz zz=>bY ib,fun V fl j e=>fh Q.c hb (e.trans (le.ρ 30 xb rfl).symm),yP hx31 Q.e hap⟩;have c1:=aS q1 y;have c2:=aS Q.p y;simp only[aJ]at c1 c2 ⊢;lia
 rcases ha with rfl|rfl
 ·exact Kk [] _ _ _ _ _ _ (hp (bD _) (fun us d=>by induction us using aV with|nil=>rfl|cons=>exact d.elim) fun x hx=>absurd hx bI)
 ·refine Kk [a] _ _ _ _ _ _ (hp (aP _) (fun us d=>?_) fun x hx=>by rw[List.mem_singleton.mp hx];exact .head _);obtain ⟨u,rfl,x,hx,rfl⟩:=d.i1;rw[soo (h40.symm.trans hx)];rfl
theorem xy (O:kf w tbT.flds V0 t pool wl (some xb) (some xl) dj a r as lo r' as' sh V1 lp rest dd z wl' ln)(P:PiL w x0 t as lw V0 wl pool r)(num:bK W.ι)(le:(enV V0 V1 dd z (some xb) (some xl) dj).le W)
  (D:Led w W tbT.flds (rest++(r'++nm)) os news) (nd:(news.map (·.1)).Nodup) (h1:jL os=true) (h2:aa (aL (aL os 20) 21) 30=some (.bx b [])) {k':Nat} (h3:aa (aL (aL (aL os 20) 21) 30) 31=some (.lsu vs [.obj k']))
  (hf:fC g sh sh' k' (sys os)=true) (hb:b<=b') {G:Prop} (Kk:∀ap as2 lw' l20 l21 lb ll,mI w x0 (t+g) b' xb xl vs as nm news ap as2 lw' l20 l21 lb ll->G):G:=by
 refine aj D.untl fun l z'1 Dl=>?_;obtain rfl:=z'1;refine FP Dl h1 h2 h3 fun na nb nc ne nn Q=>?_;have ndl:(l.map (·.1)).Nodup:=bH (jN l _) nd;have ndn:(nn.map (·.1)).Nodup:=bH (((fE ne nn).trans (fE nc _)).trans ((fE nb _).trans (fE na _))) (aW Q.p ndl);refine FK O P.z num le P.wd Q.n ndn hf fun V2 wl2 pool' lo' a2 q0 q1 q2 q3 q4 q5 q6=>?_;have e0:W.ρ 0=V0.ρ 0:=by
  refine av (b0 P.wd (c:=0) (by decide)) fun x hx=>?_;rw[hx];exact le.ρ 0 x hx
 refine av Q.a fun js ia=>?_;refine av Q.b fun js' ib=>?_;refine Kk [a2] (a::a2::as') (wl2++(pool'++(lo'++r'))) na nb nc ne ⟨fun y=>?_,⟨V2,wl2,pool',_,.refl _,q2,q3,q4,(q5 0 (by decide)).trans (e0.trans P.ρ),q6⟩,fun x hx=>?_,fun x hx=>by rw[List.mem_singleton.mp hx];exact .tail _ (.head _),aP _,
  fun zz zz=>bY ia,fun zz zz=>bY ib,fun V fl j e=>fh Q.c hb (e.trans (le.ρ 30 xb rfl).symm),yP (le.ρ 31 xl rfl) Q.e fun us d=>?_⟩
 ·have c1:=aS q1 y;have c2:=aS Q.p y;simp only[aJ]at c1 c2 ⊢;lia
 ·rcases aG (O.pa.mem_iff.mpr hx) with rfl|h
  ·exact .head _
  ·exact .tail _ (.tail _ h)
 ·obtain ⟨u,rfl,x,hx,rfl⟩:=d.i1;rw[soo (q0.symm.trans hx)];rfl
end
theorem c0 {n:Nat}{st:SS}{tb:Tb}(is:SOk tb n st):∀{b1:List Stmt} {fr:AF} {σ:ST} {q:AFl×AF} {σ':ST},rL st b1 fr σ=.ok q σ'->cf q.1=true->∀{d:Dx} {V:Vl},d.tb=tb->Room d.A n->∀{b2:List Stmt} {s:Shared} {Q:Flow->Shared->Prop} {E:Value->Shared->Prop},At d V fr σ s->
  (∀h tk W,V.le W->At d W q.2 σ' (Shared.to s h tk)->wpAny d.M d.A (execs b2 d.ev) Q E (Shared.to s h tk))->wpAny d.M d.A (execs (b1++b2) d.ev) Q E s
 |[],fr,σ,q,σ'=>fun e hq {d} {V} ht rm {b2} {s} {Q} {E} a k=>by
  refine ay (roo e) fun z'0 z'1=>?_;obtain rfl:=z'0;obtain rfl:=z'1;exact k s.heap s.toks V (.refl V) a
 |x::b1,fr,σ,q,σ'=>fun e hq {d} {V} ht rm {b2} {s} {Q} {E} a k=>by
  refine aI (ec e) fun p σ₁ h1 e=>?_;refine wpAny_execs_cons (is h1 ht rm _ _ _ a fun l h tk W le dl a₁=>?_);generalize hn:cf p.1=x';induction x' using aH with
  |true=>
   rw[hn]at e;rw[eZ hn]at dl;rw[show l=.next from dl.is];exact c0 is e hq ht rm a₁ fun h' tk' W' le' a₂=>k h' tk' W' (le.trans le') a₂
  |false=>
   rw[hn]at e;refine ay (roo (show R.ok p σ₁=.ok q σ' from e)) fun z'0 z'1=>?_;obtain rfl:=z'0;obtain rfl:=z'1;rw[hq]at hn;exact eA hn
section
variable {d:Dx}{V W:Vl}{fr fr':AF}{σ σ' σ₁ σ₂:ST}{s:Shared}{E:Value->Shared->Prop}
theorem pA {n:Nat}{ex:EX}(ie:EOk d.tb n ex)(rm:Room d.A n){g:Expr}{as:List Expr}{pos:Pos}{f:Addr}{fi:FI}{vs:List AV}{Q:Value->Shared->Prop}(hg:jl g=true)(h1:ex g fr σ=.ok (.st f) σ₁)(hfi:aa d.tb.fns f=some fi)(h2:evs ex as fr σ₁=.ok vs σ₂)(a:At d V fr σ s)
  (k:∀us h tk W,V.le W->Dens W vs us->At d W fr σ₂ (Shared.to s h tk)->wpAny d.M d.A (call (.ref f) us) Q E (Shared.to s h tk)):wpAny d.M d.A (eval (.Call g as [] pos) d.ev) Q E s:=by
 rw[dU (by induction g using Expr.casesOn<;>first|rfl|exact ak hg)];refine af (ie h1 rfl rm _ _ _ a fun uv h tk W le du a₁=>?_);obtain rfl:uv=.ref f:=du;exact jn (first:=[]) (a.c.O.fn _ _ hfi).keep ie rm h2 a₁ fun us h' tk' W' le' ds a₂=>k us h' tk' W' (le.trans le') ds a₂
end
theorem sS3:SOk ez.tb 199 (sS ez (ev ez 199)):=
 let h:=bw cN 199
 ow h.ex h.ts h.bl ew (oR h.ex h.ts h.bl ew)
theorem Bx:ij=ij.take 5++(dIf.st::ij.drop 6):=by kernel_rfl
theorem FR:jl dIf.g=true:=by kernel_rfl
theorem pB:aa tbT.fns 1001=some (fiA 1001):=by kernel_rfl
theorem mJ:bootBuiltins (S [82,97,105,115,101,100])=none:=by decide +kernel
theorem By:((fiA 1001).ps,(fiA 1001).df,dD (fiA 1001).scope.names,aw (fiA 1001).scope.names jr.en,aw (fiA 1001).scope.names jr.dn,aw (fiA 1001).scope.names jr.xn)=([jr.dn],[],true,some .local,some .local,some .globalImplicit):=by kernel_rfl
theorem pC:(dQ jr.en&&(dQ jr.dn&&dQ jr.xn))=true:=by kernel_rfl
theorem Bz:aa tbT.exs 544=some (541,[S [114,101,97,115,111,110],S [116,104,105,110,103]]):=by kernel_rfl
theorem mK:aw tbT.glob jr.xn=some (.st 544):=by kernel_rfl
theorem BA:AP jr (fiA 1001).body:=⟨⟨751,8,751,15⟩,⟨751,8,751,17⟩,⟨751,8,751,17⟩,⟨752,11,752,17⟩,⟨753,15,753,16⟩,⟨753,15,753,22⟩,⟨753,15,753,28⟩,⟨753,15,753,33⟩,⟨753,37,753,50⟩,⟨753,15,753,50⟩,⟨753,8,753,50⟩,⟨752,4,753,50⟩,⟨750,4,753,50⟩,0,.Return (some (.Constant (.bool false) 0 ⟨754,11,754,16⟩)) ⟨754,4,754,16⟩,by kernel_rfl⟩
theorem BB {d:Dx}(ht:d.tb=tbT)(O:dB d.w d.K d.tb):yE d 1001 (fiA 1001) jr 544:=by
 have e:=By;injection e with e1 e
 injection e with e2 e
 injection e with e3 e
 injection e with e4 e
 injection e with e5 e6
 have g1:=an1 pC;have g2:=an2 pC;have g3:=an2 g2;have g2:=an1 g2;refine ⟨ht▸pB,BA,e1,e2,e3,⟨_,_,ht▸Bz,.tail _ (.head _)⟩,?_,⟨(aQ ..).symm.trans e4,bP g1⟩,⟨(aQ ..).symm.trans e5,bP g2⟩,⟨(aQ ..).symm.trans e6,bP g3⟩⟩;obtain ⟨_,u,hu,q|q⟩:=O.glob _ _ (ht▸mK)
 ·obtain rfl:u=.ref 544:=hu ⟨fun zz=>none,fun zz=>none,fun zz=>0,fun zz=>none⟩;exact q
 ·exact ag (mJ.symm.trans q.2.1)
structure Bs (d:Dx):Prop where
 cl:d.f.cl=[]
 cm:d.f.cm=none
 XB:d.K.In d.base
 TB:Top d.p d.loose d.mean d.mg d.mb d.base
 Dk:KtsDicts (d.outer.filterMap (·.frame)) d.h₀
section
variable {d:Dx}{V W:Vl}{fr fr':AF}{σ σ' σ₁ σ₂:ST}{s:Shared}{E:Value->Shared->Prop}
theorem xz (ht:d.tb=tbT)(rm:Room d.A 200)(B:Bs d){q:AFl×AF}{rest:List Stmt}{Q:Flow->Shared->Prop}(a:At d V q.2 σ s) :
  Snd (Bf q σ) fun v σ'=>(∀h tk h₀' W b,V.le W->KtsTurn (d.outer.filterMap (·.frame)) d.h₀ h₀'->At { d with h₀:=h₀' } W q.2 σ' (Shared.to s h tk)->v=.boo b->Q (.ret (.bool b)) (Shared.to s h tk))->wpAny d.M d.A (execs (dIf.st::rest) d.ev) Q E s:=
 Snd.gd fun hn=>Snd.bind fun tr σ₁ h1=>Snd.gd fun htr=>Snd.bind fun u σ₂ h2=>Snd.st fun f hf=>Snd.gd fun hb=>Snd.bind fun vs σ₃ h3=>by
  obtain rfl:=aK hb;subst hf
  match vs with
  |[]|_::_::_=>exact Snd.no
  |[v0]=>
   refine Snd.obj fun j hj v σ' e P=>?_;subst hj;have h:=bw cN 199;have ts:TOk d.tb 199 (ev ez 199).ts:=ht▸h.ts;have ex:EOk d.tb 199 (ev ez 199).ex:=ht▸h.ex;have xe:XE d.tb 190 (ev ez 190).xe:=ht▸(bw cN 190).xe;have rm':=rm.mono (er 199);refine wpAny_execs_cons (wpAny_If (ts h1 rfl rm' _ _ _ a fun u h tk W le hu a₁=>?_));rw[show u=tr from hu,htr];refine wpAny_execs_cons (wpAny_Return_some (pA ex rm' FR h2 (ht▸pB) h3 a₁ fun us h' tk' W' le' ds a₂=>?_));obtain ⟨u',rfl,x,hx,rfl⟩:=ds.i1;refine wpAny_call (nJ xe (BB ht a.c.O) a₂ B.cl (rm.mono (by decide)) hx B.XB B.TB B.Dk v σ' e fun h₃ tk₃ h₀' W₃ b le₃ T a₃ hv=>?_);exact P h₃ tk₃ h₀' W₃ b ((le.trans le').trans le₃) T a₃ hv
end
theorem lj:∀{a b:L2},(∀z,cnt z a<=cnt z b)->∃r,(a++r).Perm b
 |[],b=>fun zz=>⟨b,.refl _⟩
 |x::a,b=>fun h=>by
  have hx:x∈b:=px (iR (by rw[jx];lia) (h x));refine dP (List.append_of_mem hx) fun p q z'2=>?_;obtain rfl:=z'2;refine av (lj (a:=a) (b:=p++q) fun z=>by
   have:=h z;rw[aS List.perm_middle z,show x::a=[x]++a from rfl,show x::(p++q)=[x]++(p++q) from rfl,aJ,aJ]at this;lia) fun r hr=>?_
  exact ⟨r,(hr.cons x).trans List.perm_middle.symm⟩
theorem ck {a b:L2}(h:∀z,cnt z a<=cnt z b):∀z∈a,z∈b:=fun z hz=>(lj h).elim fun zz p=>cZ p z hz
theorem dF {a b:L2}(h:∀z,cnt z a<=cnt z b)(nd:(b.map (·.1)).Nodup):(a.map (·.1)).Nodup:=(lj h).elim fun zz p=>gr p nd
inductive Ev (pre:List Value) (b b':Nat) (sh:Sh) (wy:Nat) (ds:List (Nat×AV)):Prop
 |inp {sh' apA x} (h:qD (aT pre b sh wy ds) qC (fB 1 sh sh')=⟨true,some (.bx x []),some (.lsu pre apA)⟩) (ha:apA=[]\/apA=[.obj 40]) (hb:x<=b')
 |cp {sh' k' x} (h:qD (aT pre b sh wy ds) qC (fC 1 sh sh' k')=⟨true,some (.bx x []),some (.lsu pre [.obj k'])⟩) (hb:x<=b')
 |no {x} (h:dNo (eg pre b sh wy ds) sh=⟨true,some (.bx x []),some (.lsu pre [])⟩) (hb:x<=b')
set_option tactic.hygienic true in
theorem lr {q:AFl×AF}(h:qC q=true):q.1=.ret (.boo true):=by
 obtain ⟨fl,fr⟩:=q
 induction fl using AFl.casesOn<;>first|exact ak h|skip
 rename_i v
 induction v using aA<;>first|exact ak h|skip
 rename_i b
 induction b using aH<;>first|exact ak h|rfl
set_option tactic.hygienic true in
theorem uE {v:AV}(h:trB v=true):v=.boo true:=by
 induction v using aA<;>first|exact ak h|skip
 rename_i b
 induction b using aH<;>first|exact ak h|rfl
def dnW:Str:=S [119,111,114,108,100]
def dnB:Str:=S [98,111,120]
def dnN:Str:=S [110,111,116,101,115]
def dnY:Str:=S [119,97,121]
def dn1:Str:=S [110,111,116,101]
theorem uF {wy:Nat}{x:Str}{v:AV}(h:aw (dFr wy).loc x=some v):(x=dnW/\v=.obj 0)\/(x=dnB/\v=.obj 30)\/(x=dnN/\v=.obj 31)\/(x=dnY/\v=wyA wy)\/(x=dn1/\v=.obj 40):=by
 have:=aU h;change (x,v)∈[(dnW,AV.obj 0),(dnB,.obj 30),(dnN,.obj 31),(dnY,wyA wy),(dn1,.obj 40)]at this;rcases aG this with e|this
 ·refine ay (bo e) fun z'0 z'1=>?_;obtain rfl:=z'0;obtain rfl:=z'1;exact .inl ⟨rfl,rfl⟩
 rcases aG this with e|this
 ·refine ay (bo e) fun z'0 z'1=>?_;obtain rfl:=z'0;obtain rfl:=z'1;exact .inr (.inl ⟨rfl,rfl⟩)
 rcases aG this with e|this
 ·refine ay (bo e) fun z'0 z'1=>?_;obtain rfl:=z'0;obtain rfl:=z'1;exact .inr (.inr (.inl ⟨rfl,rfl⟩))
 rcases aG this with e|this
 ·refine ay (bo e) fun z'0 z'1=>?_;obtain rfl:=z'0;obtain rfl:=z'1;exact .inr (.inr (.inr (.inl ⟨rfl,rfl⟩)))
 rcases aG this with e|this
 ·refine ay (bo e) fun z'0 z'1=>?_;obtain rfl:=z'0;obtain rfl:=z'1;exact .inr (.inr (.inr (.inr ⟨rfl,rfl⟩)))
 ·exact absurd this bI
theorem xA {V:Vl}{wy:Nat}{t:Tok}:Den V (wyA wy) (.int (wy:Nat) t):=by
 unfold wyA;generalize h:Nat.ble wy 3=x';induction x' using aH with
 |true=>exact ⟨t,rfl⟩
 |false=>
  refine ⟨(wy:Nat),t,rfl,?_⟩;have:¬wy<=3:=fun q=>by rw[Nat.ble_eq_true_of_le q]at h;cases h
  show ((4:Nat):Int)<=(wy:Nat);lia
structure Pre (d:Dx) (m:Str->Option Value) (news:L2) (x0:Addr) (t b wy dj:Nat) (ds:List (Nat×AV)) (xb xl an:Addr) (vs:List Value) (as:List Addr) (lw l20 l21 lb ll nm:L2):Prop where
 mW:m dnW=some (.ref x0)
 mB:m dnB=some (.ref xb)
 mN:m dnN=some (.ref xl)
 mY:∃t,m dnY=some (.int (wy:Nat) t)
 m1:m dn1=some (.ref an)
 pi:∃V0 wl pool r,PiL d.w (some x0) t as lw V0 wl pool r
 an:an∈as
 ht:t<=11
 hj:dj < 5
 c20:∃V fl js,Is d.w V fl 20 (.ctb 984 (lq 987) js) l20
 c21:∃V fl js,Is d.w V fl 21 (.ctb 989 (lq 994) js) l21
 ib:∀W:Vl,W.ρ 30=some xb->W.ι 1200=(dj:Nat)->Is d.w W tbT.flds 30 (.bx b ds) lb
 il:∀W:Vl,W.ρ 31=some xl->Is d.w W tbT.flds 31 (.lsu vs []) ll
 pm:∀y,cnt y lw+(cnt y l20+(cnt y l21+(cnt y lb+(cnt y ll+cnt y nm))))<=cnt y news
section
variable {d:Dx}{V W:Vl}{fr fr':AF}{σ σ' σ₁ σ₂:ST}{s:Shared}{E:Value->Shared->Prop}
theorem qE (a:At d V fr σ s){m:Str->Option Value}{news:L2}(X:Sx d V fr σ.os s.heap m news)(O:dB d.w d.K tbT)(B:Bs d)(hsc:fr.sc=(fiA 1015).scope)(rm:Room d.A 200)
  {x0 xb xl an:Addr} {t b b' wy dj:Nat} {ds:List (Nat×AV)} {vs:List Value} {as:List Addr} {lw l20 l21 lb ll nm:L2} (P:Pre d m news x0 t b wy dj ds xb xl an vs as lw l20 l21 lb ll nm) (ev:∀sh∈shT,(sh.s=2->sh.n<=13)->Ev vs b b' sh wy ds) {Q:Flow->Shared->Prop}
  (K:∀h tk g' m' news' ap as' lw' l20' l21' lb' ll',KtsTurn (d.outer.filterMap (·.frame)) d.h₀ g'->Fr g' d.f.L h m'->News g' d.f.L h news'->(news'.map (·.1)).Nodup->mI d.w (some x0) (t+1) b' xb xl vs as nm news' ap as' lw' l20' l21' lb' ll'->Q (.ret (.bool true)) (Shared.to s h tk)) :
  wpAny d.M d.A (execs ij d.ev) Q E s:=by
 refine jE P.pi fun V0 wl pool r PI=>?_;refine vk P.c20 fun Va fla jsa ca=>?_;refine vk P.c21 fun Vb flb jsb cb=>?_;refine gQ (V:=V0) (p:=⟨0,[],t⟩) (l:=lw) ⟨PI.pm,PI.wd,PI.num,PI.z,rfl,PI.gs,fun j hj=>absurd hj bI⟩ P.an (some xb) (some xl) P.hj fun lo r' as' sh V1 lp rest dd z wl' ln N=>?_;refine aj (Bw N (bY (fl':=fla) (W:=Va) (j:=20) ca) (bY (fl':=fla) (W:=Va) (j:=21) cb) (P.ib _ rfl rfl) (P.il _ rfl) (rest++(r'++nm))) fun n' D' hc=>?_;have hle:∀y,cnt y n'<=cnt y news:=fun y=>by
  have c1:=aS PI.pm y;have c2:=aS N.pr y;have c3:=aS N.pp y;have c4:=P.pm y;have c5:=hc y;simp only[aJ]at c1 c2 c3 c5;lia
 have le0:(enV V0 V1 dd z (some xb) (some xl) dj).ρ 0=some x0:=PI.ρ;have a':At { d with tb:=tbT,tl:=rest++(r'++nm) } (enV V0 V1 dd z (some xb) (some xl) dj) (dFr wy) (σc vs b sh ds) s:=
  a.re X O D' (ck hle) (dF hle X.nd) (N.x (Nat.le_succ_of_le P.ht)) ⟨by show MdOk _ d.f.cm none;rw[B.cm];trivial,trivial,hsc.symm.trans a.l.sc,fun x i h=>ag h⟩ fun x v h=>by
   rcases uF h with ⟨rfl,rfl⟩|⟨rfl,rfl⟩|⟨rfl,rfl⟩|⟨rfl,rfl⟩|⟨rfl,rfl⟩
   ·exact ⟨_,P.mW,x0,le0,rfl⟩
   ·exact ⟨_,P.mB,xb,rfl,rfl⟩
   ·exact ⟨_,P.mN,xl,rfl,rfl⟩
   ·refine av P.mY fun t ht=>?_;exact ⟨_,ht,xA⟩
   ·exact ⟨_,P.m1,an,N.nt.at_,rfl⟩
 cases ev sh N.nt.mem (fun e=>ba (N.nt.n e) (Nat.add_le_add_right P.ht 2)) with
 |@inp sh' apA x h ha hb=>
  refine y3 (DO.k h) fun q σ₁ hr hq h1 h2 h3 h4=>?_;refine (bw cN 200).bl (d:={ d with tb:=tbT,tl:=rest++(r'++nm) }) hr rfl rm _ _ _ a' fun l h tk W le dl a₁=>?_;rw[lr hq]at dl;refine aj dl.is fun u z'1 hu=>?_;obtain rfl:=z'1;obtain rfl:u=.bool true:=hu;refine a₁.stK fun m' news' X'=>?_;refine pz N PI a₁.v.num le X'.D X'.nd h1 h3 h4 ha h2 hb fun ap as2 lw' k20 k21 kb kl R=>?_;exact K h tk d.h₀ m' news' _ _ _ _ _ _ _ .refl X'.F X'.N X'.nd R
 |@cp sh' k' x h hb=>
  refine y3 (DO.k h) fun q σ₁ hr hq h1 h2 h3 h4=>?_;refine (bw cN 200).bl (d:={ d with tb:=tbT,tl:=rest++(r'++nm) }) hr rfl rm _ _ _ a' fun l h tk W le dl a₁=>?_;rw[lr hq]at dl;refine aj dl.is fun u z'1 hu=>?_;obtain rfl:=z'1;obtain rfl:u=.bool true:=hu;refine a₁.stK fun m' news' X'=>?_;refine xy N PI a₁.v.num le X'.D X'.nd h1 h3 h4 h2 hb fun ap as2 lw' k20 k21 kb kl R=>?_;exact K h tk d.h₀ m' news' _ _ _ _ _ _ _ .refl X'.F X'.N X'.nd R
 |@no x h hb=>
  refine y3 (DO.k h) fun v σ₁ hr hq h1 h2 h3 h4=>?_;refine aI (ec hr) fun q σ₀ hr hx=>?_;rw[Bx];have hn:cf q.1=true:=by
   generalize e:cf q.1=x';induction x' using aH with
   |true=>rfl
   |false=>unfold Bf at hx;rw[e]at hx;exact cI hx
  refine c0 (d:={ d with tb:=tbT,tl:=rest++(r'++nm) }) sS3 hr hn rfl (rm.mono (by decide)) a' fun h tk W le a₁=>?_;refine xz (d:={ d with tb:=tbT,tl:=rest++(r'++nm) }) rfl rm ⟨B.cl,B.cm,B.XB,B.TB,B.Dk⟩ a₁ v σ₁ hx fun h' tk' g' W' bb le' T a₂ hv=>?_;obtain rfl:bb=true:=by rw[uE hq]at hv;injection hv with hv;exact hv.symm
  refine a₂.stK fun m' news' X'=>?_;refine pz N PI a₂.v.num (le.trans le') X'.D X'.nd h1 h3 h4 (.inl rfl) h2 hb fun ap as2 lw' k20 k21 kb kl R=>?_;exact K h' tk' g' m' news' _ _ _ _ _ _ _ T X'.F X'.N X'.nd R
end
def tbL:Tb:=tbP piL
theorem tbk (w:World)(K:Frag){p q:World->Vl->OpP->List (Addr×Obj)->Prop}(h:dB w K (tbP p)):dB w K (tbP q):=⟨h.fld,h.glob,h.ini,h.ms,h.fn,h.sat,h.lam,h.exs,h.dcs,h.ti,h.tps⟩
def oC (p:OpP) (b:Nat) (es:List AV):List (Nat×AO):=[(5,.opq p),(20,.ctb 984 (lq 987) []),(21,.ctb 989 (lq 994) []),(30,.bx b []),(31,.lst es)]
theorem uG (i:Nat):hG (fiA 1015) [.obj i,.obj 30,.obj 31]=some [(dnN,.obj 31),(dnB,.obj 30),(dnW,.obj i)]:=by kernel_rfl
theorem xB (i:Nat):b9 (fiA 1015).scope.names [(dnN,.obj 31),(dnB,.obj 30),(dnW,.obj i)]=[(dnN,.obj 31),(dnB,.obj 30),(dnW,.obj i)]:=by kernel_rfl
theorem BC:dD (fiA 1015).scope.names=true:=by kernel_rfl
theorem pD:aa tbT.fns 1015=some (fiA 1015):=by kernel_rfl
theorem uH (i:Nat):aw [(dnN,AV.obj 31),(dnB,.obj 30),(dnW,.obj i)] dnW=some (.obj i)/\aw [(dnN,AV.obj 31),(dnB,.obj 30),(dnW,.obj i)] dnB=some (.obj 30)/\aw [(dnN,AV.obj 31),(dnB,.obj 30),(dnW,.obj i)] dnN=some (.obj 31):=⟨by kernel_rfl,by kernel_rfl,by kernel_rfl⟩
noncomputable def obs (n:Nat):List AV:=(List.range n).map fun i=>.obj (50+i)
def fQ:AF:=⟨(fiA 1015).scope,[(dnN,.obj 31),(dnB,.obj 30),(dnW,.obj 0)],[],none,none⟩
def sP (b n i k:Nat):ST:=⟨[(30,.bx b [(n,.int (.ofNat i)),(6,.int (.ofNat k))]),(31,.lst (obs n))],100⟩
def FS (b n i k:Nat):RS:=(ev ez 200).bl ((fiA 1015).body.take 2) fQ (sP b n i k)
structure PO where
 ok:Bool
 l:List (Option AV)
 bx:Option AO
 ls:Option AO
def Ib (r:RS):AF:=@R.rec _ (fun zz=>AF) (fun q zz=>q.2) fQ r
def Ic (r:RS):PO:=⟨okB r fun q=>cf q.1,[dnW,dnB,dnN,dnY,dn1].map (aw (Ib r).loc),aa (bN r).os 30,aa (aL (bN r).os 30) 31⟩
def FT (b n i k:Nat):PO:=⟨true,[some (.obj 0),some (.obj 30),some (.obj 31),some (.int (.ofNat k)),some (.obj (50+i))],some (.bx (b+2) []),some (.lst (obs n))⟩
theorem BD (b:Nat):[2,3,4].map (fun n=>(List.range n).map fun i=>(List.range 6).map fun k=>Ic (FS b n i k))=[2,3,4].map fun n=>(List.range n).map fun i=>(List.range 6).map fun k=>FT b n i k:=by kernel_rfl
theorem uI:(fiA 1015).body=(fiA 1015).body.take 2++ij:=(List.take_append_drop 2 _).symm
theorem Ie {b n i k:Nat}(hn:n∈[2,3,4])(hi:i < n)(hk:k < 6):∃q σ,FS b n i k=.ok q σ/\cf q.1=true/\aw q.2.loc dnW=some (.obj 0)/\aw q.2.loc dnB=some (.obj 30)/\aw q.2.loc dnN=some (.obj 31)/\aw q.2.loc dnY=some (.int (.ofNat k))/\aw q.2.loc dn1=some (.obj (50+i))/\
  aa σ.os 30=some (.bx (b+2) [])/\aa (aL σ.os 30) 31=some (.lst (obs n)):=by
 have h:=aq (aq (aq (BD b) n hn) i (eo hi)) k (eo hk);injection h with h1 h2 h3 h4
 refine aI (jw h1) fun q σ e hq=>?_;rw[e]at h2 h3 h4;injection h2 with g1 h2
 injection h2 with g2 h2
 injection h2 with g3 h2
 injection h2 with g4 h2
 injection h2 with g5 h2
 exact ⟨q,σ,e,hq,g1,g2,g3,g4,g5,h3,h4⟩
noncomputable def qF (vs:List Value)(i:Nat):Option Addr:=match vs[i]? with
 |some (.ref a)=>some a
 |_=>none
def vlP (x0 xb xl:Addr) (vs:List Value):Vl:=⟨fun c=>if c=0 then some x0 else if c=30 then some xb else if c=31 then some xl else if 50<=c/\c < 60 then qF vs (c - 50) else none,fun zz=>none,fun zz=>1,fun zz=>none⟩
theorem FU {x0 xb xl:Addr}{vs:List Value}:Vx (vlP x0 xb xl vs) 100:=⟨fun i hi=>⟨by show (if i=0 then _ else _)=none;rw[if_neg (by lia),if_neg (by lia),if_neg (by lia),if_neg (by lia)],rfl,rfl⟩,⟨fun zz zz=>Int.le_refl _,fun zz zz=>⟨by show (-1:Int)<=1;decide,by show (1:Int) < 5;decide⟩,fun zz zz zz=>Int.le_refl _⟩,fun zz zz h=>ag h⟩
theorem mL {V':Vl}:∀{n k:Nat} {vs:List Value},vs.length=n->(∀i,i < n->∃a,vs[i]? = some (.ref a)/\V'.ρ (50+(k+i))=some a)->Dens V' ((List.range' k n).map fun i=>.obj (50+i)) vs
 |0,_,[],_,_=>trivial
 |n+1,k,v::vs,hl,h=>by
  refine aj (h 0 (Nat.succ_pos n)) fun a h1 h2=>?_;refine ⟨⟨a,h2,soo h1⟩,mL (n:=n) (k:=k+1) (Nat.succ.inj hl) fun i hi=>?_⟩;refine aj (h (i+1) (Nat.succ_lt_succ hi)) fun a' h3 h4=>?_;exact ⟨a',h3,by rw[Nat.add_assoc,Nat.add_comm 1];exact h4⟩
theorem iO {V:Vl}:∀{es:List AV} {vs:List Value},Dens V es vs->∀{i:Nat} {e:AV},es[i]? = some e->∃v,vs[i]? = some v/\Den V e v
 |_::_,_::_,d,0,_,h=>by obtain rfl:=soo h;exact ⟨_,rfl,d.1⟩
 |_::_,_::_,d,i+1,_,h=>iO d.2 (i:=i) h
 |[],[],_,i,e,h=>by rw[List.getElem?_nil]at h;exact ag h
 |[],_::_,d,_,_,_|_::_,[],d,_,_,_=>d.elim
def uJ:Prop:=∀(pre:List Value) (b:Nat) (sh:Sh),sh∈shT->(sh.s=2->sh.n<=13)->∀wy,wy < 6->(wy < 3->Ev pre b (b+2) sh wy [])/\(wy=3->∀i,i < 2->Ev pre b (b+2) sh wy (dgS i))/\(3 < wy->∀i,i < 4->Ev pre b (b+2) sh wy (dgT i))
section
variable {w:World}{V W:Vl}{fl:FL}{tl news:L2}{p:OpP}{b:Nat}{es:List AV}{more:List (Nat×AO)}
structure OcK (w:World) (V:Vl) (fl:FL) (tl:L2) (p:OpP) (b:Nat) (es:List AV) (more:List (Nat×AO)) (news lw l20 l21 lb ll nm:L2):Prop where
 eq:news=lw++(l20++(l21++(lb++(ll++nm))))
 pi:Is w V fl 5 (.opq p) lw
 c20:Is w V fl 20 (.ctb 984 (lq 987) []) l20
 c21:Is w V fl 21 (.ctb 989 (lq 994) []) l21
 bx:Is w V fl 30 (.bx b []) lb
 ls:Is w V fl 31 (.lst es) ll
 mr:Led w V fl tl more nm
theorem Ig (D:Led w V fl tl (oC p b es++more) news){G:Prop}(Kk:∀lw l20 l21 lb ll nm,OcK w V fl tl p b es more news lw l20 l21 lb ll nm->G):G:=by
 refine D.inv fun lw n1 e1 a1 D=>D.inv fun l20 n2 e2 a2 D=>D.inv fun l21 n3 e3 a3 D=>D.inv fun lb n4 e4 a4 D=>D.inv fun ll n5 e5 a5 D=>?_;exact Kk lw l20 l21 lb ll n5 ⟨by rw[e1,e2,e3,e4,e5],a1,a2,a3,a4,a5,D⟩
end
section
variable {w:World}{V:Vl}{lw:L2}{p:OpP}
theorem ly (h:Is w V tbL.flds 5 (.opq p) lw){x0:Addr}(hx:V.ρ p.wi=some x0):p.t<=12/\∃as V0 wl pool r,PiL w (some x0) p.t as lw V0 wl pool r/\∀j∈p.js,∃a∈as,V.ρ j=some a:=by
 obtain ⟨ht,V0,wl,pool,r,as,P⟩:piL w V p lw:=h V (.refl V);exact ⟨ht,as,V0,wl,pool,r,⟨P.pm,P.wd,P.num,P.z,P.ρ.symm.trans hx,P.gs⟩,P.js⟩
theorem gS {x0:Addr}{as:List Addr}{V0:Vl}{wl pool r:L2}(P:PiL w (some x0) p.t as lw V0 wl pool r)(hx:V.ρ p.wi=some x0)(hj:∀j∈p.js,∃a∈as,V.ρ j=some a)(ht:p.t<=12):Is w V tbL.flds 5 (.opq p) lw:=
 fun W le=>⟨ht,V0,wl,pool,r,as,P.pm,P.wd,P.num,P.z,(le.ρ _ _ hx).trans P.ρ.symm,P.gs,fun j hm=>(hj j hm).imp fun a h=>⟨h.1,le.ρ _ _ h.2⟩⟩
end
noncomputable def Vl.at_ (V:Vl)(i:Nat)(a:Addr):Vl:={ V with ρ:=fun k=>if k=i then some a else V.ρ k }
theorem Vl.at_le {V:Vl}{i:Nat}{a:Addr}(h:V.ρ i=none):V.le (V.at_ i a):=⟨fun k x hk=>by
 show (if k=i then some a else V.ρ k)=some x;rw[if_neg (fun e=>by rw[e,h]at hk;exact ag hk)];exact hk,fun zz zz h=>h,rfl,fun zz zz h=>h⟩
theorem Vx.at_ {V:Vl}{n:Nat}{a:Addr}(v:Vx V n):Vx (V.at_ n a) (n+1):=⟨fun k hk=>by
 refine bU (v.fresh k (Nat.le_of_succ_le hk)) fun h1 h2 h3=>?_;exact ⟨by show (if k=n then some a else V.ρ k)=none;rw[if_neg (by lia)];exact h1,h2,h3⟩,v.num,v.txt⟩
section
variable {d:Dx}{V:Vl}{fr:AF}{s:Shared}
theorem qG {p:OpP}{b b' nx:Nat}{es:List AV}{more:List (Nat×AO)}(ht:d.tb=tbL)(a:At d V fr ⟨oC p b es++more,nx⟩ s){m:Str->Option Value}{news:L2}(X:Sx d V fr (oC p b es++more) s.heap m news)
  {x0 xb xl:Addr} {vs:List Value} {as:List Addr} {lw l20 l21 lb ll nm news0:L2} (k:OcK d.w V d.tb.flds d.tl p b es more news0 lw l20 l21 lb ll nm) (h0:V.ρ p.wi=some x0) (hB:V.ρ 30=some xb) (hL:V.ρ 31=some xl) (hd:Dens V es vs)
  (htt:p.t<=11) (hes:∀e∈es,∃j∈p.js,e=AV.obj j) (hjs:∀j∈p.js,∃a∈as,V.ρ j=some a)
  {h:Heap} {tk:Nat} {news':L2} {ap as':List Addr} {lw' l20' l21' lb' ll':L2} (F:Fr d.h₀ d.f.L h m) (N:News d.h₀ d.f.L h news') (nd:(news'.map (·.1)).Nodup) (D:mI d.w (some x0) (p.t+1) b' xb xl vs as nm news' ap as' lw' l20' l21' lb' ll') {G:Prop} (Kk:∀V' p' es' nx',V.le V'->p'.wi=p.wi->p'.t=p.t+1->((es'=es\/∃j,es'=es++[.obj j]))->(∀e∈es',∃j∈p'.js,e=AV.obj j)->nx<=nx'->At d V' fr ⟨oC p' b' es'++more,nx'⟩ (Shared.to s h tk)->G):G:=by
 refine jE D.pi fun V2 wl pool r P=>?_;have pm:(lw'++(l20'++(l21'++(lb'++(ll'++nm))))).Perm news':=kg fun y=>by
  have:=D.pm y;simp only[aJ];lia
 have fin:∀{V':Vl} {p':OpP} {es':List AV} {nx':Nat},V.le V'->Vx V' nx'->Is d.w V' d.tb.flds 5 (.opq p') lw'->Is d.w V' d.tb.flds 31 (.lst es') ll'->At d V' fr ⟨oC p' b' es'++more,nx'⟩ (Shared.to s h tk):=fun le v i1 i2=>
  a.put (σ₁:=⟨oC _ b' _++more,_⟩) (news':=lw'++(l20'++(l21'++(lb'++(ll'++nm))))) le X F (fun z hz=>N z (pm.mem_iff.mp hz)) (.cons i1 (.cons (D.c20 _ _) (.cons (D.c21 _ _) (.cons (D.bx _ _ _ (le.ρ _ _ hB)) (.cons i2 (k.mr.mono le)))))) (aW pm nd) v
 have old:∀{V':Vl},V.le V'->∀j∈p.js,∃a∈as',V'.ρ j=some a:=fun le j hj=>let ⟨a,h1,h2⟩:=hjs j hj;⟨a,D.sub a h1,le.ρ _ _ h2⟩;rw[ht]at fin
 match hap:ap with
 |[]=>
  have i2:=D.ls V tbL.flds 31 es [] hL hd trivial;rw[List.append_nil]at i2;exact Kk V ⟨p.wi,p.js,p.t+1⟩ es nx (.refl V) rfl rfl (.inl rfl) hes (aP _) (fin (.refl V) a.v (gS (p:=⟨p.wi,p.js,p.t+1⟩) P h0 (old (.refl V)) (Nat.succ_le_succ htt)) i2)
 |[a2]=>
  have hf:=(a.v.fresh nx (aP nx)).1;have le:V.le (V.at_ nx a2):=Vl.at_le hf;have e2:(V.at_ nx a2).ρ nx=some a2:=if_pos rfl;refine Kk (V.at_ nx a2) ⟨p.wi,nx::p.js,p.t+1⟩ (es++[.obj nx]) (nx+1) le rfl rfl (.inr ⟨nx,rfl⟩) (fun e he=>?_) (er nx) (fin le a.v.at_ (gS (p:=⟨p.wi,nx::p.js,p.t+1⟩) P (le.ρ _ _ h0) (fun j hj=>?_) (Nat.succ_le_succ htt)) (D.ls _ tbL.flds 31 es [.obj nx] (le.ρ _ _ hL) (hd.mono le) ⟨⟨a2,e2,rfl⟩,trivial⟩))
  ·rcases bn he with he|he
   ·refine aj (hes e he) fun j h1 h2=>?_;exact ⟨j,.tail _ h1,h2⟩
   ·exact ⟨nx,.head _,bg he⟩
  ·rcases aG hj with rfl|hj
   ·exact ⟨a2,D.am a2 (.head _),e2⟩
   ·exact old le j hj
 |_::_::_=>exact absurd D.al (by simp only[List.length_cons];lia)
end
theorem qH (EV:uJ){w:World}{W:Vl}{b wy:Nat}{lb:L2}{xb:Addr}{vs:List Value}(ib:Is w W tbT.flds 30 (.bx (b+2) []) lb)(hx:W.ρ 30=some xb)(hb:b+4<=64)(hw:wy < 6) :
  ∃ds dj,dj < 5/\(∀V':Vl,V'.ρ 30=some xb->V'.ι 1200=(dj:Nat)->Is w V' tbT.flds 30 (.bx (b+2) ds) lb)/\∀sh∈shT,(sh.s=2->sh.n<=13)->Ev vs (b+2) (b+4) sh wy ds:=by
 have uv:∀{V':Vl} {dj:Nat},V'.ι 1200=(dj:Nat)->∀t,Den V' (.uv 1200) (.int (dj:Nat) t):=fun {V' dj} e t=>⟨by lia,.inr ⟨by rw[e];lia,t,by rw[e]⟩⟩
 rcases Nat.lt_or_ge wy 3 with h|h
 ·exact ⟨[],0,by decide,fun V' e zz=>fh ib (aP _) (e.trans hx.symm),fun sh h1 h2=>(EV vs (b+2) sh h1 h2 wy hw).1 h⟩
 rcases Nat.eq_or_lt_of_le h with h|h
 ·refine aR (li ib (by lia) (m1:=2) (m2:=5) (by decide) (by decide)) fun d1 d2 h1 h2 h3=>?_;exact ⟨dgS d1,d2,h2,fun V' e e2=>h3 (e.trans hx.symm) (uv e2),fun sh q1 q2=>(EV vs (b+2) sh q1 q2 wy hw).2.1 h.symm d1 h1⟩
 ·refine aR (li ib (by lia) (m1:=4) (m2:=5) (by decide) (by decide)) fun d1 d2 h1 h2 h3=>?_;exact ⟨dgT d1,d2,h2,fun V' e e2=>h3 (e.trans hx.symm) (uv e2),fun sh q1 q2=>(EV vs (b+2) sh q1 q2 wy hw).2.2 h d1 h1⟩
theorem jy {n:Nat}(h:n∈[2,3,4]):2<=n/\n<=4:=by
 simp only[List.mem_cons,List.not_mem_nil,or_false]at h;lia
theorem Den.refk {V:Vl}{i:Nat}{u:Value}(h:Den V (.obj i) u):∃x,V.ρ i=some x/\u=.ref x:=h
section
variable {d:Dx}{V:Vl}{fr:AF}{s:Shared}
theorem qI (EV:uJ){p:OpP}{b nx:Nat}{es:List AV}{more:List (Nat×AO)}(hO:d.outer=[])(ht:d.tb=tbL)(hfr:d.f.env.frame=some d.f.L)(XB:d.K.In d.base)(TB:Top d.p d.loose d.mean d.mg d.mb d.base)(rm:Room d.A 201)(a:At d V fr ⟨oC p b es++more,nx⟩ s)
  (hn:es.length∈[2,3,4]) (hes:∀e∈es,∃j∈p.js,e=AV.obj j) (hb:b+4<=64) (htt:p.t<=11) {us:List Value} (dv:Dens V [.obj p.wi,.obj 30,.obj 31] us) {R:Result->Shared->Prop}
  (K:∀h tk V' p' es' nx',V.le V'->p'.wi=p.wi->p'.t=p.t+1->(es'=es\/∃j,es'=es++[.obj j])->(∀e∈es',∃j∈p'.js,e=AV.obj j)->nx<=nx'->At d V' fr ⟨oC p' (b+4) es'++more,nx'⟩ (Shared.to s h tk)->R (.ok (.ret (.bool true))) (Shared.to s h tk)) :
  codeAny d.M d.A (.call (.ref 1015) ⟨us,[]⟩) R s:=by
 refine a.stK fun m news X=>?_;refine bZ dv.i3 fun u1 u2 u3 z'3 du1 du2 du3=>?_;obtain rfl:=z'3;refine aj du1.refk fun x0 h0 z'2=>?_;obtain rfl:=z'2;refine aj du2.refk fun xb hB z'2=>?_;obtain rfl:=z'2;refine aj du3.refk fun xl hL z'2=>?_;obtain rfl:=z'2;have OL:dB d.w d.K tbL:=ht▸a.c.O;have O:dB d.w d.K tbT:=tbk _ _ OL;refine FM hO (ht▸pD) (uG p.wi) BC (vs:=[.obj p.wi,.obj 30,.obj 31]) ⟨⟨x0,h0,rfl⟩,⟨xb,hB,rfl⟩,⟨xl,hL,rfl⟩,trivial⟩ rm a X hfr fun f' g' h₁ tk₁ hcl hcm rm' Dk hfm a₁=>?_;rw[xB]at a₁;refine a₁.stK fun m₁ news₁ X₁=>?_;refine Ig X₁.D fun lw l20 l21 lb ll nm k=>?_;have ke:=k.eq;subst ke;have hfl:d.tb.flds=tbL.flds:=by rw[ht]
 obtain ⟨_,as,V0,wl,pool,r,P,hjs⟩:=ly (hfl▸k.pi) h0;have h24:=jy hn;have hlen:es.length<=100:=ba h24.2 (by decide);have hpos:0 < es.length:=iR (by decide) h24.1;have hl10:es.length < 10:=jP h24.2 (by decide);refine aR (uC k.ls hlen) fun x vs hx hd hls=>?_;obtain rfl:=soo (hL.symm.trans hx);refine aR (li k.bx (by lia) (m1:=es.length) (m2:=6) hpos (by decide)) fun d1 d2 hd1 hd2 hdig=>?_;have hvl:=hd.length;have hnote:∀i,i < es.length->∃a j,es[i]? = some (.obj j)/\j∈p.js/\vs[i]? = some (.ref a)/\V.ρ j=some a:=fun i hi=>by
  refine aj (hes _ (List.getElem_mem hi)) fun j h1 h2=>?_;have h3:es[i]? = some (.obj j):=by rw[List.getElem?_eq_getElem hi,h2]
  refine aj (iO hd h3) fun v h4 h5=>?_;refine aj h5.refk fun a h6 z'2=>?_;obtain rfl:=z'2;exact ⟨a,j,h3,h1,h4,h6⟩
 have hvP:∀i,i < es.length->∃a,vs[i]? = some (.ref a)/\(vlP x0 xb xl vs).ρ (50+(0+i))=some a:=fun i hi=>by
  refine bt (hnote i hi) fun a j zy zy h3 zy=>?_;refine ⟨a,h3,?_⟩;show (if 50+(0+i)=0 then some x0 else if 50+(0+i)=30 then some xb else if 50+(0+i)=31 then some xl else if 50<=50+(0+i)/\50+(0+i) < 60 then qF vs (50+(0+i) - 50) else none)=some a;rw[if_neg (by lia),if_neg (by lia),if_neg (by lia),if_pos (by lia),show 50+(0+i) - 50=i by lia];unfold qF;rw[h3]
 have dob:Dens (vlP x0 xb xl vs) (obs es.length) vs:=by
  unfold obs;rw[List.range_eq_range'];exact mL hvl hvP
 have ib:Is d.w (vlP x0 xb xl vs) tbT.flds 30 (.bx b [(es.length,.int (.ofNat d1)),(6,.int (.ofNat d2))]) lb:=hdig (show (some xb:Option Addr)=V.ρ 30 from hB.symm) fun t=>⟨t,rfl⟩
 have il:Is d.w (vlP x0 xb xl vs) tbT.flds 31 (.lst (obs es.length)) ll:=by
  have:=uD (es:=es) (fl':=tbT.flds) (V':=vlP x0 xb xl vs) (j:=31) (fs:=obs es.length) (hls (W:=V) (fl':=tbT.flds) (j:=31) hL) (hL.symm) fun us hu=>by
   induction us using aV with
   |nil=>rw[List.append_nil];exact dob
   |cons=>exact hu.elim
  exact this
 have pm0:∀y,cnt y (lb++(ll++(lw++(l20++(l21++nm)))))=cnt y (lw++(l20++(l21++(lb++(ll++nm))))):=fun y=>by
  simp only[aJ];lia
 have a₂:At { d.call f' g' with tb:=tbT,tl:=lw++(l20++(l21++nm)) } (vlP x0 xb xl vs) fQ (sP b es.length d1 d2) (Shared.to s h₁ tk₁):=
  a₁.re X₁ O (.cons ib (.cons il .nil)) (ck fun y=>Nat.le_of_eq (pm0 y)) (dF (fun y=>Nat.le_of_eq (pm0 y)) X₁.nd) FU ⟨by show MdOk _ f'.cm none;rw[hcm];trivial,trivial,a₁.l.sc,fun x i h=>ag h⟩ fun x v h=>by
   have hm:=aU h;change (x,v)∈[(dnN,AV.obj 31),(dnB,.obj 30),(dnW,.obj 0)]at hm;refine bU (uH p.wi) fun g1 g2 g3=>?_;rcases aG hm with e|hm
   ·refine ay (bo e) fun z'0 z'1=>?_;obtain rfl:=z'0;obtain rfl:=z'1;refine aj (X₁.lc _ _ g3) fun u q1 q2=>?_;refine aj q2.refk fun y q3 z'2=>?_;obtain rfl:=z'2;exact ⟨_,q1,y,hL.symm.trans q3,rfl⟩
   rcases aG hm with e|hm
   ·refine ay (bo e) fun z'0 z'1=>?_;obtain rfl:=z'0;obtain rfl:=z'1;refine aj (X₁.lc _ _ g2) fun u q1 q2=>?_;refine aj q2.refk fun y q3 z'2=>?_;obtain rfl:=z'2;exact ⟨_,q1,y,hB.symm.trans q3,rfl⟩
   rcases aG hm with e|hm
   ·refine ay (bo e) fun z'0 z'1=>?_;obtain rfl:=z'0;obtain rfl:=z'1;refine aj (X₁.lc _ _ g1) fun u q1 q2=>?_;refine aj q2.refk fun y q3 z'2=>?_;obtain rfl:=z'2;exact ⟨_,q1,y,h0.symm.trans q3,rfl⟩
   ·exact absurd hm bI
 obtain ⟨q,σ₃,hr,hq,k1,k2,k3,k4,k5,k6,k7⟩:=Ie (b:=b) hn hd1 hd2;rw[uI];refine c0 (d:={ d.call f' g' with tb:=tbT,tl:=lw++(l20++(l21++nm)) }) sS3 hr hq rfl (rm'.mono (by decide)) a₂ fun h₂ tk₂ W le a₃=>?_;refine a₃.stK fun m₂ news₂ X₂=>?_;refine aR (X₂.D.out k6) fun lb' n1 p1 ib' D1=>?_;refine aR (D1.out k7) fun ll' n2 p2 il' D2=>?_;refine aj D2.untl fun n3 z'1 zy=>?_;obtain rfl:=z'1;refine bt (hnote d1 hd1) fun an j hj1 hj2 hj3 hj4=>?_;have hBW:W.ρ 30=some xb:=le.ρ 30 xb rfl;have hLW:W.ρ 31=some xl:=le.ρ 31 xl rfl;refine aR (qH EV (vs:=vs) ib' hBW hb hd2) fun ds dj hdj hib hev=>?_;refine aR (uC il' (show (obs es.length).length<=100 by unfold obs;rw[List.length_map,List.length_range];exact hlen)) fun y vs2 hy hd2' hls2=>?_;obtain rfl:=soo (hLW.symm.trans hy);have key:∀{x:Str} {i:Nat} {y:Addr},aw q.2.loc x=some (.obj i)->W.ρ i=some y->m₂ x=some (.ref y):=fun h1 h2=>by
  refine aj (X₂.lc _ _ h1) fun u q1 q2=>?_;refine aj q2.refk fun z q3 z'2=>?_;obtain rfl:=z'2;rw[q1,soo (h2.symm.trans q3)]
 have evs2:vs2=vs:=by
  have e1:=hd2'.length;rw[show (obs es.length).length=es.length by unfold obs;rw[List.length_map,List.length_range]]at e1;refine List.ext_getElem? fun i=>?_;rcases Nat.lt_or_ge i es.length with hi|hi
  ·refine aj (hvP i hi) fun a h1 h2=>?_;have h3:(obs es.length)[i]? = some (.obj (50+i)):=by unfold obs;rw[List.getElem?_map,List.getElem?_range hi];rfl
   refine aj (iO hd2' h3) fun v h4 h5=>?_;refine aj h5.refk fun z h6 z'2=>?_;obtain rfl:=z'2;rw[Nat.zero_add]at h2;rw[h4,h1,soo (h6.symm.trans (le.ρ _ _ h2))]
  ·rw[List.getElem?_eq_none (by lia),List.getElem?_eq_none (by lia)]
 subst evs2;refine aj (hvP d1 hd1) fun ah ha1 ha2=>?_;obtain rfl:an=ah:=by injection soo (hj3.symm.trans ha1)
 rw[Nat.zero_add]at ha2;refine aj (hjs j hj2) fun al hal1 hal2=>?_;obtain rfl:=soo (hj4.symm.trans hal2);obtain ⟨ut,hut,tt,rfl⟩ :∃ut,m₂ dnY=some ut/\∃t,ut=.int (.ofNat d2) t:=X₂.lc _ _ k4;refine qE (d:={ d.call f' g' with tb:=tbT,tl:=lw++(l20++(l21++nm)) }) (nm:=nm) a₃ X₂ O ⟨hcl,hcm,XB,TB,Dk⟩ (a₃.l.sc.trans a₁.l.sc.symm) rm'
  ⟨key k1 (le.ρ 0 x0 rfl),key k2 hBW,key k3 hLW,⟨tt,hut⟩,key k5 (le.ρ _ _ ha2),⟨V0,wl,pool,r,P⟩,hal1,htt,hdj,⟨_,_,_,k.c20⟩,⟨_,_,_,k.c21⟩,hib,fun V' e=>hls2 e,fun y=>?_⟩ hev
  fun h₃ tk₃ g₃ m₃ news₃ ap as' lw' l20' l21' lb'' ll'' T F₃ N₃ nd₃ DR=>?_
 ·have c1:=aS p1 y;have c2:=aS p2 y;simp only[aJ]at c1 c2;lia
 ·refine ⟨g₃,f'.L,m₃,news₃,hfm▸T,F₃,N₃,fun Fk Nk=>?_⟩;refine qG (s:=s) (tk:=tk₃) ht a X k h0 hB hL hd htt hes hjs Fk Nk nd₃ DR fun V' p' es' nx' q1 q2 q3 q4 q5 q6 q7=>?_;exact K h₃ tk₃ V' p' es' nx' q1 q2 q3 q4 q5 q6 q7
end
noncomputable def dG:List Sh:=shT.take 3
noncomputable def dH:List Sh:=(shT.drop 3).take 3
noncomputable def sh6:List Sh:=(shT.drop 6).take 3
def shZ (b:Bool):List Sh:=(shF b).take 1
theorem Ih (pre:List Value)(b:Nat):(shZ true).map (fun sh=>dIn (aT pre b sh 0 []) sh (mH sh))=(shZ true).map fun sh=>⟨true,some (.bx b []),some (.lsu pre [])⟩:=by kernel_rfl
theorem Ii (pre:List Value)(b:Nat):(((shF true).drop 1).take 17).map (fun sh=>dIn (aT pre b sh 0 []) sh (mH sh))=(((shF true).drop 1).take 17).map fun sh=>⟨true,some (.bx b []),some (.lsu pre [])⟩:=by kernel_rfl
theorem Ij (pre:List Value)(b:Nat):((shF true).drop 19).map (fun sh=>dIn (aT pre b sh 0 []) sh (mH sh))=((shF true).drop 19).map fun sh=>⟨true,some (.bx b []),some (.lsu pre [])⟩:=by kernel_rfl
theorem Ik (pre:List Value)(b:Nat):((shF false).take 18).map (fun sh=>dIn (aT pre b sh 0 []) sh (mH sh))=((shF false).take 18).map fun sh=>⟨true,some (.bx b []),some (.lsu pre [])⟩:=by kernel_rfl
theorem Il (pre:List Value)(b:Nat):((shF false).drop 19).map (fun sh=>dIn (aT pre b sh 0 []) sh (mH sh))=((shF false).drop 19).map fun sh=>⟨true,some (.bx b []),some (.lsu pre [])⟩:=by kernel_rfl
theorem Im (pre:List Value)(b:Nat):(dG).map (fun sh=>dIn (aT pre b sh 0 []) sh (mH sh))=(dG).map fun sh=>⟨true,some (.bx b []),some (.lsu pre [])⟩:=by kernel_rfl
theorem Io (pre:List Value)(b:Nat):(dH).map (fun sh=>dIn (aT pre b sh 0 []) sh (mH sh))=(dH).map fun sh=>⟨true,some (.bx b []),some (.lsu pre [])⟩:=by kernel_rfl
theorem Ip (pre:List Value)(b:Nat):(sh6).map (fun sh=>dIn (aT pre b sh 0 []) sh (mH sh))=(sh6).map fun sh=>⟨true,some (.bx b []),some (.lsu pre [])⟩:=by kernel_rfl
theorem FV (pre:List Value)(b:Nat):(shZ true).map (fun sh=>dCp (aT pre b sh 1 []) sh (nQ sh))=(shZ true).map fun sh=>⟨true,some (.bx b []),some (.lsu pre [.obj (kOf (bN (aT pre b sh 1 [])))])⟩:=by kernel_rfl
theorem FW (pre:List Value)(b:Nat):(((shF true).drop 1).take 17).map (fun sh=>dCp (aT pre b sh 1 []) sh (nQ sh))=(((shF true).drop 1).take 17).map fun sh=>⟨true,some (.bx b []),some (.lsu pre [.obj (kOf (bN (aT pre b sh 1 [])))])⟩:=by kernel_rfl
theorem FX (pre:List Value)(b:Nat):((shF true).drop 19).map (fun sh=>dCp (aT pre b sh 1 []) sh (nQ sh))=((shF true).drop 19).map fun sh=>⟨true,some (.bx b []),some (.lsu pre [.obj (kOf (bN (aT pre b sh 1 [])))])⟩:=by kernel_rfl
theorem FY (pre:List Value)(b:Nat):((shF false).take 18).map (fun sh=>dCp (aT pre b sh 1 []) sh (nQ sh))=((shF false).take 18).map fun sh=>⟨true,some (.bx b []),some (.lsu pre [.obj (kOf (bN (aT pre b sh 1 [])))])⟩:=by kernel_rfl
theorem FZ (pre:List Value)(b:Nat):((shF false).drop 19).map (fun sh=>dCp (aT pre b sh 1 []) sh (nQ sh))=((shF false).drop 19).map fun sh=>⟨true,some (.bx b []),some (.lsu pre [.obj (kOf (bN (aT pre b sh 1 [])))])⟩:=by kernel_rfl
theorem F0 (pre:List Value)(b:Nat):(dG).map (fun sh=>dCp (aT pre b sh 1 []) sh (nQ sh))=(dG).map fun sh=>⟨true,some (.bx b []),some (.lsu pre [.obj (kOf (bN (aT pre b sh 1 [])))])⟩:=by kernel_rfl
theorem F4 (pre:List Value)(b:Nat):(dH).map (fun sh=>dCp (aT pre b sh 1 []) sh (nQ sh))=(dH).map fun sh=>⟨true,some (.bx b []),some (.lsu pre [.obj (kOf (bN (aT pre b sh 1 [])))])⟩:=by kernel_rfl
theorem F5 (pre:List Value)(b:Nat):(sh6).map (fun sh=>dIn (aT pre b sh 1 []) sh sh)=(sh6).map fun sh=>⟨true,some (.bx b []),some (.lsu pre [.obj 40])⟩:=by kernel_rfl
theorem F6 (pre:List Value)(b:Nat):(shZ true).map (fun sh=>dCp (aT pre b sh 2 []) sh sh)=(shZ true).map fun sh=>⟨true,some (.bx b []),some (.lsu pre [.obj (kOf (bN (aT pre b sh 2 [])))])⟩:=by kernel_rfl
theorem F7 (pre:List Value)(b:Nat):(((shF true).drop 1).take 17).map (fun sh=>dCp (aT pre b sh 2 []) sh sh)=(((shF true).drop 1).take 17).map fun sh=>⟨true,some (.bx b []),some (.lsu pre [.obj (kOf (bN (aT pre b sh 2 [])))])⟩:=by kernel_rfl
theorem F8 (pre:List Value)(b:Nat):((shF true).drop 19).map (fun sh=>dCp (aT pre b sh 2 []) sh sh)=((shF true).drop 19).map fun sh=>⟨true,some (.bx b []),some (.lsu pre [.obj (kOf (bN (aT pre b sh 2 [])))])⟩:=by kernel_rfl
theorem F9 (pre:List Value)(b:Nat):((shF false).take 18).map (fun sh=>dCp (aT pre b sh 2 []) sh sh)=((shF false).take 18).map fun sh=>⟨true,some (.bx b []),some (.lsu pre [.obj (kOf (bN (aT pre b sh 2 [])))])⟩:=by kernel_rfl
theorem Ga (pre:List Value)(b:Nat):((shF false).drop 19).map (fun sh=>dCp (aT pre b sh 2 []) sh sh)=((shF false).drop 19).map fun sh=>⟨true,some (.bx b []),some (.lsu pre [.obj (kOf (bN (aT pre b sh 2 [])))])⟩:=by kernel_rfl
theorem Gb (pre:List Value)(b:Nat):(dG).map (fun sh=>dCp (aT pre b sh 2 []) sh sh)=(dG).map fun sh=>⟨true,some (.bx b []),some (.lsu pre [.obj (kOf (bN (aT pre b sh 2 [])))])⟩:=by kernel_rfl
theorem Gc (pre:List Value)(b:Nat):(dH).map (fun sh=>dCp (aT pre b sh 2 []) sh sh)=(dH).map fun sh=>⟨true,some (.bx b []),some (.lsu pre [.obj (kOf (bN (aT pre b sh 2 [])))])⟩:=by kernel_rfl
theorem Ge (pre:List Value)(b:Nat):(sh6).map (fun sh=>dIn (aT pre b sh 2 []) sh sh)=(sh6).map fun sh=>⟨true,some (.bx b []),some (.lsu pre [.obj 40])⟩:=by kernel_rfl
theorem BE (pre:List Value)(b:Nat):((shF false).take 18).map (fun sh=>dIn (aT pre b sh 3 (dgS 0)) sh sh)=((shF false).take 18).map fun sh=>⟨true,some (.bx (b+2) []),some (.lsu pre [])⟩:=by kernel_rfl
theorem BF (pre:List Value)(b:Nat):((shF false).take 18).map (fun sh=>dIn (aT pre b sh 3 (dgS 1)) sh sh)=((shF false).take 18).map fun sh=>⟨true,some (.bx (b+2) []),some (.lsu pre [])⟩:=by kernel_rfl
theorem BH (pre:List Value)(b:Nat):((shF false).drop 19).map (fun sh=>dIn (aT pre b sh 3 (dgS 0)) sh sh)=((shF false).drop 19).map fun sh=>⟨true,some (.bx (b+2) []),some (.lsu pre [])⟩:=by kernel_rfl
theorem BI (pre:List Value)(b:Nat):((shF false).drop 19).map (fun sh=>dIn (aT pre b sh 3 (dgS 1)) sh sh)=((shF false).drop 19).map fun sh=>⟨true,some (.bx (b+2) []),some (.lsu pre [])⟩:=by kernel_rfl
theorem BJ (pre:List Value)(b:Nat):(dH).map (fun sh=>dIn (aT pre b sh 3 (dgS 0)) sh sh)=(dH).map fun sh=>⟨true,some (.bx (b+2) []),some (.lsu pre [])⟩:=by kernel_rfl
theorem BK (pre:List Value)(b:Nat):(dH).map (fun sh=>dIn (aT pre b sh 3 (dgS 1)) sh sh)=(dH).map fun sh=>⟨true,some (.bx (b+2) []),some (.lsu pre [])⟩:=by kernel_rfl
theorem BM (pre:List Value)(b:Nat):(shZ true).map (fun sh=>dNo (eg pre b sh 3 (dgS 0)) sh)=(shZ true).map fun sh=>⟨true,some (.bx (b+2) []),some (.lsu pre [])⟩:=by kernel_rfl
theorem BN (pre:List Value)(b:Nat):(shZ true).map (fun sh=>dNo (eg pre b sh 3 (dgS 1)) sh)=(shZ true).map fun sh=>⟨true,some (.bx (b+2) []),some (.lsu pre [])⟩:=by kernel_rfl
theorem BO (pre:List Value)(b:Nat):(((shF true).drop 1).take 17).map (fun sh=>dNo (eg pre b sh 3 (dgS 0)) sh)=(((shF true).drop 1).take 17).map fun sh=>⟨true,some (.bx (b+2) []),some (.lsu pre [])⟩:=by kernel_rfl
theorem BQ (pre:List Value)(b:Nat):(((shF true).drop 1).take 17).map (fun sh=>dNo (eg pre b sh 3 (dgS 1)) sh)=(((shF true).drop 1).take 17).map fun sh=>⟨true,some (.bx (b+2) []),some (.lsu pre [])⟩:=by kernel_rfl
theorem BR (pre:List Value)(b:Nat):((shF true).drop 19).map (fun sh=>dNo (eg pre b sh 3 (dgS 0)) sh)=((shF true).drop 19).map fun sh=>⟨true,some (.bx (b+2) []),some (.lsu pre [])⟩:=by kernel_rfl
theorem BS (pre:List Value)(b:Nat):((shF true).drop 19).map (fun sh=>dNo (eg pre b sh 3 (dgS 1)) sh)=((shF true).drop 19).map fun sh=>⟨true,some (.bx (b+2) []),some (.lsu pre [])⟩:=by kernel_rfl
theorem BU (pre:List Value)(b:Nat):(dG).map (fun sh=>dNo (eg pre b sh 3 (dgS 0)) sh)=(dG).map fun sh=>⟨true,some (.bx (b+2) []),some (.lsu pre [])⟩:=by kernel_rfl
theorem BV (pre:List Value)(b:Nat):(dG).map (fun sh=>dNo (eg pre b sh 3 (dgS 1)) sh)=(dG).map fun sh=>⟨true,some (.bx (b+2) []),some (.lsu pre [])⟩:=by kernel_rfl
theorem BW (pre:List Value)(b:Nat):(sh6).map (fun sh=>dNo (eg pre b sh 3 (dgS 0)) sh)=(sh6).map fun sh=>⟨true,some (.bx (b+2) []),some (.lsu pre [])⟩:=by kernel_rfl
theorem BX (pre:List Value)(b:Nat):(sh6).map (fun sh=>dNo (eg pre b sh 3 (dgS 1)) sh)=(sh6).map fun sh=>⟨true,some (.bx (b+2) []),some (.lsu pre [])⟩:=by kernel_rfl
theorem BY (pre:List Value)(b:Nat):((shF false).take 18).map (fun sh=>dIn (aT pre b sh 4 (dgT 0)) sh (dM sh 0))=((shF false).take 18).map fun sh=>⟨true,some (.bx (b+2) []),some (.lsu pre [])⟩:=by kernel_rfl
theorem BZ (pre:List Value)(b:Nat):((shF false).take 18).map (fun sh=>dIn (aT pre b sh 4 (dgT 1)) sh (dM sh 1))=((shF false).take 18).map fun sh=>⟨true,some (.bx (b+2) []),some (.lsu pre [])⟩:=by kernel_rfl
theorem B0 (pre:List Value)(b:Nat):((shF false).take 18).map (fun sh=>dIn (aT pre b sh 4 (dgT 2)) sh (dM sh 2))=((shF false).take 18).map fun sh=>⟨true,some (.bx (b+2) []),some (.lsu pre [])⟩:=by kernel_rfl
theorem B1 (pre:List Value)(b:Nat):((shF false).take 18).map (fun sh=>dIn (aT pre b sh 4 (dgT 3)) sh (dM sh 3))=((shF false).take 18).map fun sh=>⟨true,some (.bx (b+2) []),some (.lsu pre [])⟩:=by kernel_rfl
theorem B2 (pre:List Value)(b:Nat):((shF false).drop 19).map (fun sh=>dIn (aT pre b sh 4 (dgT 0)) sh (dM sh 0))=((shF false).drop 19).map fun sh=>⟨true,some (.bx (b+2) []),some (.lsu pre [])⟩:=by kernel_rfl
theorem B3 (pre:List Value)(b:Nat):((shF false).drop 19).map (fun sh=>dIn (aT pre b sh 4 (dgT 1)) sh (dM sh 1))=((shF false).drop 19).map fun sh=>⟨true,some (.bx (b+2) []),some (.lsu pre [])⟩:=by kernel_rfl
theorem B4 (pre:List Value)(b:Nat):((shF false).drop 19).map (fun sh=>dIn (aT pre b sh 4 (dgT 2)) sh (dM sh 2))=((shF false).drop 19).map fun sh=>⟨true,some (.bx (b+2) []),some (.lsu pre [])⟩:=by kernel_rfl
theorem B5 (pre:List Value)(b:Nat):((shF false).drop 19).map (fun sh=>dIn (aT pre b sh 4 (dgT 3)) sh (dM sh 3))=((shF false).drop 19).map fun sh=>⟨true,some (.bx (b+2) []),some (.lsu pre [])⟩:=by kernel_rfl
theorem B6 (pre:List Value)(b:Nat):(dG).map (fun sh=>dIn (aT pre b sh 4 (dgT 0)) sh (dM sh 0))=(dG).map fun sh=>⟨true,some (.bx (b+2) []),some (.lsu pre [])⟩:=by kernel_rfl
theorem B7 (pre:List Value)(b:Nat):(dG).map (fun sh=>dIn (aT pre b sh 4 (dgT 1)) sh (dM sh 1))=(dG).map fun sh=>⟨true,some (.bx (b+2) []),some (.lsu pre [])⟩:=by kernel_rfl
theorem B8 (pre:List Value)(b:Nat):(dG).map (fun sh=>dIn (aT pre b sh 4 (dgT 2)) sh (dM sh 2))=(dG).map fun sh=>⟨true,some (.bx (b+2) []),some (.lsu pre [])⟩:=by kernel_rfl
theorem B9 (pre:List Value)(b:Nat):(dG).map (fun sh=>dIn (aT pre b sh 4 (dgT 3)) sh (dM sh 3))=(dG).map fun sh=>⟨true,some (.bx (b+2) []),some (.lsu pre [])⟩:=by kernel_rfl
theorem Ca (pre:List Value)(b:Nat):(dH).map (fun sh=>dIn (aT pre b sh 4 (dgT 0)) sh (dM sh 0))=(dH).map fun sh=>⟨true,some (.bx (b+2) []),some (.lsu pre [])⟩:=by kernel_rfl
theorem Cb (pre:List Value)(b:Nat):(dH).map (fun sh=>dIn (aT pre b sh 4 (dgT 1)) sh (dM sh 1))=(dH).map fun sh=>⟨true,some (.bx (b+2) []),some (.lsu pre [])⟩:=by kernel_rfl
theorem Cc (pre:List Value)(b:Nat):(dH).map (fun sh=>dIn (aT pre b sh 4 (dgT 2)) sh (dM sh 2))=(dH).map fun sh=>⟨true,some (.bx (b+2) []),some (.lsu pre [])⟩:=by kernel_rfl
theorem Ce (pre:List Value)(b:Nat):(dH).map (fun sh=>dIn (aT pre b sh 4 (dgT 3)) sh (dM sh 3))=(dH).map fun sh=>⟨true,some (.bx (b+2) []),some (.lsu pre [])⟩:=by kernel_rfl
theorem Cf (pre:List Value)(b:Nat):(sh6).map (fun sh=>dIn (aT pre b sh 4 (dgT 0)) sh (dM sh 0))=(sh6).map fun sh=>⟨true,some (.bx (b+2) []),some (.lsu pre [])⟩:=by kernel_rfl
theorem Cg (pre:List Value)(b:Nat):(sh6).map (fun sh=>dIn (aT pre b sh 4 (dgT 1)) sh (dM sh 1))=(sh6).map fun sh=>⟨true,some (.bx (b+2) []),some (.lsu pre [])⟩:=by kernel_rfl
theorem Ch (pre:List Value)(b:Nat):(sh6).map (fun sh=>dIn (aT pre b sh 4 (dgT 2)) sh (dM sh 2))=(sh6).map fun sh=>⟨true,some (.bx (b+2) []),some (.lsu pre [])⟩:=by kernel_rfl
theorem Ci (pre:List Value)(b:Nat):(sh6).map (fun sh=>dIn (aT pre b sh 4 (dgT 3)) sh (dM sh 3))=(sh6).map fun sh=>⟨true,some (.bx (b+2) []),some (.lsu pre [])⟩:=by kernel_rfl
theorem Cj (pre:List Value)(b:Nat):(shZ true).map (fun sh=>dIn (aT pre b sh 4 (dgT 0)) sh sh)=(shZ true).map fun sh=>⟨true,some (.bx (b+2) []),some (.lsu pre [])⟩:=by kernel_rfl
theorem Ck (pre:List Value)(b:Nat):(shZ true).map (fun sh=>dIn (aT pre b sh 4 (dgT 1)) sh sh)=(shZ true).map fun sh=>⟨true,some (.bx (b+2) []),some (.lsu pre [])⟩:=by kernel_rfl
theorem Cl (pre:List Value)(b:Nat):(shZ true).map (fun sh=>dIn (aT pre b sh 4 (dgT 2)) sh sh)=(shZ true).map fun sh=>⟨true,some (.bx (b+2) []),some (.lsu pre [])⟩:=by kernel_rfl
theorem Cm (pre:List Value)(b:Nat):(shZ true).map (fun sh=>dIn (aT pre b sh 4 (dgT 3)) sh sh)=(shZ true).map fun sh=>⟨true,some (.bx (b+2) []),some (.lsu pre [])⟩:=by kernel_rfl
theorem Cn (pre:List Value)(b:Nat):(((shF true).drop 1).take 17).map (fun sh=>dNo (eg pre b sh 4 (dgT 0)) sh)=(((shF true).drop 1).take 17).map fun sh=>⟨true,some (.bx (b+2) []),some (.lsu pre [])⟩:=by kernel_rfl
theorem Co (pre:List Value)(b:Nat):(((shF true).drop 1).take 17).map (fun sh=>dNo (eg pre b sh 4 (dgT 1)) sh)=(((shF true).drop 1).take 17).map fun sh=>⟨true,some (.bx (b+2) []),some (.lsu pre [])⟩:=by kernel_rfl
theorem Cp (pre:List Value)(b:Nat):(((shF true).drop 1).take 17).map (fun sh=>dNo (eg pre b sh 4 (dgT 2)) sh)=(((shF true).drop 1).take 17).map fun sh=>⟨true,some (.bx (b+2) []),some (.lsu pre [])⟩:=by kernel_rfl
theorem Cq (pre:List Value)(b:Nat):(((shF true).drop 1).take 17).map (fun sh=>dNo (eg pre b sh 4 (dgT 3)) sh)=(((shF true).drop 1).take 17).map fun sh=>⟨true,some (.bx (b+2) []),some (.lsu pre [])⟩:=by kernel_rfl
theorem Cr (pre:List Value)(b:Nat):((shF true).drop 19).map (fun sh=>dNo (eg pre b sh 4 (dgT 0)) sh)=((shF true).drop 19).map fun sh=>⟨true,some (.bx (b+2) []),some (.lsu pre [])⟩:=by kernel_rfl
theorem Cs (pre:List Value)(b:Nat):((shF true).drop 19).map (fun sh=>dNo (eg pre b sh 4 (dgT 1)) sh)=((shF true).drop 19).map fun sh=>⟨true,some (.bx (b+2) []),some (.lsu pre [])⟩:=by kernel_rfl
theorem Ct (pre:List Value)(b:Nat):((shF true).drop 19).map (fun sh=>dNo (eg pre b sh 4 (dgT 2)) sh)=((shF true).drop 19).map fun sh=>⟨true,some (.bx (b+2) []),some (.lsu pre [])⟩:=by kernel_rfl
theorem Cu (pre:List Value)(b:Nat):((shF true).drop 19).map (fun sh=>dNo (eg pre b sh 4 (dgT 3)) sh)=((shF true).drop 19).map fun sh=>⟨true,some (.bx (b+2) []),some (.lsu pre [])⟩:=by kernel_rfl
theorem Cv:shT.all (fun sh=>(Nat.beq sh.s 2&&!Nat.ble sh.n 13)||(shZ true++(((shF true).drop 1).take 17)++((shF true).drop 19)++((shF false).take 18)++((shF false).drop 19)++(dG)++(dH)++(sh6)).any (Bo sh))=true:=by kernel_rfl
theorem Gf {sh:Sh}(h:sh∈shT)(h2:sh.s=2->sh.n<=13):sh∈(shZ true)++(((shF true).drop 1).take 17)++((shF true).drop 19)++((shF false).take 18)++((shF false).drop 19)++(dG)++(dH)++(sh6):=by
 rcases cx (aD Cv h) with q|q
 ·have q1:=an1 q;have q2:=an2 q;have:=h2 (aK q1);rw[Nat.ble_eq_true_of_le this]at q2;exact ak q2
 ·refine aj (List.any_eq_true.mp q) fun x hx e=>?_;rw[ld e];exact hx
theorem gt {sh:Sh}(h:sh∈shT)(h2:sh.s=2->sh.n<=13){G:Prop}(z:sh∈shZ true->G)(a:sh∈((shF true).drop 1).take 17->G)(b:sh∈(shF true).drop 19->G)(c:sh∈(shF false).take 18->G)(d:sh∈(shF false).drop 19->G)(t:sh∈dG->G)(n:sh∈dH->G)(s:sh∈sh6->G):G:=by
 have q:=Gf h h2;rcases bn q with q|q
 rotate_left
 ·exact s q
 rcases bn q with q|q
 rotate_left
 ·exact n q
 rcases bn q with q|q
 rotate_left
 ·exact t q
 rcases bn q with q|q
 rotate_left
 ·exact d q
 rcases bn q with q|q
 rotate_left
 ·exact c q
 rcases bn q with q|q
 rotate_left
 ·exact b q
 rcases bn q with q|q
 rotate_left
 ·exact a q
 exact z q
section
variable (pre:List Value)(b:Nat){sh:Sh}(h:sh∈shT)(h2:sh.s=2->sh.n<=13)
include h h2
theorem ev0:Ev pre b (b+2) sh 0 []:=have H:b<=b+2:=Nat.le_add_right b 2;gt h h2 (fun m=>.inp (aq (Ih pre b) sh m) (.inl rfl) H) (fun m=>.inp (aq (Ii pre b) sh m) (.inl rfl) H) (fun m=>.inp (aq (Ij pre b) sh m) (.inl rfl) H) (fun m=>.inp (aq (Ik pre b) sh m) (.inl rfl) H) (fun m=>.inp (aq (Il pre b) sh m) (.inl rfl) H) (fun m=>.inp (aq (Im pre b) sh m) (.inl rfl) H) (fun m=>.inp (aq (Io pre b) sh m) (.inl rfl) H) (fun m=>.inp (aq (Ip pre b) sh m) (.inl rfl) H)
theorem ev1:Ev pre b (b+2) sh 1 []:=have H:b<=b+2:=Nat.le_add_right b 2;gt h h2 (fun m=>.cp (aq (FV pre b) sh m) H) (fun m=>.cp (aq (FW pre b) sh m) H) (fun m=>.cp (aq (FX pre b) sh m) H) (fun m=>.cp (aq (FY pre b) sh m) H) (fun m=>.cp (aq (FZ pre b) sh m) H) (fun m=>.cp (aq (F0 pre b) sh m) H) (fun m=>.cp (aq (F4 pre b) sh m) H) (fun m=>.inp (aq (F5 pre b) sh m) (.inr rfl) H)
theorem ev2:Ev pre b (b+2) sh 2 []:=have H:b<=b+2:=Nat.le_add_right b 2;gt h h2 (fun m=>.cp (aq (F6 pre b) sh m) H) (fun m=>.cp (aq (F7 pre b) sh m) H) (fun m=>.cp (aq (F8 pre b) sh m) H) (fun m=>.cp (aq (F9 pre b) sh m) H) (fun m=>.cp (aq (Ga pre b) sh m) H) (fun m=>.cp (aq (Gb pre b) sh m) H) (fun m=>.cp (aq (Gc pre b) sh m) H) (fun m=>.inp (aq (Ge pre b) sh m) (.inr rfl) H)
theorem Iq:Ev pre b (b+2) sh 3 (dgS 0):=have H:b+2<=b+2:=aP _;gt h h2 (fun m=>.no (aq (BM pre b) sh m) H) (fun m=>.no (aq (BO pre b) sh m) H) (fun m=>.no (aq (BR pre b) sh m) H) (fun m=>.inp (aq (BE pre b) sh m) (.inl rfl) H) (fun m=>.inp (aq (BH pre b) sh m) (.inl rfl) H) (fun m=>.no (aq (BU pre b) sh m) H) (fun m=>.inp (aq (BJ pre b) sh m) (.inl rfl) H) (fun m=>.no (aq (BW pre b) sh m) H)
theorem Ir:Ev pre b (b+2) sh 3 (dgS 1):=have H:b+2<=b+2:=aP _;gt h h2 (fun m=>.no (aq (BN pre b) sh m) H) (fun m=>.no (aq (BQ pre b) sh m) H) (fun m=>.no (aq (BS pre b) sh m) H) (fun m=>.inp (aq (BF pre b) sh m) (.inl rfl) H) (fun m=>.inp (aq (BI pre b) sh m) (.inl rfl) H) (fun m=>.no (aq (BV pre b) sh m) H) (fun m=>.inp (aq (BK pre b) sh m) (.inl rfl) H) (fun m=>.no (aq (BX pre b) sh m) H)
theorem It:Ev pre b (b+2) sh 4 (dgT 0):=have H:b+2<=b+2:=aP _;gt h h2 (fun m=>.inp (aq (Cj pre b) sh m) (.inl rfl) H) (fun m=>.no (aq (Cn pre b) sh m) H) (fun m=>.no (aq (Cr pre b) sh m) H) (fun m=>.inp (aq (BY pre b) sh m) (.inl rfl) H) (fun m=>.inp (aq (B2 pre b) sh m) (.inl rfl) H) (fun m=>.inp (aq (B6 pre b) sh m) (.inl rfl) H) (fun m=>.inp (aq (Ca pre b) sh m) (.inl rfl) H) (fun m=>.inp (aq (Cf pre b) sh m) (.inl rfl) H)
theorem Iu:Ev pre b (b+2) sh 4 (dgT 1):=have H:b+2<=b+2:=aP _;gt h h2 (fun m=>.inp (aq (Ck pre b) sh m) (.inl rfl) H) (fun m=>.no (aq (Co pre b) sh m) H) (fun m=>.no (aq (Cs pre b) sh m) H) (fun m=>.inp (aq (BZ pre b) sh m) (.inl rfl) H) (fun m=>.inp (aq (B3 pre b) sh m) (.inl rfl) H) (fun m=>.inp (aq (B7 pre b) sh m) (.inl rfl) H) (fun m=>.inp (aq (Cb pre b) sh m) (.inl rfl) H) (fun m=>.inp (aq (Cg pre b) sh m) (.inl rfl) H)
theorem Iv:Ev pre b (b+2) sh 4 (dgT 2):=have H:b+2<=b+2:=aP _;gt h h2 (fun m=>.inp (aq (Cl pre b) sh m) (.inl rfl) H) (fun m=>.no (aq (Cp pre b) sh m) H) (fun m=>.no (aq (Ct pre b) sh m) H) (fun m=>.inp (aq (B0 pre b) sh m) (.inl rfl) H) (fun m=>.inp (aq (B4 pre b) sh m) (.inl rfl) H) (fun m=>.inp (aq (B8 pre b) sh m) (.inl rfl) H) (fun m=>.inp (aq (Cc pre b) sh m) (.inl rfl) H) (fun m=>.inp (aq (Ch pre b) sh m) (.inl rfl) H)
theorem Iw:Ev pre b (b+2) sh 4 (dgT 3):=have H:b+2<=b+2:=aP _;gt h h2 (fun m=>.inp (aq (Cm pre b) sh m) (.inl rfl) H) (fun m=>.no (aq (Cq pre b) sh m) H) (fun m=>.no (aq (Cu pre b) sh m) H) (fun m=>.inp (aq (B1 pre b) sh m) (.inl rfl) H) (fun m=>.inp (aq (B5 pre b) sh m) (.inl rfl) H) (fun m=>.inp (aq (B9 pre b) sh m) (.inl rfl) H) (fun m=>.inp (aq (Ce pre b) sh m) (.inl rfl) H) (fun m=>.inp (aq (Ci pre b) sh m) (.inl rfl) H)
end
theorem ev5 {pre:List Value}{b b':Nat}{sh:Sh}{ds:List (Nat×AV)}(h:Ev pre b b' sh 4 ds):Ev pre b b' sh 5 ds:=by
 cases h with
 |inp h1 h2 h3=>exact .inp h1 h2 h3
 |cp h1 h2=>exact .cp h1 h2
 |no h1 h2=>exact .no h1 h2
theorem Cw:uJ:=fun pre b sh h h2 wy hw=>by
 have four:∀i,i < 4->Ev pre b (b+2) sh 4 (dgT i):=fun i hi=>match i,hi with
  |0,_=>It pre b h h2
  |1,_=>Iu pre b h h2
  |2,_=>Iv pre b h h2
  |3,_=>Iw pre b h h2
  |_+4,hi=>absurd hi (by lia)
 refine ⟨fun q=>?_,fun q i hi=>?_,fun q i hi=>?_⟩
 ·match wy,q with
  |0,_=>exact ev0 pre b h h2
  |1,_=>exact ev1 pre b h h2
  |2,_=>exact ev2 pre b h h2
  |_+3,q=>exact absurd q (by lia)
 ·subst q
  match i,hi with
  |0,_=>exact Iq pre b h h2
  |1,_=>exact Ir pre b h h2
  |_+2,hi=>exact absurd hi (by lia)
 ·match wy,q,hw with
  |4,_,_=>exact four i hi
  |5,_,_=>exact ev5 (four i hi)
  |0,q,_=>exact absurd q (by lia)
  |1,q,_=>exact absurd q (by lia)
  |2,q,_=>exact absurd q (by lia)
  |3,q,_=>exact absurd q (by lia)
  |_+6,_,hw=>exact absurd hw (by lia)
def uK {β:Type} (σ:ST) (k:OpP->R β):R β:=aE (aa σ.os 5) fun o=>match o with|.opq p=>k p|_=>.no
theorem Snd.opq {β:Type}{σ:ST}{Φ:β->ST->Prop}{k:OpP->R β}(h:∀p,aa σ.os 5=some (.opq p)->Snd (k p) Φ):Snd (uK σ k) Φ:=Snd.opt fun o ho=>by induction o using aN<;>first|exact Snd.no|exact h _ ho
def hkH:CL:=fun g vs σ=>gd (Nat.beq g 982) (on2 vs fun a b=>fY a fun i=>fY b fun j=>uK σ fun p=>gd (Nat.beq i p.wi&&mw p.js j) (.ok (.boo true) (upO 5 (.opq p) σ)))
def Cy (sh:Sh):R AV:=(ev ez 200).cl 982 [.obj 0,.obj 40] ⟨wOs (iA sh)++mA sh,100⟩
def hB (sh:Sh):Bool:=okB (Cy sh) trB&&fB 0 sh sh (bN (Cy sh)).os
theorem CA:(shT.take 28).all hB=true:=by kernel_rfl
theorem CB:((shT.drop 28).take 28).all hB=true:=by kernel_rfl
theorem CC:(shT.drop 56).all hB=true:=by kernel_rfl
theorem uL {sh:Sh}(h:sh∈shT):hB sh=true:=by
 rw[<-List.take_append_drop 28 shT]at h;rcases bn h with h|h
 ·exact aD CA h
 ·rw[<-List.take_append_drop 28 (shT.drop 28),List.drop_drop]at h;rcases bn h with h|h
  ·exact aD CB h
  ·exact aD CC h
theorem CD {n:Nat}(hn:200<=n):COk tbL n hkH:=by
 intro g vs σ v σ' q d V fr us ht rm dv;refine Snd.of q (Φ:=fun v σ'=>TC d V fr σ g us v σ') (Snd.gd fun hg=>aK hg▸Snd.n2 dv fun b mv u1 u2 e q1 q2=>e▸Snd.obj fun i hi=>Snd.obj fun j hj=>Snd.opq fun p ho=>Snd.gd fun hb=>Snd.ok fun s R at_ P=>at_.stK fun mm news X=>?_);have h1:=an1 hb;have h2:=an2 hb;obtain rfl:=aK h1;have h2:=cT h2;subst hi hj;refine aj q1.refk fun x0 hx0 z'2=>?_;obtain rfl:=z'2;refine bu (X.D.split ho) fun pre l post e1 hl up=>?_;subst e1;have hfl:d.tb.flds=tbL.flds:=by rw[ht]
 obtain ⟨h3,as,V0,wl,pool,r,PI,hjs⟩:=ly (hfl▸hl) hx0;refine aj (hjs j h2) fun a ha haj=>?_;refine aj q2.refk fun a' ha' z'2=>?_;obtain rfl:=z'2;obtain rfl:=soo (haj.symm.trans ha');refine gQ (V:=V0) (p:=⟨0,[],p.t⟩) (l:=l) ⟨PI.pm,PI.wd,PI.num,PI.z,rfl,PI.gs,fun j hj=>absurd hj bI⟩ ha none none (dj:=0) (by decide) fun lo r' as' sh V1 lp rest dd z wl' ln N=>?_;refine aj (N.ns.perm gR) fun nn Dn pn=>?_;have OL:dB d.w d.K tbL:=ht▸at_.c.O;have D1:=N.wd.join (Dn.tl0 (tl:=rest++(r'++(pre++post))));have hc:∀y,cnt y (wl'++(nn++(rest++(r'++(pre++post)))))=cnt y (pre++(l++post)):=fun y=>by
  have c1:=aS PI.pm y;have c2:=aS N.pr y;have c3:=aS N.pp y;have c4:=aS N.pw y;have c5:=aS N.pn y;have c6:=aS pn y;simp only[aJ]at c1 c2 c3 c5 ⊢;lia
 have at':=at_.sub (nx:=100) X (tbk _ _ OL) D1 (ck fun y=>Nat.le_of_eq (hc y)) (dF (fun y=>Nat.le_of_eq (hc y)) X.nd) (N.x h3);have hB:=uL N.nt.mem;have hf:=an2 hB;have hB:=an1 hB;refine aI (jw hB) fun v σ₁ hr hv=>?_;have hf:fB 0 sh sh σ₁.os=true:=by
  unfold Cy at hr hf;rw[hr]at hf;exact hf
 refine (bw cN 200).cl (d:=d.sub tbT _) (fr:=d.fr0) hr rfl (rm.mono hn) (us:=[.ref x0,.ref a]) (show Dens (enV V0 V1 dd z none none 0) [.obj 0,.obj 40] [.ref x0,.ref a] from ⟨⟨x0,PI.ρ,rfl⟩,⟨a,N.nt.at_,rfl⟩,trivial⟩) s R at' fun u h tk W le du at'' ff=>at''.stK fun m'' news'' X''=>?_;rw[uE hv]at du;refine aj X''.D.untl fun l2 hl2 D2=>?_;have ndl:(l2.map (·.1)).Nodup:=bH (jN l2 _) (hl2▸X''.nd);refine yO N PI.z at''.v.num le PI.wd D2 ndl hf fun V2 wl2 pool' lo' q1' q2' q3' q4' q5' q6'=>?_;have e0:W.ρ 0=V0.ρ 0:=by
  refine av (b0 PI.wd (c:=0) (by decide)) fun x hx=>?_;rw[hx];exact le.ρ 0 x hx
 have P2:PiL d.w (some x0) p.t (a::as') (wl2++(pool'++(lo'++r'))) V2 wl2 pool' (lo'++r'):=⟨.refl _,q2',q3',q4',(q5' 0 (by decide)).trans (e0.trans PI.ρ),q6'⟩
 have iq:Is d.w V d.tb.flds 5 (.opq p) (wl2++(pool'++(lo'++r'))):=hfl▸gS P2 hx0 (fun j hj=>(hjs j hj).imp fun a h=>⟨N.pa.mem_iff.mpr h.1,h.2⟩) h3;have pm:(pre++(wl2++(pool'++(lo'++r'))++post)).Perm news'':=kg fun y=>by
  have c1:=aS q1' y;rw[hl2];simp only[aJ]at c1 ⊢;lia
 exact P u h tk V (.refl V) du (at_.back' (.refl V) X ff (fun z hz=>X''.N z (pm.mem_iff.mp hz)) (up _ _ iq) (aW pm X''.nd) at_.v) ff
noncomputable def vlW (V0:Vl)(dd:Option Addr)(z:Int)(f:Nat->Option Addr):Vl:=⟨fun c=>if c < 8 then V0.ρ c else if c < 40 then f c else none,fun c=>if c < 8 then V0.δ c else if c=8 then dd else none,fun k=>if k=101 then z else V0.ι k,fun zz=>none⟩
theorem uM {V0:Vl}{dd:Option Addr}{z:Int}{f:Nat->Option Addr}(n:bK V0.ι):Vx (vlW V0 dd z f) 100:=by
 refine ⟨fun c hc=>⟨?_,?_,rfl⟩,⟨fun k hk=>?_,fun k hk=>?_,fun k h1 h2=>?_⟩,fun k l h=>ag h⟩
 ·show (if c < 8 then V0.ρ c else if c < 40 then f c else none)=none;rw[if_neg (by lia),if_neg (by lia)]
 ·show (if c < 8 then V0.δ c else if c=8 then dd else none)=none;rw[if_neg (by lia),if_neg (by lia)]
 ·show (if k=101 then z else V0.ι k)<=(if 0=101 then z else V0.ι 0);rw[if_neg (by lia),if_neg (by lia)];exact n.1 k hk
 ·show -1<=(if k=101 then z else V0.ι k)/\(if k=101 then z else V0.ι k) < 5;rw[if_neg (by lia)];exact n.2.1 k hk
 ·show 1<=(if k=101 then z else V0.ι k);rw[if_neg (by lia)];exact n.2.2 k h1 h2
noncomputable def ssN:Option AV->Bool
 |some (.ss _ _ _)=>false
 |_=>true
def fM2 (sh:Sh) (k':Nat) (q:WFd×List (Nat×AO)) (s:Mp):Bool:=(ssN (aa s.n 41)&&fO 0 q.1 sh s k' q.2)&&fy (cY s) (bA sh) (de (cY s).f (bT sh) q.2)
def fM (sh:Sh) (k':Nat) (os:List (Nat×AO)):Bool:=(!(Nat.beq sh.s 2)||Nat.ble sh.n 2)&&cV (foW os) fun q=>fM2 sh k' q (uu sh k' q.2)
section
variable {w:World}{W V0:Vl}{t:Nat}{os:List (Nat×AO)}{n:L2}{sh:Sh}{pool wl r lw:L2}{as:List Addr}{dd:Option Addr}{f:Nat->Option Addr}{z:Int}{k':Nat}{x0:Option Addr}
theorem CF (P:PiL w x0 t as lw V0 wl pool r)(f:Nat->Option Addr){G:Prop}(Kk:∀dd z wl',wl'.Perm wl->Led w (vlW V0 dd z f) tbT.flds [] (wOs none) wl'->G):G:=by
 refine dP (mF (c:=none) (u0:=700) (.head _) (fun e=>ag e) P.wd) fun dd z wi=>?_;refine aj (wi (vlW V0 dd z f) (fun c hc=>if_pos hc) (fun c hc=>if_pos hc) (fun k h1 h2=>if_neg (by lia)) rfl rfl rfl rfl fun e=>ag e) fun wl' h1 h2=>?_;exact Kk dd z wl' h1 h2
theorem yQ (P:PiL w x0 t as lw V0 wl pool r)(num:bK W.ι)(le:(vlW V0 dd z f).le W)(D:Led w W tbT.flds [] os n)(nd:(n.map (·.1)).Nodup)(h:fM sh k' os=true){G:Prop}(Kk:∀V2 wl2 pool' lo' a2,W.ρ k'=some a2->(wl2++(pool'++(lo'++r))).Perm (n++(pool++r))->Led w V2 tbT.flds [] (wOs none) wl2->bK V2.ι->0<=V2.ι 0->((∀c,c < 8->V2.ρ c=W.ρ c))->Gs w tbT.flds V2 t pool' (a2::as) (lo'++r)->G):G:=by
 have hz:=an1 h;have h:=an2 h;refine aj (aZ h) fun z'0 hq h=>?_;obtain ⟨q,os1⟩:=z'0;have h1:=an1 h;have h3:=an2 h;have hs:=an1 h1;have h1:=an2 h1;refine nO hq D fun nl vl n1 n2 p1 D1 D2 ho hn K=>?_;obtain ⟨hk,hb,n3,n4,p2,D3,D4⟩:=pq h1 D2;refine av (uA hb hk D3) fun a2 ha2=>?_;refine aR (D4.ref (eh W _) _ h3) fun a1 b1 p3 E1 zy=>?_;have hι:W.ι=(vlW V0 dd z f).ι:=le.ι;have e0:W.ι 0=V0.ι 0:=by rw[hι];rfl
 have z0:=P.z;have nd2:=bW p1 nd;have nd4:=bW p2 nd2;have hρ:∀c,c < 8->W.ρ c=V0.ρ c:=fun c hc=>by
  refine av (b0 P.wd hc) fun x hx=>?_;rw[hx];exact le.ρ c x ((if_pos hc).trans hx)
 have N:=lh (w:=w) (fl:=tbT.flds) (t:=t) (g:=0) (pool:=n4++pool) (a:=a2) hb num (by lia) ho hn (vl:=vl) (fun u hu c hc=>(K u hu c hc).imp fun x y=>y.1) (fun e=>by
   rw[e]at hz;have:=az (show Nat.ble sh.n 2=true from hz);lia) (fun p q' e=>by rw[e]at hs;exact ak hs) hk ha2 D3 E1 (fun z hz=>bS _ (cZ p3 z hz)) (gr p3 nd4)
 have G:=P.gs.carry (g:=0) (V0':=foV W (fun i=>q.l.getD i .rn) nl vl) (pool':=n4++pool) (fun c hc=>(gq hc).trans (hρ c hc)) (show V0.ι 0<=nl by lia) (fun u hu hh=>ju (V:=V0) (W:=W) (nl:=nl) (vl:=vl) (fun u hu=>by
  rw[hι];show (if 300+u=101 then z else V0.ι (300+u))=V0.ι (300+u);rw[if_neg (by lia)]) K hu hh) (PLe.refl fun z hz=>a9 _ hz)
 refine Kk _ n1 (n4++pool) n3 a2 ha2 (kg fun y=>?_) D1 (k9 num (by lia)) (show 0<=nl by lia) (fun c hc=>gq hc) (.cons N G);have c1:=aS p1 y;have c2:=aS p2 y;simp only[aJ]at c1 c2 ⊢;lia
end
theorem fk {p:Nat×AO}{r:List (Nat×AO)}{i:Nat}:aL (p::r) i=if p.1=i then r else p::aL r i:=by
 show @Bool.rec (fun zz=>List (Nat×AO)) (p::aL r i) r (Nat.beq p.1 i)=_;rw[BT.beq_eq];by_cases h:p.1=i<;>simp [h]
theorem gT {i:Nat}{o o':AO}:∀{os:List (Nat×AO)},aa os i=some o->(bf os i o').Perm ((i,o')::aL os i)
 |[]=>fun h=>ag h
 |p::r=>fun h=>by
  rw[aM]at h;rw[bv,fk];by_cases e:p.1=i
  ·rw[if_pos e,if_pos e]
  ·rw[if_neg e]at h;rw[if_neg e,if_neg e];exact ((gT h).cons p).trans (.swap ..)
theorem mM {i j:Nat}(hij:i≠j){o':AO}:∀{os:List (Nat×AO)},aL (bf os i o') j=bf (aL os j) i o'
 |[]=>rfl
 |p::r=>by
  rw[bv,fk];by_cases e:p.1=i
  ·rw[if_pos e,fk,if_neg hij,if_neg (fun q=>hij (e.symm.trans q)),bv,if_pos e]
  ·rw[if_neg e,fk];by_cases q:p.1=j
   ·rw[if_pos q,if_pos q]
   ·rw[if_neg q,if_neg q,bv,if_neg e,mM hij]
theorem gu {i j:Nat}(hij:i≠j){o':AO}:∀{os:List (Nat×AO)},aa (bf os i o') j=aa os j
 |[]=>rfl
 |p::r=>by
  rw[bv,aM];by_cases e:p.1=i
  ·rw[if_pos e,aM,if_neg hij,if_neg (fun q=>hij (e.symm.trans q))]
  ·rw[if_neg e,aM];by_cases q:p.1=j
   ·rw[if_pos q,if_pos q]
   ·rw[if_neg q,if_neg q,gu hij]
section
variable {w:World}{V:Vl}{fl:FL}{tl news:L2}{os:List (Nat×AO)}
theorem Led.two {i j:Nat}{o o2:AO}(D:Led w V fl tl os news)(h1:aa os i=some o)(h2:aa os j=some o2)(hij:i≠j):∃l1 l2 n,(∀y,cnt y news=cnt y l1+(cnt y l2+cnt y n))/\Is w V fl i o l1/\Is w V fl j o2 l2/\
  ∀W,V.le W->∀o' l1' o2' l2',Is w W fl i o' l1'->Is w W fl j o2' l2'->∃news',Led w W fl tl (bf (bf os i o') j o2') news'/\∀y,cnt y news'=cnt y l1' + (cnt y l2' + cnt y n):=by
 refine aR (D.out h2) fun l2 n1 p1 i2 D1=>?_;refine aR (D1.out ((cO hij _).trans h1)) fun l1 n p2 i1 D2=>?_;refine ⟨l1,l2,n,fun y=>?_,i1,i2,fun W le o' l1' o2' l2' g1 g2=>?_⟩
 ·have c1:=aS p1 y;have c2:=aS p2 y;simp only[aJ]at c1 c2;lia
 ·have pm:(bf (bf os i o') j o2').Perm ((j,o2')::(i,o')::aL (aL os j) i):=(gT ((gu hij).trans h2)).trans (.cons _ (by rw[mM hij];exact gT ((cO hij _).trans h1)));refine aj (Led.perm pm.symm (.cons g2 (.cons g1 (D2.mono le)))) fun news' D' p=>?_;refine ⟨news',D',fun y=>?_⟩;have c:=aS p y;simp only[aJ]at c;lia
end
noncomputable def mdS (i k:Nat):Sh:=match i with
 |1=>⟨1,.boo false,false,0,[]⟩
 |2=>⟨2,.boo false,false,2,[]⟩
 |3=>⟨3,.boo false,false,1,[]⟩
 |4=>⟨4,.boo true,true,k,[]⟩
 |5=>⟨5,.boo false,false,0,[]⟩
 |6=>⟨6,.boo true,true,k,[]⟩
 |_=>⟨0,.boo false,false,0,[]⟩
def xC (b i k:Nat):R AV:=(ev ez 200).cl 977 [.obj 0,.obj 30] ⟨wOs none++[(30,.bx b [(8,.int (.ofNat i)),(3,.int (.ofNat k))])],100⟩
noncomputable def Gg:AV->Nat
 |.obj i=>i
 |_=>0
noncomputable def Ix:AV->Bool
 |.obj _=>true
 |_=>false
def Iy (b i k:Nat):Bool×Option AO:=(okB (xC b i k) fun v=>Ix v&&fM (mdS i k) (Gg v) (aL (bN (xC b i k)).os 30),aa (bN (xC b i k)).os 30)
theorem CG (b:Nat):(List.range 8).map (fun i=>(List.range 3).map (Iy b i))=(List.range 8).map fun zz=>(List.range 3).map fun zz=>(true,some (.bx (b+2) [])):=by kernel_rfl
theorem Iz {b i k:Nat}(hi:i < 8)(hk:k < 3):∃k' σ,xC b i k=.ok (.obj k') σ/\fM (mdS i k) k' (aL σ.os 30)=true/\aa σ.os 30=some (.bx (b+2) []):=by
 have h:=aq (aq (CG b) i (eo hi)) k (eo hk);injection h with h1 h2
 refine aI (jw h1) fun v σ e hv=>?_;rw[e]at hv h2;have h3:=an1 hv;have h4:=an2 hv
 induction v using aA<;>first|exact ak h3|exact ⟨_,σ,e,h4,h2⟩
def hkM:CL:=fun g vs σ=>gd (Nat.beq g 977) (on2 vs fun a c=>fY a fun i=>A5 c σ fun bi b ds=>uK σ fun p=>gd (Nat.beq i p.wi&&(Nat.ble (b+2) 64&&!Nat.beq 5 bi))
 (.ok (.obj σ.nx) ⟨bf (bf σ.os 5 (.opq ⟨p.wi,σ.nx::p.js,p.t⟩)) bi (.bx (b+2) []),σ.nx+1⟩))
noncomputable def f30 (xb:Addr):Nat->Option Addr:=fun c=>if c=30 then some xb else none
theorem xD {w:World}{V:Vl}{fl:FL}{i b:Nat}{ds:List (Nat×AV)}{l:L2}(h:Is w V fl i (.bx b ds) l):Is w V fl i (.bx b []) l:=fh h (aP _) rfl
theorem CJ {n:Nat}(hn:200<=n):COk tbL n hkM:=by
 intro g vs σ v σ' q d V fr us ht rm dv;refine Snd.of q (Φ:=fun v σ'=>TC d V fr σ g us v σ') (Snd.gd fun hg=>aK hg▸Snd.n2 dv fun b mv u1 u2 e q1 q2=>e▸Snd.obj fun i hi=>Snd.bx fun bi b ds hbi hob=>Snd.opq fun p ho=>Snd.gd fun hb=>Snd.ok fun s R at_ P=>at_.stK fun mm news X=>?_);have h1:=an1 hb;have h4:=an2 hb;have h3:=an1 h4;have h4:=an2 h4;obtain rfl:=aK h1;have h3:=az h3;have hne:5≠bi:=fun e=>by rw[<-e]at h4;exact ak h4
 subst hi hbi;refine aj q1.refk fun x0 hx0 z'2=>?_;obtain rfl:=z'2;refine aj q2.refk fun xb hxb z'2=>?_;obtain rfl:=z'2;refine bZ (X.D.two ho hob hne) fun lw lb nm hc0 il ib fin=>?_;have hfl:d.tb.flds=tbL.flds:=by rw[ht]
 obtain ⟨h2,as,V0,wl,pool,r,PI,hjs⟩:=ly (hfl▸il) hx0;refine aR (li (xD ib) h3 (m1:=8) (m2:=3) (by decide) (by decide)) fun d1 d2 hd1 hd2 hdig=>?_;refine CF PI (f30 xb) fun dd z wl' pw Dw=>?_;have ib':Is d.w (vlW V0 dd z (f30 xb)) tbT.flds 30 (.bx b [(8,.int (.ofNat d1)),(3,.int (.ofNat d2))]) lb:=hdig (show (some xb:Option Addr)=V.ρ bi from hxb.symm) fun t=>⟨t,rfl⟩
 have OL:dB d.w d.K tbL:=ht▸at_.c.O;have D1:Led d.w (vlW V0 dd z (f30 xb)) tbT.flds (pool++(r++nm)) (wOs none++[(30,.bx b [(8,.int (.ofNat d1)),(3,.int (.ofNat d2))])]) (wl'++(lb++(pool++(r++nm)))):=Dw.join (.cons ib' .nil);have hc:∀y,cnt y (wl'++(lb++(pool++(r++nm))))=cnt y news:=fun y=>by
  have c1:=aS PI.pm y;have c2:=aS pw y;have c3:=hc0 y;simp only[aJ]at c1 ⊢;lia
 have at':=at_.sub (nx:=100) X (tbk _ _ OL) D1 (ck fun y=>Nat.le_of_eq (hc y)) (dF (fun y=>Nat.le_of_eq (hc y)) X.nd) (uM PI.num);refine aR (Iz (b:=b) hd1 hd2) fun k' σ₁ hr hf hbx=>?_;refine (bw cN 200).cl (d:=d.sub tbT _) (fr:=d.fr0) hr rfl (rm.mono hn) (us:=[.ref x0,.ref xb]) (show Dens (vlW V0 dd z (f30 xb)) [.obj 0,.obj 30] [.ref x0,.ref xb] from ⟨⟨x0,PI.ρ,rfl⟩,⟨xb,rfl,rfl⟩,trivial⟩) s R at' fun u h tk W le du at'' ff=>at''.stK fun m'' news'' X''=>?_;refine aj du.refk fun y' hy' z'2=>?_;obtain rfl:=z'2;refine aj X''.D.untl fun l2 hl2 D2=>?_;refine aR (D2.out hbx) fun lb' n2 p2 ib2 D3=>?_;have ndl:(l2.map (·.1)).Nodup:=bH (jN l2 _) (hl2▸X''.nd);have ndn:(n2.map (·.1)).Nodup:=bW p2 ndl;refine yQ PI at''.v.num le D3 ndn hf fun V2 wl2 pool' lo' a2 q0' q1' q2' q3' q4' q5' q6'=>?_;obtain rfl:=soo (hy'.symm.trans q0');have e0:W.ρ 0=V0.ρ 0:=by
  refine av (b0 PI.wd (c:=0) (by decide)) fun x hx=>?_;rw[hx];exact le.ρ 0 x hx
 have P2:PiL d.w (some x0) p.t (y'::as) (wl2++(pool'++(lo'++r))) V2 wl2 pool' (lo'++r):=⟨.refl _,q2',q3',q4',(q5' 0 (by decide)).trans (e0.trans PI.ρ),q6'⟩
 have hfr:=(at_.v.fresh σ.nx (aP _)).1;have leA:V.le (V.at_ σ.nx y'):=Vl.at_le hfr;have e2:(V.at_ σ.nx y').ρ σ.nx=some y':=if_pos rfl;have iq:Is d.w (V.at_ σ.nx y') d.tb.flds 5 (.opq ⟨p.wi,σ.nx::p.js,p.t⟩) (wl2++(pool'++(lo'++r))):=hfl▸gS (p:=⟨p.wi,σ.nx::p.js,p.t⟩) P2 (leA.ρ _ _ hx0) (fun j hj=>by
  rcases aG hj with rfl|hj
  ·exact ⟨y',.head _,e2⟩
  ·refine aj (hjs j hj) fun a g1 g2=>?_;exact ⟨a,.tail _ g1,leA.ρ _ _ g2⟩) h2
 refine aj (fin _ leA _ _ _ _ iq (fh ib2 (aP _) ((leA.ρ _ _ hxb).trans (le.ρ 30 xb rfl).symm))) fun news3 D4 hc4=>?_;have pm:news3.Perm news'':=kg fun y=>by
  have c1:=aS q1' y;have c2:=aS p2 y;have c3:=hc4 y;rw[hl2];simp only[aJ]at c1 c2 c3 ⊢;lia
 exact P _ h tk _ leA ⟨y',e2,rfl⟩ (at_.back' leA X ff (fun z hz=>X''.N z (pm.mem_iff.mp hz)) D4 (aW pm X''.nd) at_.v.at_) ff
noncomputable def dxE:Expr:=.Constant .none 0 default
noncomputable def exL:Expr->Expr
 |.BinOp l _ _ _=>l
 |.Compare l _ _ _=>l
 |.Call g _ _ _=>g
 |e=>e
noncomputable def exR:Expr->Expr
 |.BinOp _ _ r _=>r
 |e=>e
noncomputable def exP:Expr->Pos
 |.BinOp _ _ _ p=>p
 |.Compare _ _ _ p=>p
 |.Call _ _ _ p=>p
 |_=>default
noncomputable def qJ:Expr->List Expr
 |.Call _ as _ _=>as
 |.Compare _ _ rs _=>rs
 |_=>[]
structure ForR where
 t:Expr
 i:Expr
 b:List Stmt
 p:Pos
noncomputable def ForR.st (f:ForR):Stmt:=.For f.t f.i f.b [] f.p
def yR (s:Stmt):ForR:=match s with
 |.For t i b _ p=>⟨t,i,b,p⟩
 |_=>⟨dxE,dxE,[],default⟩
structure AsR where
 t:Expr
 v:Expr
 p:Pos
noncomputable def AsR.st (a:AsR):Stmt:=.Assign [a.t] a.v a.p
def IA (s:Stmt):AsR:=match s with
 |.Assign [t] v p=>⟨t,v,p⟩
 |_=>⟨dxE,dxE,default⟩
def bxB:List Stmt:=(fiA 963).body
def bxF:ForR:=(bp bxB 1).elim ⟨dxE,dxE,[],default⟩ yR
def bxA:AsR:=(bp bxF.b 0).elim ⟨dxE,dxE,default⟩ IA
theorem CK:bxB=bxB.take 1++(bxF.st::bxB.drop 2):=by kernel_rfl
theorem CN:bxF.b=[bxA.st]:=by kernel_rfl
def e0:Expr:=bxA.v
def e1:Expr:=exL e0
def e2:Expr:=exR e0
def e3:Expr:=exL e1
def e4:Expr:=exR e1
def e5:Expr:=exL e4
def e6:Expr:=exL e5
def e7:Expr:=exR e5
def e8:Expr:=(qJ e2).headD dxE
theorem Gh:e0=.BinOp e1 .Add e2 (exP e0):=by kernel_rfl
theorem Gi:e1=.BinOp e3 .Add e4 (exP e1):=by kernel_rfl
theorem Gj:e3=.BinOp (exL e3) .Mult (exR e3) (exP e3):=by kernel_rfl
theorem Gk:e4=.BinOp e5 .Mult (exR e4) (exP e4):=by kernel_rfl
theorem Gl:e5=.BinOp e6 .Mod e7 (exP e5):=by kernel_rfl
theorem Gm:e7=.BinOp (exL e7) .Pow (exR e7) (exP e7):=by kernel_rfl
theorem Gn:e6=.Call (exL e6) (qJ e6) [] (exP e6):=by kernel_rfl
theorem Go:e2=.Call (exL e2) [e8] [] (exP e2):=by kernel_rfl
theorem Gp:e8=.Compare (exL e8) [.Lt] [(qJ e8).headD dxE] (exP e8):=by kernel_rfl
def cu:AF:=⟨(fiA 963).scope,[(S [119,104,111,108,101,95,111,110,101],.ge 0),(S [99,101,108,108],.ai)],[],none,none⟩
def ev9:EX:=(ev dE 20).ex
section
variable (σ:ST)
theorem v_w:ev9 (exL e3) cu σ=.ok (.ge 0) σ:=by kernel_rfl
theorem v_m:ev9 (exR e3) cu σ=.ok (.int (.ofNat 1000003)) σ:=by kernel_rfl
theorem v_2:ev9 (exR e4) cu σ=.ok (.int (.ofNat 2)) σ:=by kernel_rfl
theorem IB:ev9 (exL e7) cu σ=.ok (.int (.ofNat 10)) σ:=by kernel_rfl
theorem IC:ev9 (exR e7) cu σ=.ok (.int (.ofNat 30)) σ:=by kernel_rfl
theorem Gq:ev9 (exL e6) cu σ=.ok (.bi 4) σ:=by kernel_rfl
theorem Gr:evs ev9 (qJ e6) cu σ=.ok [.ai] σ:=by kernel_rfl
theorem Gu:ev9 (exL e2) cu σ=.ok (.ty 0) σ:=by kernel_rfl
theorem v_c:ev9 (exL e8) cu σ=.ok .ai σ:=by kernel_rfl
theorem v_0:ev9 ((qJ e8).headD dxE) cu σ=.ok (.int (.ofNat 0)) σ:=by kernel_rfl
end
theorem gU:kp (exL e6)=true/\kp (exL e2)=true/\cy [e8]=true/\behindInMarks .Lt ((qJ e8).headD dxE)=false:=⟨by kernel_rfl,by kernel_rfl,by kernel_rfl,by kernel_rfl⟩
def Ti (d:Dx) (fr:AF) (σ:ST) (e:Expr) (P:Int->Prop):Prop:=∀V,Tr d V fr σ (eval e d.ev) fr σ fun zz u=>∃i t,u=.int i t/\P i
section
variable {d:Dx}{V W:Vl}{fr fr':AF}{σ σ':ST}{s:Shared}{E:Value->Shared->Prop}
theorem gV {l r:Expr}{op:Operator}{pos:Pos}{P Q S:Int->Prop}(hl:Ti d fr σ l P)(hr:Ti d fr σ r Q)(rule:∀{i j:Int} {t t':Tok} {T:Value->Shared->Prop} {E:Value->Shared->Prop} {s:Shared},P i->Q j->(∀k u tk,S k->T (.int k u) { s with toks:=tk })->wpAny d.M d.A (binaryOp op (.int i t) (.int j t')) T E s) :
  Ti d fr σ (.BinOp l op r pos) S:=fun V s T E a K=>wpAny_BinOp (hl V _ _ _ a fun u h tk W le hu a₁=>hr W _ _ _ a₁ fun u' h' tk' W' le' hu' a₂=>by
  refine aI hu fun i t hu'2 hi=>?_;clear hu;obtain rfl:=hu'2;refine aI hu' fun j t' hu''2 hj=>?_;clear hu';obtain rfl:=hu''2;exact rule hi hj fun k u tk'' hk=>K (.int k u) _ tk'' W' (le.trans le') ⟨k,u,rfl,hk⟩ (a₂.tok tk''))
theorem yS {e:Expr}{v:AV}{P:Int->Prop}(ht:d.tb=tbT)(rm:Room d.A 20)(h:ev9 e fr σ=.ok v σ)(q:∀W u,Den W v u->∃i t,u=.int i t/\P i):Ti d fr σ e P:=fun V s T E a K=>(bw bR 20).ex h ht rm _ _ _ a fun u h tk W le du a₁=>K u h tk W le (q W u du) a₁
theorem CO (ht:d.tb=tbT)(rm:Room d.A 20):Ti d cu σ e0 fun k=>0<=k:=by
 have c:∀{e:Expr} {i:Int},ev9 e cu σ=.ok (.int i) σ->Ti d cu σ e fun k=>k=i:=fun h=>yS ht rm h fun W u ⟨t,e⟩=>⟨_,t,e,rfl⟩
 have h3:Ti d cu σ e3 fun k=>0<=k:=by
  rw[Gj];exact gV (yS ht rm (v_w σ) fun W u ⟨i,t,e,h⟩=>⟨i,t,e,h⟩) (c (v_m σ)) fun {i j t t' T E s} hi hj K=>by
   subst hj;exact PySem.P.mul_int (K _ _ _ (Int.mul_nonneg hi (by decide))) (IntMulOk.of_right (by decide))
 have h7:Ti d cu σ e7 fun k=>k=(10:Int) ^ 30:=by
  rw[Gm];exact gV (c (IB σ)) (c (IC σ)) fun {i j t t' T E s} hi hj K=>by
   subst hi hj;exact PyProof.Rows.pow_int_small (by decide) (by decide) (by decide) (K _ _ _ rfl)
 have h6:Ti d cu σ e6 fun k=>0<=k:=fun V=>by
  rw[Gn,dU gU.1];refine (show TE d V cu σ (eval (exL e6) d.ev) (.bi 4) σ from (bw bR 20).ex (Gq σ) ht rm).seq (fun h=>af h) fun W uv le du=>?_;obtain rfl:=du;have ie:EOk d.tb 20 ev9:=ht▸(bw bR 20).ex;refine f9 (dS (Gr σ)) (dT ie rm (Gr σ)) fun W' us le' ds=>?_;obtain ⟨u,rfl,i,t,rfl⟩:=ds.i1;exact fun s T E a K=>PyProof.Rows.call_abs_int fun u tk=>K _ _ tk W' (.refl _) ⟨_,u,rfl,by split<;>lia⟩ (a.tok tk)
 have h5:Ti d cu σ e5 fun k=>0<=k:=by
  rw[Gl];exact gV h6 h7 fun {i j t t' T E s} hi hj K=>by
   subst hj;exact PyProof.Rows.mod_int' (by decide) (K _ _ _ (Int.fmod_nonneg hi (by decide)))
 have h4:Ti d cu σ e4 fun k=>0<=k:=by
  rw[Gk];exact gV h5 (c (v_2 σ)) fun {i j t t' T E s} hi hj K=>by
   subst hj;exact PySem.P.mul_int (K _ _ _ (Int.mul_nonneg hi (by decide))) (IntMulOk.of_right (by decide))
 have h1:Ti d cu σ e1 fun k=>0<=k:=by
  rw[Gi];exact gV h3 h4 fun {i j t t' T E s} hi hj K=>PyProof.Rows.add_int (K _ _ _ (Int.add_nonneg hi hj))
 have h2:Ti d cu σ e2 fun k=>0<=k:=fun V=>by
  rw[Go,dU gU.2.1];refine (show TE d V cu σ (eval (exL e2) d.ev) (.ty 0) σ from (bw bR 20).ex (Gu σ) ht rm).seq (fun h=>af h) fun W uv le du=>?_;obtain rfl:=du;intro s T E a K;refine PyProof.Rows.callWith_type (cE gU.2.2.1) (eG gU.2.2.1 ?_);rw[bG (be gU.2.2.1).1];refine spliced_cons ?_;rw[Gp];refine wpAny_Compare1 ((bw bR 20).ex (v_c σ) ht rm _ _ _ a fun u1 h1 tk1 W1 le1 d1 a1=>(bw bR 20).ex (v_0 σ) ht rm _ _ _ a1 fun u2 h2 tk2 W2 le2 d2 a2=>?_) gU.2.2.2;refine dP d1 fun i t d1'2=>?_;clear d1;obtain rfl:=d1'2;refine av d2 fun t' d2'1=>?_;clear d2;obtain rfl:=d2'1;refine PyProof.Rows.lt_int (spliced_nil (call_int_bool (K _ _ _ W2 (le1.trans le2) ⟨_,_,rfl,by split<;>decide⟩ (a2.tok _))))
 rw[Gh];exact gV h1 h2 fun {i j t t' T E s} hi hj K=>PyProof.Rows.add_int (K _ _ _ (Int.add_nonneg hi hj))
end
def nS:Str:=S [115,99,114,105,112,116]
def nW1:Str:=S [119,104,111,108,101,95,111,110,101]
def fX0:AF:=⟨(fiA 963).scope,[(nS,.obj 7)],[],none,none⟩
def fX1:AF:=⟨(fiA 963).scope,[(nS,.obj 7),(nW1,.int (.ofNat 0))],[],none,none⟩
def fX2:AF:=⟨(fiA 963).scope,[(nW1,.ge 0)],[],none,none⟩
noncomputable def sX:ST:=⟨[],10⟩
noncomputable def aiL (n:Nat):List AV:=List.replicate n .ai
def jM (n:Nat):List AV:=je (aiL n) none (some (.ofNat 24)) none
def sL (n:Nat) (o:AO):ST:=⟨[(11,o),(10,.lst (jM n))],12⟩
theorem sS0:SOk dE.tb 29 (sS dE (ev dE 29)):=
 let h:=bw bR 29
 ow h.ex h.ts h.bl ew (oR h.ex h.ts h.bl ew)
structure SlR where
 v:Expr
 e:Expr
 q:Pos
 p:Pos
def ID (x:Expr):SlR:=match x with
 |.Subscript v (.Slice _ (some e) _ q) p=>⟨v,e,q,p⟩
 |_=>⟨dxE,dxE,default,default⟩
def bxS:SlR:=ID bxF.i
theorem CP:bxF.i=.Subscript bxS.v (.Slice none (some bxS.e) none bxS.q) bxS.p:=by kernel_rfl
theorem IF:(ev dE 30).bl (bxB.take 1) fX0 sX=.ok (.next,fX1) sX:=by kernel_rfl
theorem IG:(ev dE 29).ex bxS.v fX1 sX=.ok (.obj 7) sX:=by kernel_rfl
theorem Gv:lU (ev dE 29).ex (some bxS.e) fX1 sX=.ok (some (.ofNat 24)) sX:=by kernel_rfl
theorem IH (n:Nat):itA tbT (.obj 10) (ey (.lst (jM n)) sX)=.ok 11 (sL n (.itr 10 0)):=by kernel_rfl
theorem Gw (n:Nat)(j:Nat):nxA tbT 11 (sL n (.itr 10 j))=hU (bp (jM n) j) 11 (.itr 10 (j+1)) (sL n (.itr 10 j)):=by kernel_rfl
theorem II (σ:ST):tgF tbT (ev dE 29).ex siS bxF.t 11 .ai fX2 σ=.ok cu σ:=by kernel_rfl
theorem IJ (σ:ST):tg1 tbT (ev dE 29).ex siS bxA.t (.ge 0) cu σ=.ok cu σ:=by kernel_rfl
theorem IK (n:Nat):(ev dE 30).bl (bxB.drop 2) fX2 (sL n .gone)=.ok (.ret (.obj 12),fX2) ⟨(12,.lst [.ge 0,.int (.ofNat 0)])::(sL n .gone).os,13⟩:=by kernel_rfl
theorem xE:dW bxF.i=true/\fL bxA.v=true/\dg bxA.t=true/\cH bxA.t=true:=⟨by kernel_rfl,by kernel_rfl,by kernel_rfl,by kernel_rfl⟩
theorem CQ {n:Nat}:∀e∈aiL n,e=AV.ai:=fun e h=>(List.mem_replicate.mp h).2
theorem pE {V:Vl}:∀{vs:List Value},(∀v∈vs,∃i t,v=.int i t)->Dens V (aiL vs.length) vs
 |[]=>fun zz=>trivial
 |v::r=>fun h=>⟨let ⟨i,t,e⟩:=h v (.head _);⟨i,t,e⟩,pE fun v hv=>h v (.tail _ hv)⟩
theorem CR {n:Nat}{j:Nat}{v:AV}(e:bp (jM n) j=some v):v=.ai:=by
 rw[br]at e;have m:=List.mem_of_getElem? e;unfold jM je at m;refine aj (List.mem_filterMap.mp m) fun k zy hk=>?_;rw[br]at hk;exact CQ v (List.mem_of_getElem? hk)
section
variable {d:Dx}{V W:Vl}{fr fr':AF}{σ σ':ST}{s:Shared}{E:Value->Shared->Prop}
theorem At.less (a:At d V fr σ s)(hsc:fr'.sc=fr.sc)(hmd:fr'.md=fr.md)(hfa:fr'.fa=none)(hcel:fr'.cel=[])(h:∀x v,aw fr'.loc x=some v->∃v0,aw fr.loc x=some v0/\∀u,Den V v0 u->Den V v u):At d V fr' σ s:=by
 refine dP a.st fun m news X=>?_;refine ⟨a.c,⟨by rw[hmd];exact a.l.md,by rw[hfa];trivial,hsc.trans a.l.sc,fun x i q=>by rw[hcel]at q;exact ag q⟩,a.v,m,news,X.F,X.N,X.D,X.nd,fun x v q=>?_⟩;refine aj (h x v q) fun v0 h1 h2=>?_;refine aj (X.lc x v0 h1) fun u h3 h4=>?_;exact ⟨u,h3,h2 u h4⟩
theorem CS {t value:Expr}{pos:Pos}{Q:Flow->Shared->Prop}(hc:fL value=true)(ht:dg t=true)(hs:cH t=true)(h:wpAny d.M d.A (eval value d.ev) (fun u s₁=>wpAny d.M d.A (assign t d.ev u) (fun zz s₂=>Q .next s₂) E s₁) E s):wpAny d.M d.A (exec (.Assign [t] value pos) d.ev) Q E s:=by
 refine wpAny_Assign_stores (wpAny_mono h (fun u s₁ q=>?_) fun zz zz q=>q) (bB hc) (by unfold swappedStores;induction t using bc<;>first|rfl|exact ak ht);rw[bE hs];exact q
theorem mO {x:Str}{v:AV}(h:aw fX2.loc x=some v):x=nW1/\v=.ge 0:=by
 have m:=aU h;change (x,v)∈[(nW1,AV.ge 0)]at m;refine ay (bo (bg m)) fun z'0 z'1=>?_;obtain rfl:=z'0;obtain rfl:=z'1;exact ⟨rfl,rfl⟩
theorem CU:aw cu.loc nW1=some (.ge 0):=by kernel_rfl
theorem Gx:aw fX1.loc nW1=some (.int (.ofNat 0)):=by kernel_rfl
theorem xF {xs:Addr}{vs:List Value}(hv:∀v∈vs,∃i t,v=.int i t)(hl:vs.length<=63){vl vu vt:Value}{lo hi st:Option Int}{sl:Addr}(pl:IsPart vl lo)(pu:IsPart vu hi)(pt:IsPart vt st)(hst:zI st=true)(a:At d V fr σ s)(h:s.heap.IsList xs vs.toArray)
  {Q:Value->Shared->Prop} (P:Po d V fr (ey (.lst (je (aiL vs.length) lo hi st)) σ) s (DE (.obj σ.nx)) Q) (hs:s.heap.IsSliceOf sl vl vu vt):Itm d (.ref xs) (.ref sl) s Q E:=by
 have hlen:vs.length=(aiL vs.length).length:=(List.length_replicate).symm;refine ⟨⟨_,_,h.typeIs,slot_list_getitem.lookup⟩,wpAny_getItem_list_slice h hs pl pu pt ?_ ?_ (by rw[List.size_toArray];have:=bC;omega)⟩
 ·rintro rfl;exact ak hst
 ·rw[oA];have hp:=(pE (V:=V) hv).pick (sliceRange (sliceBounds lo hi st vs.length).1 (sliceBounds lo hi st vs.length).2.1 (sliceBounds lo hi st vs.length).2.2);have e:je (aiL vs.length) lo hi st=(sliceRange (sliceBounds lo hi st vs.length).1 (sliceBounds lo hi st vs.length).2.1 (sliceBounds lo hi st vs.length).2.2).filterMap (bp (aiL vs.length)):=by
   unfold je;rw[<-hlen]
  rw[e]at P;exact P.push (tk:=s.toks) a rfl (dZ hp)
def BxI (d:Dx) (V0:Vl) (n:Nat) (s:Shared) (k:Nat) (s':Shared):Prop:=∃j h tk W,s'=Shared.to s h tk/\(jM n).length+1<=k+j/\V0.le W/\At d W fX2 (sL n (.itr 10 j)) s'
theorem xG (ht:d.tb=tbT)(rm:Room d.A 30){vs:List Value}{xs:Addr}(hv:∀v∈vs,∃i t,v=.int i t)(hl:vs.length<=63)(hx7:V.ρ 7=some xs)(hg:∃o k,d.h₀.get? xs=some o/\o.cls=.type "list"/\o.data=.seq vs.toArray k) :
  Tr d V fX0 sX (execs bxB d.ev) fX2 ⟨(12,.lst [.ge 0,.int (.ofNat 0)])::(sL vs.length .gone).os,13⟩ (DF (.ret (.obj 12))):=fun s Q E a P=>by
 have h29:=bw bR 29;have rm':=rm.mono (er 29);have ex:EOk d.tb 29 (ev dE 29).ex:=ht▸h29.ex;rw[CK];refine c0 sS0 IF rfl ht rm' a fun h tk W le a₁=>?_;have iter:TE d W fX1 sX (eval bxF.i d.ev) (.obj 10) (ey (.lst (jM vs.length)) sX):=fun s1 Q1 E1 b P1=>by
  rw[CP];refine PyProof.Rows.Subscript_ (ex IG rfl rm' _ _ _ b fun uv h tk W₁ le₁ du b₁=>wpAny_Slice (e9 ex rm' (e:=none) none sX rfl _ _ _ b₁ fun u' h' tk' W' le' d' b₂=>e9 ex rm' (e:=some bxS.e) (some (.ofNat 24)) sX Gv _ _ _ b₂ fun u'' h'' tk'' W'' le'' d'' b₃=>e9 ex rm' (e:=none) none sX rfl _ _ _ b₃ fun u3 h3' tk3 W3 le3 d3 b₄=>?_));refine aj du fun x hx du'2=>?_;clear du;obtain rfl:=du'2;obtain rfl:=soo ((le₁.ρ _ _ (le.ρ _ _ hx7)).symm.trans hx);refine aR hg fun o k g1 g2 g3=>?_;clear hg;refine ay (xF (Q:=fun v s₂=>Q1 v s₂) (E:=E1) hv hl d' d'' d3 rfl b₄.junk (b₄.junk.stK fun m news X=>⟨o,X.F.keep _ _ g1,g2,k,g3⟩) ((((P1.from le₁).from le').from le'').from le3) (Heap.IsSliceOf.new _ _ _ _)) fun z'0 q3=>?_;refine aI z'0 fun T id q1 q2=>?_;clear z'0;exact tail_any (ops:=[_,_]) q1 q2 q3 rfl
 refine wpAny_execs_cons (wpAny_For (iter _ _ _ a₁ fun u h' tk' W' le' du a₂=>oM du 11 (sL vs.length (.itr 10 0)) (ht▸IH vs.length) _ _ _ a₂ fun ui h'' tk'' W'' le'' di a₃=>?_) (dq xE.1 _));refine aj di fun x hx di'2=>?_;clear di;obtain rfl:=di'2;refine codeAny_forLoop_any (BxI d W'' vs.length s) (fun k s' hI=>?_) ((jM vs.length).length+1) ⟨0,h'',tk'',W'',rfl,aP _,.refl _,a₃.less rfl rfl rfl rfl fun x v q=>?_⟩
 ·refine iS hI fun j h3 tk3 W3 hI'4 hk le3 a4=>?_;clear hI;obtain rfl:=hI'4;generalize hn:(bp (jM vs.length) j)=x';induction x' using aF with
  |none=>
   refine NX.k (r:=none) (σ':=sL vs.length .gone) (j3 none (sL vs.length .gone) (by rw[ht,Gw,hn];rfl)) a4 (le3.ρ _ _ hx) (fun e h5 tk5 a5=>?_) fun v e=>ag e;refine wpAny_execs_nil ?_;show wpAny d.M d.A (execs (bxB.drop 2) d.ev) Q E (Shared.to s h5 tk5);exact (bw bR 30).bl (IK vs.length) ht rm _ _ _ a5 fun l h6 tk6 W6 le6 dl a6=>P l h6 tk6 W6 ((((le.trans le').trans le'').trans le3).trans le6) dl a6
  |some v=>
   obtain rfl:=CR hn;refine NX.k (r:=some .ai) (σ':=sL vs.length (.itr 10 (j+1))) (j3 (some .ai) (sL vs.length (.itr 10 (j+1))) (by rw[ht,Gw,hn];rfl)) a4 (le3.ρ _ _ hx) (fun e=>ag e.symm) fun v e u h5 tk5 dv a5=>?_;obtain rfl:=soo e;refine kJ ex ew rm' (le3.ρ _ _ hx) dv cu _ (ht▸II _) _ _ _ a5 fun zz h6 tk6 W6 le6 zz a6=>?_;rw[CN];show wpAny d.M d.A (execs [Stmt.Assign [bxA.t] bxA.v bxA.p] d.ev) _ _ _;refine wpAny_execs_cons (CS xE.2.1 xE.2.2.1 xE.2.2.2 (CO ht (rm'.mono (by decide)) W6 _ _ _ a6 fun u7 h7 tk7 W7 le7 du7 a7=>?_));refine aI du7 fun i t du7'2 hi=>?_;clear du7;obtain rfl:=du7'2;refine gH ex ew rm' (v:=.ge 0) (show Den W7 (.ge 0) (.int i t) from ⟨i,t,rfl,hi⟩) cu _ (ht▸IJ _) _ _ _ a7 fun zz h8 tk8 W8 le8 zz a8=>?_;refine wpAny_execs_nil ⟨k - 1,?_,j+1,h8,tk8,W8,rfl,?_,((le3.trans le6).trans le7).trans le8,a8.less rfl rfl rfl rfl fun x v q=>?_⟩
   ·have:j < (jM vs.length).length:=by
     rw[br]at hn;exact (List.getElem?_eq_some_iff.mp hn).1
    omega
   ·omega
   ·refine ay (mO q) fun z'0 z'1=>?_;obtain rfl:=z'0;obtain rfl:=z'1;exact ⟨_,CU,fun u d=>d⟩
 ·refine ay (mO q) fun z'0 z'1=>?_;obtain rfl:=z'0;obtain rfl:=z'1;exact ⟨_,Gx,fun u ⟨t,e⟩=>⟨0,t,e,Int.le_refl _⟩⟩
end
def hkX:CL:=fun g vs σ=>gd (Nat.beq g 963) (on1 vs fun a=>oF a σ fun zz zz zz=>.ok (.obj (σ.nx+5)) ⟨(σ.nx+5,.bx 0 [])::σ.os,σ.nx+6⟩)
theorem CV:aa tbT.fns 963=some (fiA 963):=by kernel_rfl
theorem xH (i:Nat):hG (fiA 963) [.obj i]=some [(nS,.obj i)]:=by kernel_rfl
theorem Gy:dD (fiA 963).scope.names=true:=by kernel_rfl
theorem CW (i:Nat):b9 (fiA 963).scope.names [(nS,.obj i)]=[(nS,.obj i)]:=by kernel_rfl
theorem xI (i:Nat):aw [(nS,AV.obj i)] nS=some (.obj i):=by kernel_rfl
noncomputable def vlX (x:Addr):Vl:=⟨fun c=>if c=7 then some x else none,fun zz=>none,fun zz=>1,fun zz=>none⟩
theorem Gz {x:Addr}:Vx (vlX x) 10:=⟨fun i hi=>⟨if_neg (by lia),rfl,rfl⟩,⟨fun zz zz=>Int.le_refl _,fun zz zz=>⟨by show (-1:Int)<=1;decide,by show (1:Int) < 5;decide⟩,fun zz zz zz=>Int.le_refl _⟩,fun zz zz h=>ag h⟩
theorem CX {n:Nat}(hn:40<=n):COk tbL n hkX:=by
 intro g vs σ v σ' q d V fr us ht rm dv;refine Snd.of q (Φ:=fun v σ'=>TC d V fr σ g us v σ') (Snd.gd fun hg=>aK hg▸Snd.n1 dv fun b u1 e q1=>e▸Snd.lsx fun i o0 ps hi ho=>Snd.ok fun s R at_ P=>at_.stK fun mm news X=>?_);subst hi;refine aj q1.refk fun x0 hx0 z'2=>?_;obtain rfl:=z'2;have rm':Room d.A (39+1):=rm.mono hn;refine bu (X.D.split ho) fun pre l post e1 hl up=>?_;refine gE hl fun x hx hl'2 hl'3 hl'4=>?_;clear hl;obtain ⟨hcl,kk,hdat⟩:=hl'2;refine ay hl'3 fun hlen hv=>?_;clear hl'3;obtain rfl:=hl'4;obtain rfl:=soo (hx0.symm.trans hx);subst e1;have hsub:∀y,cnt y (pre++post)<=cnt y (pre++([(x0,o0)]++post)):=fun y=>by simp only[aJ];lia
 have hnot:x0 ∉ (pre++post).map (·.1):=fun hm=>by
  have nd:=(List.perm_middle (a:=(x0,o0)) (l₁:=pre) (l₂:=post)).map (·.1) |>.nodup_iff.mp X.nd
  rw[List.map_cons,List.nodup_cons]at nd;exact nd.1 hm
 have hN:=X.N (x0,o0) (a9 _ (.head _));have OL:dB d.w d.K tbL:=ht▸at_.c.O;have a0:At { d with tl:=pre++post } V fr ⟨[],σ.nx⟩ s:=⟨⟨at_.c.O,at_.c.B,at_.c.hA,at_.c.hh,at_.c.hg,at_.c.hk,at_.c.hf,at_.c.T,at_.c.X⟩,⟨at_.l.md,at_.l.fa,at_.l.sc,at_.l.cel⟩,at_.v,mm,pre++post,X.F,fun z hz=>X.N z (ck hsub z hz),.nil,dF hsub X.nd,X.lc⟩
 have X0:Sx { d with tl:=pre++post } V fr [] s.heap mm (pre++post):=⟨X.F,fun z hz=>X.N z (ck hsub z hz),.nil,dF hsub X.nd,X.lc⟩
 refine FN (d:={ d with tl:=pre++post }) (ht▸CV) (xH i) Gy (show Dens V [.obj i] [.ref x0] from ⟨⟨x0,hx0,rfl⟩,trivial⟩) rm' a0 X0 fun f' h₁ tk₁ hcl' hcm rm'' a'=>?_;have hg:(hideAll s.heap ((pre++post).map (·.1))).get? x0=some o0:=hideAll_get _ hN.1 hnot;refine a'.stK fun m₁ news₁ X₁=>?_;have e1:news₁=pre++post:=by have:=X₁.D;induction this using Led.ns;rfl
 subst e1;have a₂:At { d.call f' (hideAll s.heap ((pre++post).map (·.1))) with tb:=tbT,tl:=pre++post } (vlX x0) fX0 sX (Shared.to s h₁ tk₁):=
  a'.re X₁ (tbk _ _ OL) .nil (fun z hz=>hz) X₁.nd Gz ⟨by show MdOk _ f'.cm none;rw[hcm];trivial,trivial,a'.l.sc,fun x i h=>ag h⟩ fun x v h=>by
   have hm:=aU h;change (x,v)∈[(nS,AV.obj 7)]at hm;refine ay (bo (bg hm)) fun z'0 z'1=>?_;obtain rfl:=z'0;obtain rfl:=z'1;refine aj (X₁.lc nS (.obj i) (by show aw (b9 _ _) nS=_;rw[CW];exact xI _)) fun u q1 q2=>?_;refine aj q2.refk fun y q3 z'2=>?_;obtain rfl:=z'2;exact ⟨_,q1,y,by rw[<-soo (hx0.symm.trans q3)];rfl,rfl⟩
 refine xG (d:={ d.call f' (hideAll s.heap ((pre++post).map (·.1))) with tb:=tbT,tl:=pre++post }) rfl (rm''.mono (by decide)) hv hlen rfl ⟨o0,kk,hg,hcl,hdat⟩ _ _ _ a₂ fun l₂ h₂ tk₂ W₂ le₂ dl a₃=>a₃.stK fun m₂ news₂ X₂=>?_;obtain ⟨u,rfl,y,hy,rfl⟩:=dl.is;refine aR (X₂.D.out (i:=12) (o:=.lst [.ge 0,.int (.ofNat 0)]) rfl) fun lb n1 p1 ib D2=>?_;refine aj D2.untl fun n3 z'1 zy=>?_;obtain rfl:=z'1;refine bu ib fun y' us k2 hy' hd ib'5=>?_;clear ib;obtain rfl:=ib'5;obtain rfl:=soo (hy.symm.trans hy');refine aR hd.i2 fun c1 c2 z'2 z'3 z'4=>?_;obtain rfl:=z'2;refine aI z'3 fun ii t1 z'3'2 hi=>?_;clear z'3;obtain rfl:=z'3'2;refine av z'4 fun t2 z'4'1=>?_;clear z'4;obtain rfl:=z'4'1;have leA:V.le (V.at_ (σ.nx+5) y):=Vl.at_le (at_.v.fresh _ (Nat.le_add_right _ _)).1;have e2:(V.at_ (σ.nx+5) y).ρ (σ.nx+5)=some y:=if_pos rfl;have vx:Vx V (σ.nx+5):=⟨fun i hi=>at_.v.fresh i (by lia),at_.v.num,at_.v.txt⟩
 have ibx:Is d.w (V.at_ (σ.nx+5) y) d.tb.flds (σ.nx+5) (.bx 0 []) [(y,{ cls:=.type "list",data:=.seq [Value.int ii t1,Value.int (Int.ofNat 0) t2].toArray k2 })]:=⟨y,_,_,k2,ii.toNat,0,t1,t2,e2,rfl,by rw[Int.toNat_of_nonneg hi];rfl,⟨aP 0,trivial⟩,rfl⟩
 have hle:∀z,cnt z ([(y,({ cls:=.type "list",data:=.seq [Value.int ii t1,Value.int (Int.ofNat 0) t2].toArray k2 }:Obj))]++(pre++post))<=cnt z news₂:=fun z=>by
  have c1:=aS p1 z;simp only[aJ]at c1 ⊢;lia
 have hxo:h₂.get? x0=some o0:=X₂.F.keep _ _ hg;have hxn:x0 ∉ ([(y,({ cls:=.type "list",data:=.seq [Value.int ii t1,Value.int (Int.ofNat 0) t2].toArray k2 }:Obj))]++(pre++post)).map (·.1):=fun hm=>by
  rw[List.map_append,List.map_cons]at hm;rcases bn hm with hm|hm
  ·have hm:x0=y:=bg hm;have:=(X₂.N (y,_) (ck hle _ (.head _))).2.2;rw[<-hm]at this;exact ag (this.symm.trans hg)
  ·exact hnot hm
 refine leaveK_ X₂.F (fun z hz=>X₂.N z (ck hle z hz)) fun Fk Nk=>P _ h₂ tk₂ _ leA ⟨y,e2,rfl⟩ (at_.back' leA X (fun m₁ q=>iD X.F q▸Fk) (n':=[(y,({ cls:=.type "list",data:=.seq [Value.int ii t1,Value.int (Int.ofNat 0) t2].toArray k2 }:Obj))]++(pre++([(x0,o0)]++post))) (fun z hz=>?_) (.cons ibx (X.D.mono leA)) ?_ vx.at_) fun m₁ q=>iD X.F q▸Fk
 ·rcases bn hz with hz|hz
  ·exact Nk z (bS _ hz)
  ·rcases bn hz with hz|hz
   ·exact Nk z (a9 _ (bS _ hz))
   ·rcases bn hz with hz|hz
    ·obtain rfl:=bg hz;exact ⟨hxo,hN.2⟩
    ·exact Nk z (a9 _ (a9 _ hz))
 ·have nd:=dF hle X₂.nd;have pm:([(y,({ cls:=.type "list",data:=.seq [Value.int ii t1,Value.int (Int.ofNat 0) t2].toArray k2 }:Obj))]++(pre++([(x0,o0)]++post))).Perm ([(x0,o0)]++([(y,({ cls:=.type "list",data:=.seq [Value.int ii t1,Value.int (Int.ofNat 0) t2].toArray k2 }:Obj))]++(pre++post))):=kg fun z=>by
   simp only[aJ];lia
  exact aW pm (List.nodup_cons.mpr ⟨hxn,nd⟩)
noncomputable def noq:AO->Bool
 |.opq _=>false
 |_=>true
set_option tactic.hygienic true in
theorem Is.fl {w:World}{V:Vl}{fl fl':FL}{i:Nat}{o:AO}{l:L2}(hf:fl'.f=fl.f)(h:noq o=true)(q:Is w V fl i o l):Is w V fl' i o l:=by
 induction o using aN<;>first|exact ak h|exact q|skip
 ·refine iS q fun x d es k h1 h2 h3 h4=>?_;clear q;exact ⟨x,d,es,k,h1,h2,by rw[hf];exact h3,h4⟩
 ·rename_i v
  induction v using aF<;>exact q
 ·obtain h|⟨h1,d,es,kk,h2,h3⟩:=q
  ·exact .inl h
  ·exact .inr ⟨h1,d,es,kk,fun W=>by rw[hf];exact h2 W,h3⟩
theorem Led.fl {w:World}{V:Vl}{fl fl':FL}{tl:L2}(hf:fl'.f=fl.f){os:List (Nat×AO)}{n:L2}(D:Led w V fl tl os n):os.all (fun p=>noq p.2)=true->Led w V fl' tl os n:=by
 induction D with
 |nil=>exact fun zz=>.nil
 |cons a _ ih=>
  intro h;rw[List.all_cons,Bool.and_eq_true]at h;exact .cons (a.fl hf h.1) (ih h.2)
def m0:Rn:=⟨fun c=>Nat.ble c 9,fun c=>[107,118,106,116,135,165,195,225,0,283].getD c 0,fun k=>@Bool.rec (fun zz=>AV) (.int (.ofNat 0)) (.int (.ofNat 6)) (Nat.beq k 0),fun k=>Nat.beq k 0||Nat.beq k 100,fun zz=>false⟩
def vl0 (W:Vl):Vl:=⟨fun c=>if c<=9 then W.ρ (m0.f c) else none,fun c=>if c<=9 then W.δ (m0.f c) else none,fun k=>if k=0 then 6 else if 300<=k/\k < 1000 then -1 else if 200<=k/\k < 300 then 1 else 0,fun zz=>none⟩
def f1 (i:Nat):AV:=match fW none i with
 |.obj c=>.obj c
 |_=>@Bool.rec (fun zz=>AV) .non (.obj 9) (Nat.beq i 4)
def uN:List (Nat×AO):=(0,dw (.si 0 0) (.si 100 0))::(1,.fdc (cG f1 cX 0))::bOs
def w0B (a b:AV):Bool:=match b with
 |.rn=>bF a .non||bF a (.obj 9)
 |.obj c=>bF a (.obj c)
 |.opn _=>bF a .non
 |.opt k=>(Nat.ble 300 k&&Nat.blt k 1000)&&bF a .non
 |_=>false
theorem CY:(List.range 40).all (fun i=>w0B (f1 i) (fW none i))=true:=by kernel_rfl
section
variable {w:World}{W:Vl}{fl:FL}{tl news:L2}{os:List (Nat×AO)}
theorem GA:m0.Ok W (vl0 W):=by
 refine ⟨fun c hc=>if_pos (az hc),fun c hc zz=>if_pos (az hc),fun k hk=>?_,fun k hk=>?_⟩
 ·rcases cx hk with h|h
  ·obtain rfl:=aK h;rfl
  ·obtain rfl:=aK h;rfl
 ·rcases cx hk with h|h
  ·obtain rfl:=aK h;rfl
  ·obtain rfl:=aK h;rfl
theorem xJ:bK (vl0 W).ι:=by
 refine ⟨fun k hk=>?_,fun k hk=>?_,fun k h1 h2=>?_⟩
 ·show (if k=0 then (6:Int) else if 300<=k/\k < 1000 then -1 else if 200<=k/\k < 300 then 1 else 0)<=6
  split
  ·exact Int.le_refl _
  ·rw[if_neg (by lia),if_neg (by lia)];decide
 ·show -1<=(if k=0 then (6:Int) else if 300<=k/\k < 1000 then -1 else if 200<=k/\k < 300 then 1 else 0)/\(if k=0 then (6:Int) else if 300<=k/\k < 1000 then -1 else if 200<=k/\k < 300 then 1 else 0) < 5;rw[if_neg (by lia),if_neg (by lia),if_neg (by lia)];exact ⟨by decide,by decide⟩
 ·show 1<=(if k=0 then (6:Int) else if 300<=k/\k < 1000 then -1 else if 200<=k/\k < 300 then 1 else 0);rw[if_neg (by lia),if_neg (by lia),if_pos (by lia)];decide
theorem CZ {a b:AV}{v:Value}(h:w0B a b=true)(d:Den (vl0 W) a v):Den (vl0 W) b v:=by
 induction b using aA<;>first|exact ak h|skip
 ·exact aX h▸d
 ·have h1:=an1 h;have h2:=an2 h;have h3:=an1 h1;have h4:=an2 h1;have h3:=az h3;have h4:_ < 1000:=az h4;rw[aX h2]at d;exact .inl ⟨by show (if _=0 then (6:Int) else _)=-1;rw[if_neg (by lia),if_pos (by lia)],d⟩
 ·rw[aX h]at d;exact fun zz=>d
 ·rcases cx h with h|h
  ·rw[aX h]at d;exact .inl d
  ·rw[aX h]at d;refine aj d fun x zy d'2=>?_;clear d;obtain rfl:=d'2;exact .inr ⟨x,rfl⟩
theorem uO:∀{l:List Str} {u:Nat},u+l.length<=8->Led w (vl0 W) fl [] (fD l u none) []
 |[],_=>fun zz=>.nil
 |x::r,u=>fun h=>by
  rw[List.length_cons]at h;exact .cons (l:=[]) (.inl ⟨by show (if 300+u=0 then (6:Int) else _)=-1;rw[if_neg (by lia),if_pos (by lia)],rfl⟩) (uO (l:=r) (by lia))
theorem GB (hf:tbT.flds.f=fl.f)(D:Led w W fl tl os news)(h:fy m0 uN os=true){G:Prop}(Kk:∀lw n2,(lw++n2).Perm news->PiL w (W.ρ 107) 0 [] lw (vl0 W) lw [] []->Led w W fl tl (de m0.f uN os) n2->G):G:=by
 refine aR (D.ref (GA (W:=W)) uN h) fun n1 n2 p q1 q2=>?_;refine Kk n1 n2 p ⟨by rw[List.append_nil,List.append_nil],?_,xJ,by show (0:Int)<=6;decide,rfl,.nil⟩ q2;have q3:=q1.fl (fl':=tbT.flds) hf (by kernel_rfl);clear q1;rw[nN]
 induction q3 using Led.cs with
 |cons i0 q4=>
 induction q4 using Led.cs with
 |cons i1 q5=>
 refine .cons i0 (.cons ?_ ?_)
 ·refine FdcIs.k i1 fun x o us h1 zz h2 h3=>h3 _ _ _ h1 ?_;rw[k8];refine qA h2 fun i y hy d=>CZ (aD CY (eo ?_)) d;have:=iK hy;rw[<-jt];exact (List.getElem?_eq_some_iff.mp this).1
 ·have:=q5.join (uO (w:=w) (W:=W) (fl:=tbT.flds) (l:=clN) (u:=0) (by rw[fe];decide));rwa [List.append_nil]at this
end
def C0:Cfg:=⟨tbL,100,hkX⟩
def hkL:CL:=fun g vs σ=>(hkM g vs σ).or (hkH g vs σ)
def iC:Cfg:=⟨tbL,199,hkL⟩
theorem xK:fG C0:=fun n hn=>CX (ba (show 40<=100 by decide) (Nat.le_succ_of_le hn))
theorem iP:fG iC:=fun n hn g vs σ v σ' q d V fr us ht rm dv=>
 Snd.of q (Φ:=fun v σ'=>TC d V fr σ g us v σ') (Snd.or (fun v σ' q=>CJ (n:=n+1) (Nat.succ_le_succ hn) q ht rm dv) fun v σ' q=>CD (n:=n+1) (Nat.succ_le_succ hn) q ht rm dv)
def lwB:List Stmt:=(fiA 1020).body
def lwS:Scope:=(fiA 1020).scope
def qK:List (Str×Nat):=[(dnB,33),(dnW,32)]
def GC:List (Nat×AO):=[(20,.ctb 984 (lq 987) []),(21,.ctb 989 (lq 994) [])]
def fA:AF:=⟨lwS,[(nS,.obj 31)],qK,none,none⟩
def sA (ob:Obj) (pre:List Value):ST:=⟨(31,.lsx ob pre)::(GC++[(32,.cel none),(33,.cel none)]),100⟩
def rA (ob:Obj) (pre:List Value):RS:=(ev C0 230).bl (lwB.take 1) fA (sA ob pre)
def mP (k:Nat) (o:Option AO):Bool:=cV o fun a=>match a with|.cel (some (.obj i))=>Nat.beq i k|_=>false
def GD (o:Option AO):Bool:=cV o fun a=>match a with|.bx 0 []=>true|_=>false
def obB (k:Nat) (o:Option AV):Bool:=cV o fun a=>match a with|.obj i=>Nat.beq i k|_=>false
def nB (k:Nat) (o:Option Nat):Bool:=cV o (Nat.beq k)
def nR (fr:AF):Bool:=nB 33 (aw fr.cel dnB)&&nB 32 (aw fr.cel dnW)
def uP (os:List (Nat×AO)):List (Nat×AO):=de m0.f uN os
def chA (q:AFl×AF) (os r:List (Nat×AO)):Bool:=(cf q.1&&(obB 31 (aw q.2.loc nS)&&nR q.2))&&(fy m0 uN os&&(jL r&&((mP 107 (aa r 32)&&mP 105 (aa r 33))&&GD (aa r 105))))
def okR {α:Type} (r:R α) (k:α->ST->Bool):Bool:=@R.rec α (fun zz=>Bool) (fun a σ=>k a σ) false r
theorem GE (ob:Obj)(pre:List Value):aa (uP (bN (rA ob pre)).os) 31=some (.lsx ob pre):=by kernel_rfl
theorem GF (ob:Obj)(pre:List Value):okR (rA ob pre) (fun q σ=>chA q σ.os (uP σ.os))=true:=by kernel_rfl
noncomputable def mr0 (ob:Obj)(pre:List Value):List (Nat×AO):=[(29,.lsx ob pre),(32,.cel (some (.obj 4))),(33,.cel (some (.obj 30))),(34,.gone)]
def lf1:AF:=⟨lwS,[(nS,.obj 29)],qK,none,none⟩
def sB (ob:Obj) (pre:List Value):ST:=⟨(5,.opq ⟨4,[],0⟩)::(GC++((30,.bx 0 [])::mr0 ob pre)),100⟩
def rB (ob:Obj) (pre:List Value):RS:=(ev iC 230).bl ((lwB.drop 1).take 1) lf1 (sB ob pre)
def inJ (js:List Nat) (e:AV):Bool:=match e with|.obj j=>mw js j|_=>false
def esB (js:List Nat) (a b:Nat) (o:Option AO):Bool:=cV o fun x=>match x with|.lst es=>es.all (inJ js)&&(Nat.ble a es.length&&Nat.ble es.length b)|_=>false
def GG (o:Option AO):Bool:=cV o fun a=>match a with|.bx b []=>Nat.ble b 6|_=>false
def IL (o:Option AO):List Nat:=@Option.rec _ (fun zz=>List Nat) [] (fun a=>match a with|.opq p=>p.js|_=>[]) o
def op0 (o:Option AO):Bool:=cV o fun a=>match a with|.opq p=>Nat.beq p.wi 4&&Nat.beq p.t 0|_=>false
def kN (fr:AF):Nat:=@Option.rec _ (fun zz=>Nat) 0 Gg (aw fr.loc dnN)
def frB (q:AFl×AF):Bool:=(cf q.1&&obB 29 (aw q.2.loc nS))&&(nR q.2&&(obB (kN q.2) (aw q.2.loc dnN)&&Nat.ble 35 (kN q.2)))
def chB (q:AFl×AF) (σ:ST):Bool:=frB q&&(((op0 (aa σ.os 5)&&jL σ.os)&&(GG (aa σ.os 30)&&esB (IL (aa σ.os 5)) 1 3 (aa σ.os (kN q.2))))&&(mP 4 (aa σ.os 32)&&mP 30 (aa σ.os 33)))
theorem IM (ob:Obj):okR (rB ob []) chB=true:=by kernel_rfl
theorem IN (ob:Obj)(a:Value):okR (rB ob [a]) chB=true:=by kernel_rfl
theorem IP (ob:Obj)(a b:Value)(r:List Value):okR (rB ob (a::b::r)) chB=true:=by kernel_rfl
theorem IQ (ob:Obj):[29,34].map (aa (bN (rB ob [])).os)=[some (.lsx ob []),some .gone]:=by kernel_rfl
theorem IR (ob:Obj)(a:Value):[29,34].map (aa (bN (rB ob [a])).os)=[some (.lsx ob [a]),some .gone]:=by kernel_rfl
theorem IS (ob:Obj)(a b:Value)(r:List Value):[29,34].map (aa (bN (rB ob (a::b::r))).os)=[some (.lsx ob (a::b::r)),some .gone]:=by kernel_rfl
theorem GH (ob:Obj)(pre:List Value):okR (rB ob pre) chB=true/\[29,34].map (aa (bN (rB ob pre)).os)=[some (.lsx ob pre),some .gone]:=match pre with
 |[]=>⟨IM ob,IQ ob⟩
 |[a]=>⟨IN ob a,IR ob a⟩
 |a::b::r=>⟨IP ob a b r,IS ob a b r⟩
def lf2:AF:=⟨lwS,[(nS,.obj 29),(dnN,.obj 31)],qK,none,none⟩
def sC (vs:List Value):ST:=⟨wOs none++[(31,.lsu vs []),(32,.cel (some (.obj 0)))],100⟩
def rC (vs:List Value):RS:=(ev ez 230).bl ((lwB.drop 2).take 1) lf2 (sC vs)
noncomputable def shN:Sh:=⟨0,.boo false,false,0,[]⟩
def chC (q:AFl×AF) (σ:ST):Bool:=((cf q.1&&obB 29 (aw q.2.loc nS))&&(nR q.2&&obB 31 (aw q.2.loc dnN)))&&(mP 0 (aa (aL σ.os 31) 32)&&fM shN (kOf σ) (aL (aL σ.os 31) 32))
theorem GI (vs:List Value):okR (rC vs) chC=true:=by kernel_rfl
theorem GJ (vs:List Value):aa (bN (rC vs)).os 31=some (.lsu vs [.obj (kOf (bN (rC vs)))]):=by kernel_rfl
def lwF:ForR:=(bp lwB 3).elim ⟨dxE,dxE,[],default⟩ yR
def nT:Str:=S [116,117,114,110]
def lf4 (v:AV):AF:=⟨lwS,[(nS,.obj 29),(dnN,.obj 31),(nT,v)],qK,none,none⟩
noncomputable def mr (ob:Obj)(pre:List Value)(ks:List AV)(j:Nat):List (Nat×AO):=[(29,.lsx ob pre),(32,.cel (some (.obj 4))),(33,.cel (some (.obj 30))),(34,.itg ks j)]
noncomputable def gw (n:Nat):List AV:=(List.range n).map fun i=>.obj (40+i)
noncomputable def js4 (n:Nat):List Nat:=(List.range n).map fun i=>40+i
def sD (n t b:Nat) (ob:Obj) (pre:List Value) (ks:List AV) (j:Nat):ST:=⟨oC ⟨4,js4 n,t⟩ b (gw n)++mr ob pre ks j,100⟩
def lf3:AF:=⟨lwS,[(nS,.obj 29),(dnN,.obj 31)],qK,none,none⟩
def rD (n t b:Nat) (ob:Obj) (pre:List Value) (ks:List AV) (j:Nat):RS:=(ev iC 230).bl (lwF.b.drop 1) lf3 (sD n t b ob pre ks j)
def chD (n:Nat) (q:AFl×AF) (σ:ST):Bool:=frB q&&((jL σ.os&&esB (js4 n) 2 4 (aa σ.os (kN q.2)))&&(mP 4 (aa σ.os 32)&&mP 30 (aa σ.os 33)))
theorem GK (t b:Nat)(ob:Obj)(pre:List Value)(ks:List AV)(j:Nat):[2,3,4,5].map (fun n=>okR (rD n t b ob pre ks j) (chD n))=[2,3,4,5].map fun zz=>true:=by kernel_rfl
theorem GL (t b:Nat)(ob:Obj)(pre:List Value)(ks:List AV)(j:Nat):[2,3,4,5].map (fun n=>[5,29,30,34].map (aa (bN (rD n t b ob pre ks j)).os))=[2,3,4,5].map fun n=>[some (.opq ⟨4,js4 n,t⟩),some (.lsx ob pre),some (.bx b []),some (.itg ks j)]:=by kernel_rfl
noncomputable def mrG (ob:Obj)(pre:List Value):List (Nat×AO):=[(29,.lsx ob pre),(32,.cel (some (.obj 4))),(33,.cel (some (.obj 30))),(34,.gone)]
def sI (p:OpP) (b:Nat) (es:List AV) (ob:Obj) (pre:List Value):ST:=⟨oC p b es++mrG ob pre,100⟩
noncomputable def rgN (pre:List Value):Nat:=match pre with|[]=>2|[_]=>7|_=>12
section
variable (p:OpP)(b:Nat)(es:List AV)(ob:Obj)
theorem IT:(ev iC 229).ex lwF.i lf3 (sI p b es ob [])=.ok (.obj 100) ⟨(100,.rng 2)::(sI p b es ob []).os,101⟩:=by kernel_rfl
theorem IU (a:Value):(ev iC 229).ex lwF.i lf3 (sI p b es ob [a])=.ok (.obj 100) ⟨(100,.rng 7)::(sI p b es ob [a]).os,101⟩:=by kernel_rfl
theorem IV (a c:Value)(r:List Value):(ev iC 229).ex lwF.i lf3 (sI p b es ob (a::c::r))=.ok (.obj 100) ⟨(100,.rng 12)::(sI p b es ob (a::c::r)).os,101⟩:=by kernel_rfl
theorem IW (pre:List Value):(ev iC 229).ex lwF.i lf3 (sI p b es ob pre)=.ok (.obj 100) ⟨(100,.rng (rgN pre))::(sI p b es ob pre).os,101⟩:=match pre with
 |[]=>IT p b es ob
 |[a]=>IU p b es ob a
 |a::c::r=>IV p b es ob a c r
theorem GN (pre:List Value):itA tbL (.obj 100) ⟨(100,.rng 2)::(sI p b es ob pre).os,101⟩=.ok 101 ⟨(101,.itg (cF 0 2) 0)::(100,.rng 2)::(sI p b es ob pre).os,102⟩:=by kernel_rfl
theorem GO (pre:List Value):itA tbL (.obj 100) ⟨(100,.rng 7)::(sI p b es ob pre).os,101⟩=.ok 101 ⟨(101,.itg (cF 0 7) 0)::(100,.rng 7)::(sI p b es ob pre).os,102⟩:=by kernel_rfl
theorem GP (pre:List Value):itA tbL (.obj 100) ⟨(100,.rng 12)::(sI p b es ob pre).os,101⟩=.ok 101 ⟨(101,.itg (cF 0 12) 0)::(100,.rng 12)::(sI p b es ob pre).os,102⟩:=by kernel_rfl
theorem GQ (pre:List Value):itA tbL (.obj 100) ⟨(100,.rng (rgN pre))::(sI p b es ob pre).os,101⟩=.ok 101 ⟨(101,.itg (cF 0 (rgN pre)) 0)::(100,.rng (rgN pre))::(sI p b es ob pre).os,102⟩:=match pre with
 |[]=>GN p b es ob []
 |[a]=>GO p b es ob [a]
 |a::c::r=>GP p b es ob (a::c::r)
theorem GR (pre:List Value):rgN pre<=12:=match pre with
 |[]=>by show 2<=12;decide
 |[_]=>by show 7<=12;decide
 |_::_::_=>aP 12
theorem GS (pre:List Value)(ks:List AV)(j:Nat)(nx:Nat):nxA tbL 34 ⟨oC p b es++mr ob pre ks j,nx⟩=gd (Nat.ble j ks.length) (hU (bp ks j) 34 (.itg ks (j+1)) ⟨oC p b es++mr ob pre ks j,nx⟩):=by kernel_rfl
end
theorem GT (v:AV)(σ:ST):tgF tbL (ev iC 229).ex siS lwF.t 34 v lf3 σ=.ok (lf4 v) σ:=by kernel_rfl
theorem C1:dW lwF.i=true:=by kernel_rfl
structure IfN where
 g:Expr
 as:List Expr
 p:Pos
 p1:Pos
 b:List Stmt
 p2:Pos
noncomputable def IfN.st (i:IfN):Stmt:=.If (.UnaryOp .Not (.Call i.g i.as [] i.p) i.p1) i.b [] i.p2
def GU (s:Stmt):IfN:=match s with
 |.If (.UnaryOp _ (.Call g as _ p) p1) b _ p2=>⟨g,as,p,p1,b,p2⟩
 |_=>⟨dxE,[],default,default,[],default⟩
def lwD:IfN:=(bp lwF.b 0).elim ⟨dxE,[],default,default,[],default⟩ GU
theorem C2:lwF.b=lwD.st::lwF.b.drop 1:=by kernel_rfl
theorem GV:jl lwD.g=true:=by kernel_rfl
section
variable (v:AV)(p:OpP)(b:Nat)(es:List AV)(ob:Obj)(pre:List Value)(ks:List AV)(j:Nat)(nx:Nat)
theorem IX:(ev iC 229).ex lwD.g (lf4 v) ⟨oC p b es++mr ob pre ks j,nx⟩=.ok (.st 1015) ⟨oC p b es++mr ob pre ks j,nx⟩:=by kernel_rfl
theorem IY:evs (ev iC 229).ex lwD.as (lf4 v) ⟨oC p b es++mr ob pre ks j,nx⟩=.ok [.obj 4,.obj 30,.obj 31] ⟨oC p b es++mr ob pre ks j,nx⟩:=by kernel_rfl
end
def lfZ:AF:=⟨lwS,[(dnN,.obj 31)],[(dnW,30)],none,none⟩
noncomputable def rns (n k:Nat):List AV:=List.replicate (n - 1) .rn++[.obj k]
def sZ0 (sh:Sh) (n:Nat):ST:=⟨wOs none++((30,.cel (some (.obj 0)))::(31,.lst (rns n 40))::mA sh),100⟩
def sZ1 (n:Nat):ST:=⟨wOs none++[(30,.cel (some (.obj 0))),(31,.lst (rns n 34)),(34,.lst [.opn 200,.ge 1,.opn 200,.opn 200,.opn 200])],100⟩
def rZ (σ:ST):RS:=(ev ez 230).bl (lwB.drop 4) lfZ σ
def zOk (σ:ST):Bool:=okB (rZ σ) qC
theorem C3:(shT.filter fun sh=>Nat.beq sh.s 0).all (fun sh=>[2,3,4].all fun n=>zOk (sZ0 sh n))=true:=by kernel_rfl
theorem C4:[2,3,4].all (fun n=>zOk (sZ1 n))=true:=by kernel_rfl
def dA (w:World) (x:Addr) (o:AO) (l:L2):Prop:=∀(V:Vl) fl j,V.ρ j=some x->Is w V fl j o l
structure KD where
 m:Str->Option Value
 n:L2
 x0:Addr
 xb:Addr
 xl:Addr
 y1:Addr
 y2:Addr
 vs:List Value
 as:List Addr
 lw:L2
 l20:L2
 l21:L2
 lb:L2
 ll:L2
 l29:L2
 l32:L2
 l33:L2
def Sb (a b:L2):Prop:=∀y,cnt y a<=cnt y b
noncomputable def KD.all (q:KD)(le:L2):L2:=q.lw++(q.l20++(q.l21++(q.lb++(q.ll++(q.l29++(q.l32++(q.l33++(le++[]))))))))
structure LK (d:Dx) (s:Shared) (t b:Nat) (ob:Obj) (pre:List Value) (le:L2) (xs:Addr) (q:KD):Prop where
 c:Cx d
 cm:d.f.cm=none
 sc:lwS=d.f.ev.scope
 F:Fr d.h₀ d.f.L s.heap q.m
 N:News d.h₀ d.f.L s.heap q.n
 nd:(q.n.map (·.1)).Nodup
 pm:Sb (q.all le) q.n
 mS:q.m nS=some (.ref xs)
 mN:q.m dnN=some (.ref q.xl)
 cW:d.f.ev.cells.lookup dnW=some q.y1
 cB:d.f.ev.cells.lookup dnB=some q.y2
 pi:∃V0 wl pool r,PiL d.w (some q.x0) t q.as q.lw V0 wl pool r
 ht:t<=12
 va:∀v∈q.vs,∃a∈q.as,v=.ref a
 c20:∀V fl,Is d.w V fl 20 (.ctb 984 (lq 987) []) q.l20
 c21:∀V fl,Is d.w V fl 21 (.ctb 989 (lq 994) []) q.l21
 bx:dA d.w q.xb (.bx b []) q.lb
 ls:∀(V:Vl) fl j es,V.ρ j=some q.xl->Dens V es q.vs->Is d.w V fl j (.lst es) q.ll
 su:dA d.w q.xl (.lsu q.vs []) q.ll
 sr:dA d.w xs (.lsx ob pre) q.l29
 cw:∀(V:Vl) fl j k,V.ρ j=some q.y1->V.ρ k=some q.x0->Is d.w V fl j (.cel (some (.obj k))) q.l32
 cb:∀(V:Vl) fl j k,V.ρ j=some q.y2->V.ρ k=some q.xb->Is d.w V fl j (.cel (some (.obj k))) q.l33
theorem Sb.nil {b:L2}:Sb [] b:=fun zz=>bD _
def AllE (os:List (Nat×AO)):List (Nat×AO)->Prop
 |[]=>True
 |p::r=>aa os p.1=some p.2/\AllE os r
theorem AllE.mem {os:List (Nat×AO)}{es:List (Nat×AO)}(h:AllE os es):∀p∈es,aa os p.1=some p.2:=by
 induction es with
 |nil=>exact fun p hp=>absurd hp bI
 |cons q r ih=>exact fun p hp=>(aG hp).elim (fun e=>e▸h.1) fun hp=>ih h.2 p hp
section
variable {w:World}{V V':Vl}{fl fl':FL}{tl news:L2}{os:List (Nat×AO)}
theorem gx {i k:Nat}{l:L2}(h:Is w V fl i (.cel (some (.obj k))) l):∃y x,V.ρ i=some y/\V.ρ k=some x/\∀(V':Vl) fl' j k',V'.ρ j=some y->V'.ρ k'=some x->Is w V' fl' j (.cel (some (.obj k'))) l:=by
 refine bZ h fun y v o h1 h2 h'5 h'6=>?_;clear h;refine aj h'5 fun x h3 h'5'2=>?_;clear h'5;obtain rfl:=h'5'2;obtain rfl:=h'6;exact ⟨y,x,h1,h3,fun V' fl' j k' e1 e2=>⟨y,.ref x,o,e1,h2,⟨x,e2,rfl⟩,rfl⟩⟩
theorem pF {i:Nat}{ob:Obj}{pre:List Value}{l:L2}(h:Is w V fl i (.lsx ob pre) l):∃x,V.ρ i=some x/\dA w x (.lsx ob pre) l:=by
 refine aj h fun x h1 h2=>?_;clear h;exact ⟨x,h1,fun V' fl' j e=>⟨x,e,h2⟩⟩
theorem uQ {i b:Nat}{ds:List (Nat×AV)}{l:L2}(h:Is w V fl i (.bx b ds) l):∃x,V.ρ i=some x/\∀b',b<=b'->dA w x (.bx b' []) l:=by
 refine av (FQ h) fun x hx=>?_;exact ⟨x,hx,fun b' hb V' fl' j e=>fh h hb (e.trans hx.symm)⟩
theorem xL {i:Nat}{es:List AV}{l:L2}(h:Is w V fl i (.lst es) l)(hl:es.length<=100):∃x vs,V.ρ i=some x/\Dens V es vs/\(∀(V':Vl) fl' j es',V'.ρ j=some x->Dens V' es' vs->Is w V' fl' j (.lst es') l)/\dA w x (.lsu vs []) l:=by
 refine bu h fun x vs k h1 h2 h'5=>?_;clear h;obtain rfl:=h'5;have:=h2.length;exact ⟨x,vs,h1,h2,fun V' fl' j es' e d=>⟨x,vs,k,e,d,rfl⟩,fun V' fl' j e=>⟨x,[],k,e,trivial,by omega,by rw[List.append_nil]⟩⟩
theorem lz {i k n:Nat}{l:L2}(h:Is w V fl i (.itg (cF 0 n) k) l):∃x,V.ρ i=some x/\dA w x (.itg (cF 0 n) k) l:=by
 refine aR h fun x o h1 h2 h'4=>?_;clear h;obtain rfl:=h'4;refine ⟨x,h1,fun V' fl' j e=>⟨x,o,e,?_,rfl⟩⟩;refine cK h2.ex fun St P N q1 q2 q3 q4 q5=>?_;refine ⟨St,P,N,q1,q2,q3,q4,fun i v hp=>?_⟩;refine aj (q5 i v hp) fun a g1 g2=>?_;refine ⟨a,g1,?_⟩;have hi:i < n:=by
  have:=(List.getElem?_eq_some_iff.mp (show (cF 0 n)[i]? = some a from g1)).1;rwa [eR]at this
 have:=iH n 0 i hi;rw[show (cF 0 n)[i]? = some a from g1]at this;obtain rfl:=soo this;exact g2
theorem pG {k:Nat}(hk:k=31\/35<=k):[5,20,21,30,k,29,32,33,34].Nodup:=
 (List.perm_middle (l₁:=[5,20,21,30]) (l₂:=[29,32,33,34])).nodup_iff.mpr (List.nodup_cons.mpr ⟨fun h=>by
  have:=(by decide:∀e∈[5,20,21,30]++[29,32,33,34],e≠31/\e < 35) k h;exact hk.elim this.1 fun q=>absurd this.2 (Nat.not_lt.mpr q),by decide⟩)
structure LwO (os:List (Nat×AO)) (p:OpP) (b k:Nat) (ds:List (Nat×AV)) (es:List AV) (ob:Obj) (pre:List Value) (ki:Nat) (ie:AO):Prop where
 o:aa os 5=some (.opq p)
 c:jL os=true
 b:aa os 30=some (.bx b ds)
 k:aa os k=some (.lst es)
 s:aa os 29=some (.lsx ob pre)
 w:aa os 32=some (.cel (some (.obj 4)))
 x:aa os 33=some (.cel (some (.obj 30)))
 i:aa os ki=some ie
theorem yT {G:Prop}(es:List (Nat×AO))(nd:(es.map (·.1)).Nodup)(h:AllE os es)(D:Led w V fl tl os news)(k:∀rest n,Led w V fl tl (es++rest) n->Sb n news->G):G:=by
 refine av (tU es nd h.mem) fun rest p=>?_;refine aj (D.perm p) fun n D' p'=>?_;exact k rest n D' fun y=>Nat.le_of_eq (aS p' y)
theorem Led.invS {G:Prop}{p:Nat×AO}{r:List (Nat×AO)}{n:L2}(D:Led w V fl tl (p::r) n)(k:∀l n',Is w V fl p.1 p.2 l->Led w V fl tl r n'->(∀a,Sb a n'->Sb (l++a) n)->G):G:=by
 induction D using Led.cs with
 |cons a b=>exact k _ _ a b fun c h y=>by rw[aJ,aJ];exact Nat.add_le_add_left (h y) _
end
section
variable {d:Dx}{V:Vl}{fr:AF}{σ:ST}{s:Shared}
theorem At.lk (ht:d.tb=tbL)(hcm:d.f.cm=none)(a:At d V fr σ s){p:OpP}{b b' k:Nat}{ds:List (Nat×AV)}{es:List AV}{ob:Obj}{pre:List Value}{ki:Nat}{ie:AO}(O:LwO σ.os p b k ds es ob pre ki ie)(hk:[5,20,21,30,k,29,32,33,ki].Nodup)(hb:b<=b')(hwi:p.wi=4)(hes:∀e∈es,∃j∈p.js,e=AV.obj j)(hl:es.length<=100)
  (hsc:fr.sc=lwS) (hS:aw fr.loc nS=some (.obj 29)) (hN:aw fr.loc dnN=some (.obj k)) (hcB:aw fr.cel dnB=some 33) (hcW:aw fr.cel dnW=some 32) {G:Prop}
  (K:∀q le xs,LK d s p.t b' ob pre le xs q->q.vs.length=es.length->Is d.w V d.tb.flds ki ie le->V.ρ 29=some xs->G):G:=a.stK fun m news X=>by
 have h1:=an1 O.c;have h2:=an2 O.c;refine av (fg h1) fun js h1=>?_;refine av (fg h2) fun js' h2=>?_;rw[cO (by decide)]at h2;refine yT [(5,.opq p),(20,.ctb 984 (lq 987) js),(21,.ctb 989 (lq 994) js'),(30,.bx b ds),(k,.lst es),(29,.lsx ob pre),(32,.cel (some (.obj 4))),(33,.cel (some (.obj 30))),(ki,ie)] hk ⟨O.o,h1,h2,O.b,O.k,O.s,O.w,O.x,O.i,trivial⟩ X.D fun rest n D sb=>?_;clear h1 h2 O;refine D.invS fun lw n1 i5 D s1=>D.invS fun l20 n2 i20 D s2=>D.invS fun l21 n3 i21 D s3=>D.invS fun lb n4 ib D s4=>D.invS fun ll n5 il D s5=>D.invS fun l29 n6 is D s6=>D.invS fun l32 n7 iw D s7=>D.invS fun l33 n8 ix D s8=>D.invS fun le n9 ie' D s9=>?_;refine aR (gx iw) fun y1 x0 hy1 hx0 fw=>?_;refine aR (gx ix) fun y2 xb hy2 hxb fx=>?_;refine aj (uQ ib) fun xb' hxb' fb=>?_;obtain rfl:=soo (hxb.symm.trans hxb');refine aj (pF is) fun xs hxs fs=>?_;refine bt (xL il hl) fun xl vs hxl hd fl1 fl2=>?_;obtain ⟨h12,as,V0,wl,pool,r,P,hjs⟩:=ly (show Is d.w V tbL.flds 5 (.opq p) lw from ht▸i5) (by rw[hwi];exact hx0);have nm:∀{x:Str} {i:Nat} {z:Addr},aw fr.loc x=some (.obj i)->V.ρ i=some z->m x=some (.ref z):=fun h1 h2=>by
  refine aj (X.lc _ _ h1) fun u g z=>?_;refine aj z.refk fun x e z'2=>?_;obtain rfl:=z'2;rw[g,soo (h2.symm.trans e)]
 have cl:∀{x:Str} {i:Nat} {z:Addr},aw fr.cel x=some i->V.ρ i=some z->d.f.ev.cells.lookup x=some z:=fun h1 h2=>by
  refine aj (a.l.cel _ _ h1) fun c e g=>?_;rw[g,soo (h2.symm.trans e)]
 refine K ⟨m,news,x0,xb,xl,y1,y2,vs,as,lw,l20,l21,lb,ll,l29,l32,l33⟩ le xs ⟨a.c,hcm,hsc.symm.trans a.l.sc,X.F,X.N,X.nd,fun y=>ba (s1 _ (s2 _ (s3 _ (s4 _ (s5 _ (s6 _ (s7 _ (s8 _ (s9 _ .nil)))))))) y) (sb y),nm hS hxs,nm hN hxl,cl hcW hy1,cl hcB hy2,⟨V0,wl,pool,r,P⟩,h12,fun v hv=>?_,fun zz zz=>bY i20,fun zz zz=>bY i21,fb b' hb,fl1,fl2,fs,fw,fx⟩ hd.length ie' hxs;obtain ⟨i,hi,rfl⟩:=List.getElem_of_mem hv;have hi':i < es.length:=by rw[<-hd.length];exact hi
 refine aj (hes _ (List.getElem_mem hi')) fun j hj ej=>?_;refine aj (iO hd (show es[i]? = some (.obj j) by rw[List.getElem?_eq_getElem hi',ej])) fun v h4 h5=>?_;refine aj h5.refk fun x h6 z'2=>?_;obtain rfl:=z'2;refine aj (hjs j hj) fun a ha hr=>?_;rw[List.getElem?_eq_getElem hi]at h4;exact ⟨a,ha,by rw[soo h4,soo (hr.symm.trans h6)]⟩
end
abbrev Dx.L0 (d:Dx):Dx:={ d with tb:=tbL,tl:=[] }
noncomputable def mrE (ob:Obj)(pre:List Value)(ie:AO):List (Nat×AO):=[(29,.lsx ob pre),(32,.cel (some (.obj 4))),(33,.cel (some (.obj 30))),(34,ie)]
def vlK (x0 xb xl xs y1 y2 xi:Addr) (vs:List Value):Vl:=⟨fun c=>match c with
 |4=>some x0|29=>some xs|30=>some xb|31=>some xl|32=>some y1|33=>some y2|34=>some xi
 |c=>if 40<=c/\c < 50 then qF vs (c - 40) else none,fun zz=>none,fun zz=>1,fun zz=>none⟩
section
variable {x0 xb xl xs y1 y2 xi:Addr}{vs:List Value}
theorem uR {c:Nat}(h:40<=c):(vlK x0 xb xl xs y1 y2 xi vs).ρ c=if c < 50 then qF vs (c - 40) else none:=by
 unfold vlK;dsimp only
 split<;>first|omega|skip
 by_cases q:c < 50
 ·rw[if_pos q,if_pos ⟨h,q⟩]
 ·rw[if_neg q,if_neg fun z=>q z.2]
theorem yU:Vx (vlK x0 xb xl xs y1 y2 xi vs) 100:=⟨fun i hi=>⟨by rw[uR (by omega),if_neg (by omega)],rfl,rfl⟩,⟨fun zz zz=>Int.le_refl _,fun zz zz=>⟨by show (-1:Int)<=1;decide,by show (1:Int) < 5;decide⟩,fun zz zz zz=>Int.le_refl _⟩,fun zz zz h=>ag h⟩
theorem pH {V':Vl}:∀{n k:Nat} {vs:List Value},vs.length=n->(∀i,i < n->∃a,vs[i]? = some (.ref a)/\V'.ρ (40+(k+i))=some a)->Dens V' ((List.range' k n).map fun i=>.obj (40+i)) vs
 |0,_,[],_,_=>trivial
 |n+1,k,v::vs,hl,h=>by
  refine aj (h 0 (Nat.succ_pos n)) fun a h1 h2=>?_;refine ⟨⟨a,h2,soo h1⟩,pH (n:=n) (k:=k+1) (Nat.succ.inj hl) fun i hi=>?_⟩;refine aj (h (i+1) (Nat.succ_lt_succ hi)) fun a' h3 h4=>?_;exact ⟨a',h3,by rw[Nat.add_assoc,Nat.add_comm 1];exact h4⟩
theorem mQ {x:Str}{v:AV}(h:aw lf3.loc x=some v):(x=nS/\v=.obj 29)\/(x=dnN/\v=.obj 31):=by
 have m:=aU h;change (x,v)∈[(nS,AV.obj 29),(dnN,.obj 31)]at m;rcases aG m with e|m
 ·refine ay (bo e) fun z'0 z'1=>?_;obtain rfl:=z'0;obtain rfl:=z'1;exact .inl ⟨rfl,rfl⟩
 ·refine ay (bo (bg m)) fun z'0 z'1=>?_;obtain rfl:=z'0;obtain rfl:=z'1;exact .inr ⟨rfl,rfl⟩
theorem fp {x:Str}{i:Nat}(h:aw qK x=some i):(x=dnB/\i=33)\/(x=dnW/\i=32):=by
 have m:=aU h;change (x,i)∈[(dnB,33),(dnW,32)]at m;rcases aG m with e|m
 ·refine ay (bo e) fun z'0 z'1=>?_;obtain rfl:=z'0;obtain rfl:=z'1;exact .inl ⟨rfl,rfl⟩
 ·refine ay (bo (bg m)) fun z'0 z'1=>?_;obtain rfl:=z'0;obtain rfl:=z'1;exact .inr ⟨rfl,rfl⟩
end
abbrev KD.vl (q:KD) (xs xi:Addr):Vl:=vlK q.x0 q.xb q.xl xs q.y1 q.y2 xi q.vs
section
variable {d:Dx}{s:Shared}{xs xi:Addr}{t b:Nat}{ob:Obj}{pre:List Value}{le:L2}{ie:AO}{q:KD}
theorem LK.refs (K:LK d s t b ob pre le xs q){i:Nat}(hi:i < q.vs.length):∃a∈q.as,q.vs[i]? = some (.ref a):=by
 refine aj (K.va _ (List.getElem_mem hi)) fun a h1 h2=>?_;exact ⟨a,h1,by rw[List.getElem?_eq_getElem hi,h2]⟩
theorem C5 (K:LK d s t b ob pre le xs q)(hv:q.vs.length<=10){i:Nat}(hi:i < q.vs.length):∃a∈q.as,q.vs[i]? = some (.ref a)/\(q.vl xs xi).ρ (40+i)=some a:=by
 refine aj (K.refs hi) fun a h1 h2=>?_;refine ⟨a,h1,h2,?_⟩;rw[uR (Nat.le_add_right 40 i),if_pos (Nat.add_lt_add_left (Nat.lt_of_lt_of_le hi hv) 40),Nat.add_sub_cancel_left];unfold qF;rw[h2]
theorem LK.at_ (K:LK d s t b ob pre le xs q)(O:dB d.w d.K tbL)(hie:dA d.w xi ie le)(hv:q.vs.length<=10) :
  At d.L0 (q.vl xs xi) lf3 ⟨oC ⟨4,js4 q.vs.length,t⟩ b (gw q.vs.length)++mrE ob pre ie,100⟩ s:=by
 refine jE K.pi fun V0 wl pool r P=>?_;have vv:=fun i (hi:i < q.vs.length)=>C5 (xi:=xi) K hv hi;have hd:Dens (q.vl xs xi) (gw q.vs.length) q.vs:=by
  unfold gw;rw[List.range_eq_range'];exact pH rfl fun i hi=>by
   refine cq (vv i hi) fun a zy h2 h3=>?_;exact ⟨a,h2,by rw[Nat.zero_add];exact h3⟩
 have iq:Is d.w (q.vl xs xi) tbL.flds 5 (.opq ⟨4,js4 q.vs.length,t⟩) q.lw:=gS (p:=⟨4,js4 q.vs.length,t⟩) P rfl (fun j hj=>by
  refine aj (List.mem_map.mp hj) fun i hi z'2=>?_;obtain rfl:=z'2;refine cq (vv i (List.mem_range.mp hi)) fun a h1 zy h3=>?_;exact ⟨a,h1,h3⟩) K.ht
 have D:Led d.w (q.vl xs xi) tbL.flds [] (oC ⟨4,js4 q.vs.length,t⟩ b (gw q.vs.length)++mrE ob pre ie) (q.all le):=
  .cons iq (.cons (K.c20 _ _) (.cons (K.c21 _ _) (.cons (K.bx _ _ _ rfl) (.cons (K.ls _ _ _ _ rfl hd) (.cons (K.sr _ _ _ rfl) (.cons (K.cw _ _ _ _ rfl rfl) (.cons (K.cb _ _ _ _ rfl rfl) (.cons (hie _ _ _ rfl) .nil))))))))
 refine ⟨⟨O,K.c.B,K.c.hA,K.c.hh,K.c.hg,K.c.hk,K.c.hf,K.c.T,K.c.X⟩,⟨by show MdOk _ d.f.cm none;rw[K.cm];trivial,trivial,K.sc,fun x i h=>?_⟩,yU,q.m,_,K.F,fun z hz=>K.N z (ck K.pm z hz),D,dF K.pm K.nd,fun x v h=>?_⟩
 ·rcases fp h with ⟨rfl,rfl⟩|⟨rfl,rfl⟩
  ·exact ⟨_,rfl,K.cB⟩
  ·exact ⟨_,rfl,K.cW⟩
 ·rcases mQ h with ⟨rfl,rfl⟩|⟨rfl,rfl⟩
  ·exact ⟨_,K.mS,xs,rfl,rfl⟩
  ·exact ⟨_,K.mN,_,rfl,rfl⟩
end
structure Gd (d:Dx):Prop where
 O:dB d.w d.K tbL
 o:d.outer=[]
 fr:d.f.env.frame=some d.f.L
 XB:d.K.In d.base
 TB:Top d.p d.loose d.mean d.mg d.mb d.base
 rm:Room d.A 230
def LKx (d:Dx) (s:Shared) (n t b:Nat) (ob:Obj) (pre:List Value) (le:L2) (xs:Addr):Prop:=∃q,LK d s t b ob pre le xs q/\q.vs.length=n
section
variable {d:Dx}{V:Vl}{fr:AF}{σ:ST}{s:Shared}{E:Value->Shared->Prop}
theorem fq (a:At d V fr σ s)(h:fr.md=none):d.f.cm=none:=by
 have:=a.l.md;rw[h]at this;generalize q:d.f.cm=x';induction x' using aF with
 |none=>rfl
 |some c=>rw[q]at this;exact this.elim
theorem lA {α:Type}{r:R α}{k:α->ST->Bool}(h:okR r k=true):∃a σ,r=.ok a σ/\k a σ=true:=by
 induction r using R.casesOn with
 |ok a σ=>exact ⟨a,σ,rfl,h⟩
 |no=>exact ak h
theorem jz {k:Nat}{o:Option AV}(h:obB k o=true):o=some (.obj k):=by
 refine aj (aZ h) fun a z'1 h2=>?_;obtain rfl:=z'1
 induction a using aA<;>first|exact ak h2|skip
 rw[Nat.eq_of_beq_eq_true h2]
theorem em {k:Nat}{o:Option AO}(h:mP k o=true):o=some (.cel (some (.obj k))):=by
 refine aj (aZ h) fun a z'1 h2=>?_;obtain rfl:=z'1
 induction a using aN with
 |cel v=>induction v using aF with
  |none=>exact ak h2
  |some v=>induction v using aA with
   |obj i=>rw[Nat.eq_of_beq_eq_true h2]
   |_=>exact ak h2
 |_=>exact ak h2
theorem pI {k:Nat}{o:Option Nat}(h:nB k o=true):o=some k:=by
 refine aj (aZ h) fun a z'1 h2=>?_;obtain rfl:=z'1;rw[Nat.eq_of_beq_eq_true h2]
theorem uS {js:List Nat}{a b:Nat}{o:Option AO}(h:esB js a b o=true):∃es,o=some (.lst es)/\(∀e∈es,∃j∈js,e=AV.obj j)/\a<=es.length/\es.length<=b:=by
 refine aj (aZ h) fun x z'1 h0=>?_;obtain rfl:=z'1
 induction x using aN<;>first|exact ak h0|skip
 have h1:=an1 h0;have h2:=an2 h0;have h3:=an2 h2;have h2:=an1 h2;refine ⟨_,rfl,fun e he=>?_,az h2,az h3⟩;have:=aD h1 he
 induction e using aA<;>first|exact ak this|exact ⟨_,cT this,rfl⟩
theorem uT {q:AFl×AF}(h:frB q=true):cf q.1=true/\aw q.2.loc nS=some (.obj 29)/\aw q.2.cel dnB=some 33/\aw q.2.cel dnW=some 32/\aw q.2.loc dnN=some (.obj (kN q.2))/\35<=kN q.2:=by
 have h1:=an1 h;have h2:=an2 h;have h3:=an2 h1;have h1:=an1 h1;have h4:=an2 h2;have h2:=an1 h2;have h5:=an2 h4;have h4:=an1 h4;have h6:=an1 h2;have h7:=an2 h2;exact ⟨h1,jz h3,pI h6,pI h7,jz h4,az h5⟩
theorem pJ {p:OpP}{b:Nat}{es:List AV}{ob:Obj}{pre:List Value}{ie:AO}:LwO (oC p b es++mrE ob pre ie) p b 31 [] es ob pre 34 ie:=⟨by kernel_rfl,by kernel_rfl,by kernel_rfl,by kernel_rfl,by kernel_rfl,by kernel_rfl,by kernel_rfl,by kernel_rfl⟩
theorem uU (v:AV):aw (lf4 v).loc nS=some (.obj 29)/\aw (lf4 v).loc dnN=some (.obj 31)/\aw (lf4 v).cel dnB=some 33/\aw (lf4 v).cel dnW=some 32:=⟨by kernel_rfl,by kernel_rfl,by kernel_rfl,by kernel_rfl⟩
theorem qL:aw lf3.loc nS=some (.obj 29)/\aw lf3.loc dnN=some (.obj 31)/\aw lf3.cel dnB=some 33/\aw lf3.cel dnW=some 32:=⟨by kernel_rfl,by kernel_rfl,by kernel_rfl,by kernel_rfl⟩
theorem GW:[5,20,21,30,31,29,32,33,34].Nodup:=by decide
theorem GX:[5,20,21,30,31,29,32,33,101].Nodup:=by decide
theorem qM (G:Gd d){n t b:Nat}{ob:Obj}{pre:List Value}{N j:Nat}{xi xs:Addr}(hn:n∈[2,3,4,5])(a:At d.L0 V lf3 (sD n t b ob pre (cF 0 N) j) s)(hxi:V.ρ 34=some xi)(hxs:V.ρ 29=some xs){Q:Flow->Shared->Prop}
  (K:∀h tk n' le,n'∈[2,3,4]->LKx d.L0 (Shared.to s h tk) n' t b ob pre le xs->dA d.w xi (.itg (cF 0 N) j) le->Q .next (Shared.to s h tk)):wpAny d.M d.A (execs (lwF.b.drop 1) d.ev) Q E s:=by
 refine aI (lA (aq (GK t b ob pre (cF 0 N) j) n hn)) fun q σ' hr hc=>?_;have hl:=aq (GL t b ob pre (cF 0 N) j) n hn;rw[hr]at hl;have h1:=an1 hc;have h2:=an2 hc;refine y0 (uT h1) fun f1 f2 f3 f4 f5 f6=>?_;have h3:=an2 h2;have h2:=an1 h2;have h4:=an2 h2;have h2:=an1 h2;have h5:=an2 h3;have h3:=an1 h3;refine gE (uS h4) fun es e1 e2 e3 e4=>?_;refine (bw iP 230).bl (d:=d.L0) hr rfl G.rm _ _ _ a fun l h tk W le dl a₁=>?_;rw[eZ f1]at dl;rw[show l=.next from dl.is];have gl:=fun i=>congrArg (bp · i) hl;refine a₁.lk (p:=⟨4,js4 n,t⟩) rfl (fq a rfl) ⟨soo (gl 0),h2,soo (gl 2),e1,soo (gl 1),em h3,em h5,soo (gl 3)⟩ (pG (.inr f6)) (aP b) rfl e2 (ba e4 (by decide)) (a₁.l.sc.trans a.l.sc.symm) f2 f5 f3 f4 fun q' le' xs' LKK hv hi hq=>?_;refine aj (lz hi) fun x hx hy=>?_;obtain rfl:=soo ((le.ρ _ _ hxi).symm.trans hx);obtain rfl:=soo ((le.ρ _ _ hxs).symm.trans hq);refine K h tk _ le' ?_ ⟨q',LKK,rfl⟩ hy;rw[hv];simp only[List.mem_cons,List.not_mem_nil,or_false];lia
end
theorem dN {n:Nat}:(gw n).length=n:=by unfold gw;rw[List.length_map,List.length_range]
theorem lB {n:Nat}:∀e∈gw n,∃j∈js4 n,e=AV.obj j:=fun e he=>by
 refine aj (List.mem_map.mp he) fun i hi z'2=>?_;obtain rfl:=z'2;exact ⟨40+i,List.mem_map.mpr ⟨i,hi,rfl⟩,rfl⟩
theorem C6 {n:Nat}(h:2<=n/\n<=5):n∈[2,3,4,5]:=by
 simp only[List.mem_cons,List.not_mem_nil,or_false];lia
section
variable {d:Dx}{V:Vl}{fr:AF}{σ:ST}{s:Shared}{E:Value->Shared->Prop}
theorem xM (G:Gd d){n b nx:Nat}{ob:Obj}{pre:List Value}{N j:Nat}{v:AV}{xi xs:Addr}(hn:n∈[2,3,4])(hj:j<=11)(hb:b+4<=64)(a:At d.L0 V (lf4 v) ⟨oC ⟨4,js4 n,j⟩ b (gw n)++mrE ob pre (.itg (cF 0 N) (j+1)),nx⟩ s)(hxi:V.ρ 34=some xi)(hxs:V.ρ 29=some xs){Q:Flow->Shared->Prop}
  (K:∀h tk n' le,n'∈[2,3,4]->LKx d.L0 (Shared.to s h tk) n' (j+1) (b+4) ob pre le xs->dA d.w xi (.itg (cF 0 N) (j+1)) le->Q .next (Shared.to s h tk)):wpAny d.M d.A (execs lwF.b d.ev) Q E s:=by
 have ex:EOk d.L0.tb 229 (ev iC 229).ex:=(bw iP 229).ex;rw[C2];refine wpAny_execs_cons (wpAny_If (wpAny_isTrue_Not (wpAny_isTrue_value (pA (d:=d.L0) ex (G.rm.mono (by decide)) GV (IX v _ _ _ ob pre (cF 0 N) (j+1) nx) pD (IY v _ _ _ ob pre (cF 0 N) (j+1) nx) a fun us h tk W le ds a₁=>?_) rfl)));refine wpAny_call (qI Cw (d:=d.L0) G.o rfl G.fr G.XB G.TB (G.rm.mono (by decide)) a₁ (by rw[dN];exact hn) lB hb hj ds fun h₂ tk₂ V₂ p' es' nx' le₂ hw ht hes hin zz a₂=>?_);have hlen:2<=es'.length/\es'.length<=5:=by
  have:=jy hn;rcases hes with rfl|⟨i,rfl⟩
  ·rw[dN];lia
  ·rw[List.length_append,dN];show 2<=n+1/\n+1<=5;lia
 refine mU (uU v) fun c1 c2 c3 c4=>?_;refine fK (d:=d.L0) (a:=.boo true) (u:=.bool true) rfl true _ rfl _ _ _ a₂ fun c h₃ tk₃ V₃ le₃ hc a₃=>?_;obtain rfl:=hc;refine a₃.lk rfl (fq a₃ rfl) pJ GW (aP _) hw hin (ba hlen.2 (by decide)) rfl c1 c2 c3 c4 fun q le' xs' LKK hv hi hq=>?_;refine aj (lz hi) fun x' hx' hy=>?_;obtain rfl:=soo ((le₃.ρ _ _ (le₂.ρ _ _ (le.ρ _ _ hxi))).symm.trans hx');obtain rfl:=soo ((le₃.ρ _ _ (le₂.ρ _ _ (le.ρ _ _ hxs))).symm.trans hq);refine wpAny_execs_nil ?_;rw[<-hv]at hlen;have a₄:=LKK.at_ G.O hy (ba hlen.2 (by decide));rw[ht]at a₄;exact qM G (C6 hlen) a₄ rfl rfl K
end
def LI (d:Dx) (s:Shared) (ob:Obj) (pre:List Value) (N:Nat) (xi xs:Addr) (k:Nat) (s':Shared):Prop:=∃j n b h tk le,s'=Shared.to s h tk/\N+1<=k+j/\j<=N/\b<=6+4*j/\n∈[2,3,4]/\LKx d.L0 s' n j b ob pre le xs/\dA d.w xi (.itg (cF 0 N) j) le
section
variable {d:Dx}{V:Vl}{fr:AF}{σ:ST}{s:Shared}{E:Value->Shared->Prop}
theorem uV {w:World}{x:Addr}:dA w x .gone []:=fun zz zz zz zz=>rfl
theorem xN (G:Gd d){n b:Nat}{xs:Addr}{ob:Obj}{pre:List Value}(K0:LKx d.L0 s n 0 b ob pre [] xs)(hb:b<=6)(hn:n∈[2,3,4]){rest:List Stmt}{Q:Flow->Shared->Prop}(P:∀h tk n' t' b',n'∈[2,3,4]->LKx d.L0 (Shared.to s h tk) n' t' b' ob pre [] xs->wpAny d.M d.A (execs rest d.ev) Q E (Shared.to s h tk)) :
  wpAny d.M d.A (execs (lwF.st::rest) d.ev) Q E s:=by
 have ex:EOk d.L0.tb 229 (ev iC 229).ex:=(bw iP 229).ex;have rm':Room d.A 229:=G.rm.mono (er 229);refine aj K0 fun q K K0'2=>?_;clear K0;obtain rfl:=K0'2;have hN:=GR pre;have le4:∀{n:Nat},n∈[2,3,4]->n<=10:=fun h=>ba (jy h).2 (by decide);have len:∀{n:Nat},n∈[2,3,4]->(gw n).length<=100:=fun h=>by rw[dN];exact ba (jy h).2 (by decide)
 have a0:=K.at_ (xi:=0) G.O uV (le4 hn);refine wpAny_execs_cons (wpAny_For (ex (IW _ _ _ ob pre) rfl rm' _ _ _ a0 fun u h tk W le du a₂=>oM (d:=d.L0) du 101 _ (GQ _ _ _ ob pre) _ _ _ a₂ fun ui h' tk' W' le' di a₃=>?_) (dq C1 _));refine aj di fun xi hxi di'2=>?_;clear di;obtain rfl:=di'2;refine y5 fun G1 kk=>?_;refine mU qL fun c1 c2 c3 c4=>?_;have O1:LwO ((101,.itg (cF 0 (rgN pre)) 0)::(100,.rng (rgN pre))::(sI ⟨4,js4 q.vs.length,0⟩ b (gw q.vs.length) ob pre).os) ⟨4,js4 q.vs.length,0⟩ b 31 [] (gw q.vs.length) ob pre 101 (.itg (cF 0 (rgN pre)) 0):=⟨by kernel_rfl,by kernel_rfl,by kernel_rfl,by kernel_rfl,by kernel_rfl,by kernel_rfl,by kernel_rfl,by kernel_rfl⟩
 refine a₃.lk rfl (fq a₃ rfl) O1 GX (aP b) rfl lB (len hn) rfl c1 c2 c3 c4 fun q1 le1 xs1 K1 hv1 hi1 hq1=>?_;rw[dN]at hv1;refine aj (lz hi1) fun x' hx' hy=>?_;obtain rfl:=soo (hxi.symm.trans hx');obtain rfl:=soo ((le'.ρ _ _ (le.ρ 29 xs rfl)).symm.trans hq1);clear a0 a₂ a₃ K O1 hq1 hi1 le' le;refine kk (codeAny_forLoop_any (LI d s ob pre (rgN pre) xi xs) (fun k s' hI=>?_) (rgN pre+1) ⟨0,q.vs.length,b,h',tk',le1,rfl,aP _,bD _,ba hb (Nat.le_add_right 6 _),hn,⟨q1,K1,hv1⟩,hy⟩);refine y5 fun G1 kk=>?_;refine mX hI fun j n2 b2 h2 tk2 le2 hI'6 hk hj hb2 hn2 hI'11 hy2=>?_;clear hI;obtain rfl:=hI'6;refine aj hI'11 fun q2 K2 hI'11'2=>?_;clear hI'11;obtain rfl:=hI'11'2;have a4:=K2.at_ (xi:=xi) G.O hy2 (le4 hn2);have nxk:=GS ⟨4,js4 q2.vs.length,j⟩ b2 (gw q2.vs.length) ob pre (cF 0 (rgN pre)) j 100;rw[eR,Nat.ble_eq_true_of_le hj]at nxk;rcases Nat.lt_or_ge j (rgN pre) with hlt|hge
 ·have e1:bp (cF 0 (rgN pre)) j=some (.int ((0+j:Nat):Int)):=by rw[br];exact iH _ _ _ hlt
  rw[e1]at nxk;refine kk (NX.k (d:=d.L0) (j3 _ _ nxk) a4 (show (q2.vl xs xi).ρ 34=some xi from rfl) (fun e=>ag e.symm) fun v e u h5 tk5 dv a5=>?_);obtain rfl:=soo e;refine kJ (d:=d.L0) ex ew rm' (show (q2.vl xs xi).ρ 34=some xi from rfl) dv (lf4 _) _ (GT _ _) _ _ _ a5 fun zz h6 tk6 W6 le6 zz a6=>?_;refine xM G hn2 (by lia) (by lia) a6 (le6.ρ _ _ rfl) (le6.ρ _ _ rfl) fun h7 tk7 n7 le7 hn7 K7 hy7=>?_;exact ⟨k - 1,by lia,j+1,n7,b2+4,h7,tk7,le7,rfl,by lia,hlt,by lia,hn7,K7,hy7⟩
 ·have e1:bp (cF 0 (rgN pre)) j=none:=by rw[br];exact List.getElem?_eq_none (by rw[eR];exact hge)
  rw[e1]at nxk;refine kk (NX.k (d:=d.L0) (j3 _ _ nxk) a4 (show (q2.vl xs xi).ρ 34=some xi from rfl) (fun e h5 tk5 a5=>?_) fun v e=>ag e);refine wpAny_execs_nil ?_;refine At.lk (σ:=⟨oC ⟨4,js4 q2.vs.length,j⟩ b2 (gw q2.vs.length)++mrE ob pre .gone,100⟩) rfl (fq a5 rfl) a5 pJ GW (aP b2) rfl lB (len hn2) rfl c1 c2 c3 c4 fun q3 le3 xs3 K3 hv3 hi3 hq3=>?_;obtain rfl:le3=[]:=hi3;obtain rfl:xs=xs3:=soo ((show (q2.vl xs xi).ρ 29=some xs from rfl).symm.trans hq3);exact P h5 tk5 q2.vs.length j b2 hn2 ⟨q3,K3,by rw[hv3,dN]⟩
end
def hdB (l:List AV) (k:AV->List AV->Bool):Bool:=@List.rec AV (fun zz=>Bool) false (fun a r zz=>k a r) l
theorem jA {l:List AV}{k:AV->List AV->Bool}(h:hdB l k=true):∃a r,l=a::r/\k a r=true:=by
 induction l using aV with
 |nil=>exact ak h
 |cons a r=>exact ⟨a,r,rfl,h⟩
def niB (l:List AV):Bool:=@List.rec AV (fun zz=>Bool) true (fun zz zz zz=>false) l
def AV.cInt {γ:Type} (v:AV) (k:Int->γ) (n:γ):γ:=@AV.rec (fun zz=>γ) n (fun zz=>n) k (fun zz=>n) (fun zz=>n) (fun zz=>n) (fun zz=>n) (fun zz=>n) (fun zz zz=>n) (fun zz zz zz=>n) (fun zz=>n) (fun zz=>n) (fun zz=>n) (fun zz=>n) (fun zz zz=>n) (fun zz=>n) (fun zz=>n) (fun zz=>n) (fun zz=>n) (fun zz=>n) n n v
theorem AV.cInt_i {γ:Type}{v:AV}{k:Int->γ}{n:γ}{P:γ->Prop}(h:∀a,v=.int a->P (k a))(h':P n):P (v.cInt k n):=by
 induction v using aA<;>first|exact h'|exact h _ rfl
def AO.cLst {γ:Type} (v:AO) (k:List AV->γ) (n:γ):γ:=@AO.rec (fun zz=>γ) (fun zz zz zz=>n) k (fun zz=>n) (fun zz=>n) (fun zz=>n) (fun zz=>n) (fun zz zz=>n) n n (fun zz zz=>n) (fun zz zz=>n) (fun zz zz zz=>n) (fun zz=>n) (fun zz=>n) (fun zz zz zz=>n) (fun zz=>n) (fun zz zz zz zz=>n) (fun zz zz zz=>n) (fun zz zz zz=>n) (fun zz zz=>n) (fun zz zz=>n) (fun zz=>n) (fun zz zz=>n) (fun zz=>n) (fun zz zz=>n) (fun zz zz=>n) (fun zz=>n) (fun zz zz zz zz zz=>n) (fun zz zz zz zz=>n) v
theorem AO.cLst_i {γ:Type}{v:AO}{k:List AV->γ}{n:γ}{P:γ->Prop}(h:∀a,v=.lst a->P (k a))(h':P n):P (v.cLst k n):=by
 induction v using aN<;>first|exact h'|exact h _ rfl
def l5B (s:Nat) (o:AO):Bool:=o.cLst (fun l=>hdB l fun zz l=>hdB l fun b l=>hdB l fun zz l=>hdB l fun zz l=>hdB l fun zz l=>niB l&&b.cInt (fun i=>Z.eqB i (.ofNat s)) false) false
theorem C7 {s:Nat}{o:AO}(h:l5B s o=true){G:Prop}(K:∀i a f g k,Z.eqB i (.ofNat s)=true->o=.lst [a,.int i,f,g,k]->G):G:=
 AO.cLst_i (P:=fun b=>b=true->G) (fun l e h=>by
  refine aI (jA h) fun a l1 e1 h1=>?_;refine aI (jA h1) fun b l2 e2 h2=>?_;refine aI (jA h2) fun f l3 e3 h3=>?_;refine aI (jA h3) fun g l4 e4 h4=>?_;refine aI (jA h4) fun k l5 e5 h5=>?_;have h6:=an1 h5;have h7:=an2 h5;rw[e1,e2,e3,e4,e5]at e
  induction l5 using aV with
  |nil=>exact AV.cInt_i (P:=fun c=>c=true->G) (fun i e' h=>K i a f g k h (e'▸e)) ak h7
  |cons=>exact ak h6) ak h
def IZ (sh:Sh):Bool:=Nat.blt sh.s 7&&cV (aa (bT sh) 40) (l5B sh.s)
theorem C8:shT.all IZ=true:=by kernel_rfl
theorem xO {sh:Sh}(h:sh∈shT):∃a f g k,aa (bT sh) 40=some (.lst [a,.int (.ofNat sh.s),f,g,k]):=by
 have h2:=an2 ((aD C8 h));refine aj (aZ h2) fun o h3 h4=>?_;exact C7 h4 fun i a f g k h5 e=>⟨a,f,g,k,by rw[h3,e,(Z.eqB_iff _ _).mp h5]⟩
theorem pK {V:Vl}:∀{vs:List Value},(∀v∈vs,∃a,v=.ref a)->Dens V (List.replicate vs.length .rn) vs
 |[]=>fun zz=>trivial
 |v::r=>fun h=>⟨.inr (h v (.head _)),pK fun v hv=>h v (.tail _ hv)⟩
theorem mR {V:Vl}{k:Nat}{vs:List Value}{an:Addr}(h:∀v∈vs,∃a,v=.ref a)(hp:0 < vs.length)(hl:vs[vs.length - 1]? = some (.ref an))(hk:V.ρ k=some an):Dens V (rns vs.length k) vs:=by
 have hne:vs≠[]:=fun e=>by rw[e]at hp;exact absurd hp (Nat.lt_irrefl 0)
 have e:=List.dropLast_concat_getLast hne;have hd:Dens V (List.replicate (vs.length - 1) .rn) vs.dropLast:=by
  have:=pK (V:=V) (vs:=vs.dropLast) fun v hv=>h v (List.dropLast_subset _ hv);rwa [List.length_dropLast]at this
 have hlast:vs.getLast hne=.ref an:=by
  rw[List.getLast_eq_getElem];rw[List.getElem?_eq_getElem (by lia)]at hl;exact soo hl
 unfold rns;have:=hd.app (show Dens V [.obj k] [vs.getLast hne] from ⟨⟨an,hk,hlast⟩,trivial⟩);rwa [e]at this
def DI (V V':Vl):List AV->List AV->Prop
 |[],[]=>True
 |a::r,b::q=>(∀u,Den V a u->Den V' b u)/\DI V V' r q
 |_,_=>False
theorem Dens.imp {V V':Vl}{as:List AV}:∀{bs:List AV} {us:List Value},Dens V as us->DI V V' as bs->Dens V' bs us:=by
 induction as with
 |nil=>
  intro bs us h k
  induction bs using aV with
  |nil=>induction us using aV with
   |nil=>trivial
   |cons=>exact h.elim
  |cons=>exact k.elim
 |cons a r ih=>
  intro bs us h k
  induction bs using aV with
  |nil=>exact k.elim
  |cons b q=>induction us using aV with
   |nil=>exact h.elim
   |cons v s=>exact ⟨k.1 v h.1,ih h.2 k.2⟩
section
variable {d:Dx}{V':Vl}{s:Shared}{E:Value->Shared->Prop}{xs:Addr}{t b:Nat}{ob:Obj}{pre:List Value}{le:L2}{q:KD}
theorem LK.re (K:LK d s t b ob pre le xs q){tb:Tb}{tl' n':L2}{fr':AF}{os':List (Nat×AO)}{nx:Nat}(O:dB d.w d.K tb)(D:Led d.w V' tb.flds tl' os' n')(hle:Sb n' q.n)(v:Vx V' nx)(hsc:fr'.sc=lwS)(hmd:fr'.md=none)(hfa:fr'.fa=none)
  (cel:∀x i,aw fr'.cel x=some i->∃c,V'.ρ i=some c/\d.f.ev.cells.lookup x=some c) (lc:∀x v,aw fr'.loc x=some v->∃u,q.m x=some u/\Den V' v u):At { d with tb:=tb,tl:=tl' } V' fr' ⟨os',nx⟩ s:=
 ⟨⟨O,K.c.B,K.c.hA,K.c.hh,K.c.hg,K.c.hk,K.c.hf,K.c.T,K.c.X⟩,⟨by rw[hmd];show MdOk _ d.f.cm none;rw[K.cm];trivial,by rw[hfa];trivial,hsc.trans K.sc,cel⟩,v,q.m,n',K.F,fun z hz=>K.N z (ck hle z hz),D,dF hle K.nd,lc⟩
theorem xP {x:Str}{i:Nat}(h:aw lfZ.cel x=some i):x=dnW/\i=30:=by
 have m:=aU h;change (x,i)∈[(dnW,30)]at m;refine ay (bo (bg m)) fun z'0 z'1=>?_;obtain rfl:=z'0;obtain rfl:=z'1;exact ⟨rfl,rfl⟩
theorem xQ {x:Str}{v:AV}(h:aw lfZ.loc x=some v):x=dnN/\v=.obj 31:=by
 have m:=aU h;change (x,v)∈[(dnN,AV.obj 31)]at m;refine ay (bo (bg m)) fun z'0 z'1=>?_;obtain rfl:=z'0;obtain rfl:=z'1;exact ⟨rfl,rfl⟩
noncomputable def fZ (y1 xl an:Addr):Nat->Option Addr:=fun c=>if c=30 then some y1 else if c=31 then some xl else if c=34 then some an else none
theorem C9 (G:Gd d){n:Nat}(K0:LKx d.L0 s n t b ob pre [] xs)(hn:n∈[2,3,4]){Q:Flow->Shared->Prop}(P:∀h tk m' news' l20 l21 l29,Fr d.h₀ d.f.L h m'->News d.h₀ d.f.L h news'->(∀V fl,Is d.w V fl 20 (.ctb 984 (lq 987) []) l20)->(∀V fl,Is d.w V fl 21 (.ctb 989 (lq 994) []) l21)->dA d.w xs (.lsx ob pre) l29->(∀z∈l20++(l21++l29),z∈news')->Q (.ret (.bool true)) (Shared.to s h tk)):wpAny d.M d.A (execs (lwB.drop 4) d.ev) Q E s:=by
 refine aj K0 fun q K K0'2=>?_;clear K0;obtain rfl:=K0'2;refine jE K.pi fun V0 wl pool r PI=>?_;have h2:=jy hn;refine aj (K.refs (i:=q.vs.length - 1) (by lia)) fun an han hlast=>?_;have hrefs:∀v∈q.vs,∃a,v=Value.ref a:=fun v hv=>(K.va v hv).imp fun a h=>h.2;have O:dB d.w d.K tbT:=tbk _ _ G.O;have fin:∀{V':Vl} {n':L2} {σ:ST},zOk σ=true->Led d.w V' tbT.flds (q.l20++(q.l21++q.l29)) σ.os n'->Sb n' q.n->Vx V' σ.nx->V'.ρ 30=some q.y1->V'.ρ 31=some q.xl->wpAny d.M d.A (execs (lwB.drop 4) d.ev) Q E s:=fun {V' n' σ} hz D hle v e1 e2=>by
  have a:=LK.re (tb:=tbT) (tl':=q.l20++(q.l21++q.l29)) (fr':=lfZ) (os':=σ.os) (nx:=σ.nx) K O D hle v rfl rfl rfl (fun x i h=>by refine ay (xP h) fun z'0 z'1=>?_;obtain rfl:=z'0;obtain rfl:=z'1;exact ⟨_,e1,K.cW⟩) fun x v h=>by refine ay (xQ h) fun z'0 z'1=>?_;obtain rfl:=z'0;obtain rfl:=z'1;exact ⟨_,K.mN,_,e2,rfl⟩
  refine aI (jw hz) fun qq σ' hr hq=>?_;refine (bw cN 230).bl (d:={ d.L0 with tb:=tbT,tl:=q.l20++(q.l21++q.l29) }) hr rfl G.rm _ _ _ a fun l h tk W le dl a₁=>?_;rw[lr hq]at dl;refine aj dl.is fun u z'1 hu=>?_;obtain rfl:=z'1;obtain rfl:u=.bool true:=hu;refine a₁.stK fun m' news' X'=>?_;refine aj X'.D.untl fun l' e' zy=>?_;exact P h tk m' news' _ _ _ X'.F X'.N K.c20 K.c21 K.sr fun z hz=>by rw[e'];exact a9 _ hz
 refine gQ (V:=V0) (p:=⟨0,[],t⟩) (l:=q.lw) ⟨PI.pm,PI.wd,PI.num,PI.z,rfl,PI.gs,fun j hj=>absurd hj bI⟩ han (some q.y1) (some q.xl) (dj:=0) (by decide) fun lo r' as' sh V1 lp rest dd z wl' ln N=>?_;generalize hs:Nat.beq sh.s 0=x';induction x' using aH with
 |true=>
  have hs':=aK hs;have hsh:iA sh=none:=by unfold iA;rw[hs'];rfl
  refine aj (N.ns.perm gR) fun nn Dn pn=>?_;have hz:=aD (aD C3 (List.mem_filter.mpr ⟨N.nt.mem,hs⟩)) hn;have D:=N.wd;rw[hsh]at D;refine fin hz (D.join (.cons (K.cw _ _ _ _ rfl PI.ρ) (.cons (K.ls _ _ _ _ rfl (mR hrefs (iR (by decide) h2.1) hlast N.nt.at_)) (Dn.tl0 (tl:=q.l20++(q.l21++q.l29)))))) (fun y=>?_) (N.x K.ht) rfl rfl;have c1:=aS PI.pm y;have c2:=aS N.pr y;have c3:=aS N.pp y;have c4:=aS N.pw y;have c5:=aS N.pn y;have c6:=aS pn y;have c7:=K.pm y;simp only[KD.all,aJ,fj]at c1 c2 c3 c5 c7 ⊢;lia
 |false=>
  have hs':sh.s≠0:=fun e=>by rw[e]at hs;exact ak hs.symm
  refine jE (xO N.nt.mem) fun a f g k h40=>?_;refine aR (N.nt.own.out h40) fun l40 no p40 i40 zy=>?_;refine bu i40 fun x40 us kk hx40 hd40 i40'5=>?_;clear i40;obtain rfl:=i40'5;obtain rfl:=soo (N.nt.at_.symm.trans hx40);refine CF PI (fZ q.y1 q.xl an) fun dd z wl'' pw Dw=>?_;have any:∀u,Den (vlW V0 dd z (fZ q.y1 q.xl an)) (.opn 200) u:=fun u e=>by
   have:=PI.num.2.2 200 (by decide) (by decide);have e:(if 200=101 then z else V0.ι 200)=-1:=e;rw[if_neg (by decide)]at e;lia
  have d40:Dens (vlW V0 dd z (fZ q.y1 q.xl an)) [.opn 200,.ge 1,.opn 200,.opn 200,.opn 200] us:=hd40.imp ⟨fun u zz=>any u,fun u ⟨t2,h2⟩=>⟨_,t2,h2,by show (1:Int)<=((sh.s:Nat):Int);lia⟩,fun u zz=>any u,fun u zz=>any u,fun u zz=>any u,trivial⟩;have hz:=aD C4 hn;refine fin hz (Dw.join (.cons (K.cw _ _ _ _ rfl PI.ρ) (.cons (K.ls _ _ _ _ rfl (mR hrefs (iR (by decide) h2.1) hlast rfl)) (.cons ⟨an,us,kk,rfl,d40,rfl⟩ .nil)))) (fun y=>?_) (uM PI.num) rfl rfl;have c1:=aS PI.pm y;have c2:=aS N.pr y;have c4:=aS pw y;have c6:=aS p40 y;have c7:=K.pm y;simp only[KD.all,aJ,fj]at c1 c2 c6 c7 ⊢;lia
end
theorem uW {c:Cfg}(C:fG c)(n:Nat):SOk c.tb n (sS c (ev c n)):=
 let h:=bw C n
 ow h.ex h.ts h.bl ew (oR h.ex h.ts h.bl ew)
theorem qO:lwB=lwB.take 1++((lwB.drop 1).take 1++((lwB.drop 2).take 1++(lwF.st::lwB.drop 4))):=by kernel_rfl
noncomputable def fAp (xs xl y1 y2:Addr):Nat->Option Addr:=fun c=>if c=29 then some xs else if c=31 then some xl else if c=32 then some y1 else if c=33 then some y2 else none
section
variable {d:Dx}{s:Shared}{E:Value->Shared->Prop}{t b:Nat}{ob:Obj}{pre:List Value}
theorem qP (G:Gd d){n:Nat}{xs:Addr}(K0:LKx d.L0 s n t b ob pre [] xs){rest:List Stmt}{Q:Flow->Shared->Prop}(hn:n<=90)(P:∀h tk,LKx d.L0 (Shared.to s h tk) (n+1) t b ob pre [] xs->wpAny d.M d.A (execs rest d.ev) Q E (Shared.to s h tk)) :
  wpAny d.M d.A (execs ((lwB.drop 2).take 1++rest) d.ev) Q E s:=by
 refine aj K0 fun q K K0'2=>?_;clear K0;obtain rfl:=K0'2;refine jE K.pi fun V0 wl pool r PI=>?_;have O:dB d.w d.K tbT:=tbk _ _ G.O;refine CF PI (fAp xs q.xl q.y1 q.y2) fun dd z wl' pw Dw=>?_;have D:Led d.w (vlW V0 dd z (fAp xs q.xl q.y1 q.y2)) tbT.flds (pool++(r++(q.l20++(q.l21++(q.lb++(q.l29++q.l33)))))) (sC q.vs).os (wl'++(q.ll++(q.l32++(pool++(r++(q.l20++(q.l21++(q.lb++(q.l29++q.l33))))))))):=
  Dw.join (.cons (K.su _ _ _ rfl) (.cons (K.cw _ _ _ _ rfl PI.ρ) .nil))
 have a:=LK.re (tb:=tbT) (fr':=lf2) (nx:=100) K O D (fun y=>by
  have c1:=aS PI.pm y;have c2:=aS pw y;have c3:=K.pm y;simp only[KD.all,aJ,fj]at c1 c3 ⊢;lia) (uM PI.num) rfl rfl rfl (fun x i h=>by
   rcases fp h with ⟨rfl,rfl⟩|⟨rfl,rfl⟩
   ·exact ⟨_,rfl,K.cB⟩
   ·exact ⟨_,rfl,K.cW⟩) fun x v h=>by
   rcases mQ h with ⟨rfl,rfl⟩|⟨rfl,rfl⟩
   ·exact ⟨_,K.mS,xs,rfl,rfl⟩
   ·exact ⟨_,K.mN,_,rfl,rfl⟩
 clear D Dw O;refine aI (lA (GI q.vs)) fun qq σ' hr hc=>?_;have hL:=GJ q.vs;rw[hr]at hL;have hL:aa σ'.os 31=some (.lsu q.vs [.obj (kOf σ')]):=hL;have h1:=an1 hc;have h2:=an2 hc;have h3:=an2 h1;have h1:=an1 h1;have h4:=an2 h1;have h1:=an1 h1;have h5:=an2 h3;have h3:=an1 h3;have h6:=an2 h2;have h2:=an1 h2;refine c0 (d:={ d.L0 with tb:=tbT,tl:=_ }) (uW cN 229) hr h1 rfl (G.rm.mono (er 229)) a fun h tk W le a₁=>a₁.stK fun m' news' X=>?_;refine P h tk (y5 fun G1 kk=>?_);refine aj X.D.untl fun l hnl Dl=>?_;refine aR (Dl.out hL) fun ll' n1 p1 il D1=>?_;refine aR (D1.out (em h2)) fun l32' n2 p2 iw D2=>?_;have ndl:(l.map (·.1)).Nodup:=bH (jN l _) (hnl▸X.nd);refine yQ PI a₁.v.num le D2 (bW p2 (bW p1 ndl)) h6 fun V2 wl2 pool' lo' a2 q0 q1 q2 q3 q4 q5 q6=>?_;have e0:W.ρ 0=V0.ρ 0:=by
  refine av (b0 PI.wd (c:=0) (by decide)) fun x hx=>?_;rw[hx];exact le.ρ 0 x hx
 have w0:W.ρ 0=some q.x0:=e0.trans PI.ρ;have wl31:W.ρ 31=some q.xl:=le.ρ 31 q.xl rfl;refine aR (gx iw) fun y' x' e1 e2 fw=>?_;rw[<-soo ((le.ρ 32 q.y1 rfl).symm.trans e1),<-soo (w0.symm.trans e2)]at fw;refine bZ il fun xl' us kk' hx' hd' hlen hll=>?_;clear il;rw[<-soo (wl31.symm.trans hx')]at hll;obtain ⟨u,hu,z',hz',hz2⟩:=hd'.i1;rw[hu,hz2,<-soo (q0.symm.trans hz')]at hll;have key:∀{x:Str} {i:Nat} {y:Addr},aw qq.2.loc x=some (.obj i)->W.ρ i=some y->m' x=some (.ref y):=fun h1 h2=>by
  refine aj (X.lc _ _ h1) fun u q1 q2=>?_;refine aj q2.refk fun z q3 z'2=>?_;obtain rfl:=z'2;rw[q1,soo (h2.symm.trans q3)]
 refine kk ⟨⟨m',news',q.x0,q.xb,q.xl,q.y1,q.y2,q.vs++[.ref a2],a2::q.as,wl2++(pool'++(lo'++r)),q.l20,q.l21,q.lb,ll',q.l29,l32',q.l33⟩,⟨⟨G.O,a₁.c.B,a₁.c.hA,a₁.c.hh,a₁.c.hg,a₁.c.hk,a₁.c.hf,a₁.c.T,a₁.c.X⟩,K.cm,K.sc,X.F,X.N,X.nd,fun y=>?_,key (jz h4) (le.ρ 29 xs rfl),key (jz h5) wl31,K.cW,K.cB,
  ⟨V2,wl2,pool',_,.refl _,q2,q3,q4,(q5 0 (by decide)).trans w0,q6⟩,K.ht,fun v hv=>?_,K.c20,K.c21,K.bx,fun V fl j es e d=>⟨q.xl,_,kk',e,d,hll⟩,fun V fl j e=>⟨q.xl,[],kk',e,trivial,?_,by rw[List.append_nil];exact hll⟩,K.sr,fw,K.cb⟩,by rw[List.length_append];rfl⟩
 ·have c1:=aS q1 y;have c2:=aS p1 y;have c3:=aS p2 y;rw[hnl];simp only[KD.all,aJ,fj]at c1 c2 c3 ⊢;lia
 ·rcases bn hv with hv|hv
  ·refine aj (K.va v hv) fun a g1 g2=>?_;exact ⟨a,.tail _ g1,g2⟩
  ·exact ⟨a2,.head _,bg hv⟩
 ·rw[List.length_append];exact ba (Nat.add_le_add_right hn 1) (by decide)
end
theorem Dc {o:Option AO}(h:op0 o=true):∃p,o=some (.opq p)/\p.wi=4/\p.t=0:=by
 refine aj (aZ h) fun a z'1 h2=>?_;obtain rfl:=z'1
 induction a using aN<;>first|exact ak h2|skip
 have h3:=an1 h2;have h4:=an2 h2;exact ⟨_,rfl,aK h3,aK h4⟩
set_option tactic.hygienic true in
theorem xR {o:Option AO}(h:GG o=true):∃b,o=some (.bx b [])/\b<=6:=by
 refine aj (aZ h) fun a z'1 h2=>?_;obtain rfl:=z'1
 induction a using aN<;>first|exact ak h2|skip
 rename_i b ds
 induction ds using aV<;>first|exact ak h2|exact ⟨_,rfl,az h2⟩
set_option tactic.hygienic true in
theorem xT {o:Option AO}(h:GD o=true):o=some (.bx 0 []):=by
 refine aj (aZ h) fun a z'1 h2=>?_;obtain rfl:=z'1
 induction a using aN<;>first|exact ak h2|skip
 rename_i b ds;cases b<;>first|exact ak h2|skip
 induction ds using aV<;>first|exact ak h2|rfl
section
variable {d:Dx}{V:Vl}{s:Shared}{E:Value->Shared->Prop}{ob:Obj}{pre:List Value}
theorem xU (G:Gd d){xs:Addr}(a:At d.L0 V lf1 (sB ob pre) s)(hxs:V.ρ 29=some xs){rest:List Stmt}{Q:Flow->Shared->Prop}(P:∀h tk n,1<=n->n<=3->LKx d.L0 (Shared.to s h tk) n 0 6 ob pre [] xs->wpAny d.M d.A (execs rest d.ev) Q E (Shared.to s h tk)) :
  wpAny d.M d.A (execs ((lwB.drop 1).take 1++rest) d.ev) Q E s:=by
 refine ay (GH ob pre) fun hB hl=>?_;refine aI (lA hB) fun q σ' hr hc=>?_;rw[hr]at hl;have gl:=fun i=>congrArg (bp · i) hl;have h1:=an1 hc;have h2:=an2 hc;refine y0 (uT h1) fun f1 f2 f3 f4 f5 f6=>?_;have h3:=an2 h2;have h2:=an1 h2;have h4:=an2 h2;have h2:=an1 h2;have h5:=an1 h2;have h6:=an2 h2;have h7:=an1 h4;have h8:=an2 h4;have h9:=an1 h3;have h10:=an2 h3;refine cq (Dc h5) fun p e5 hw ht=>?_;refine aj (xR h7) fun b e30 hb=>?_;refine gE (uS h8) fun es e1 e2 e3 e4=>?_;rw[e5]at e2;refine c0 (d:=d.L0) (uW iP 229) hr f1 rfl (G.rm.mono (er 229)) a fun h tk W le a₁=>?_;refine a₁.lk rfl (fq a rfl) ⟨e5,h6,e30,e1,soo (gl 0),em h9,em h10,soo (gl 1)⟩ (pG (.inr f6)) hb hw e2 (ba e4 (by decide)) (a₁.l.sc.trans a.l.sc.symm) f2 f5 f3 f4 fun q le' xs' LKK hv hi hq=>?_;obtain rfl:le'=[]:=hi;obtain rfl:=soo ((le.ρ _ _ hxs).symm.trans hq);rw[ht]at LKK;rw[<-hv]at e3 e4;exact P h tk _ e3 e4 ⟨q,LKK,rfl⟩
theorem GY (c:Cfg)(n:Nat):(ev c (n+1)).bl=rL (sS c (ev c n)):=rfl
theorem Dd:tbT.flds.f=tbL.flds.f:=rfl
theorem nd6:[31,20,21,32,33,105].Nodup:=by decide
theorem uX (G:Gd d){xs:Addr}(a:At d.L0 V fA (sA ob pre) s)(hxs:V.ρ 31=some xs){rest:List Stmt}{Q:Flow->Shared->Prop}(P:∀h tk V',V'.ρ 29=some xs->At d.L0 V' lf1 (sB ob pre) (Shared.to s h tk)->wpAny d.M d.A (execs rest d.ev) Q E (Shared.to s h tk)) :
  wpAny d.M d.A (execs (lwB.take 1++rest) d.ev) Q E s:=by
 refine aI (lA (GF ob pre)) fun q σ' hr hc=>?_;have e31:=GE ob pre;rw[hr]at e31;have e31:aa (uP σ'.os) 31=some (.lsx ob pre):=e31;have h1:=an1 hc;have h2:=an2 hc;have h3:=an2 h1;have h1:=an1 h1;have h4:=an2 h3;have h3:=an1 h3;have g1:=an1 h4;have g2:=an2 h4;have h5:=an2 h2;have h2:=an1 h2;have h7:=an1 h5;have h6:=an2 h5;have h8:=an2 h6;have h6:=an1 h6;have h9:=an2 h6;have h6:=an1 h6;have k1:=an1 h7;have k2:=an2 h7;refine av (fg k1) fun js k1=>?_;refine av (fg k2) fun js' k2=>?_;rw[cO (by decide)]at k2;have hr':(ev C0 (229+1)).bl (lwB.take 1) fA (sA ob pre)=.ok q σ':=hr;rw[GY]at hr';refine c0 (d:=d.L0) (uW xK 229) hr' h1 rfl (G.rm.mono (er 229)) a fun h tk W le a₁=>a₁.stK fun m' news' X=>?_;refine GB (fl:=tbL.flds) Dd X.D h2 fun lw n2 p1 PI D=>?_;refine yT [(31,.lsx ob pre),(20,.ctb 984 (lq 987) js),(21,.ctb 989 (lq 994) js'),(32,.cel (some (.obj 107))),(33,.cel (some (.obj 105))),(105,.bx 0 [])] nd6 ⟨e31,k1,k2,em h6,em h9,xT h8,trivial⟩ D fun rest n3 D sb=>?_;refine D.invS fun l31 n4 a1 D s1=>D.invS fun l20 n5 a2 D s2=>D.invS fun l21 n6 a3 D s3=>D.invS fun l32 n7 a4 D s4=>D.invS fun l33 n8 a5 D s5=>D.invS fun lb n9 a6 D s6=>?_;refine aj (pF a1) fun xs' hxs' fs=>?_;obtain rfl:=soo ((le.ρ _ _ hxs).symm.trans hxs');refine aR (gx a4) fun y1 x0 hy1 hx0 fw=>?_;refine aR (gx a5) fun y2 xb hy2 hxb fx=>?_;refine aj (uQ a6) fun xb' hxb' fb=>?_;obtain rfl:=soo (hxb.symm.trans hxb');rw[hx0]at PI;refine aj (X.lc _ _ (jz h3)) fun u1 z1 z2=>?_;refine aj z2.refk fun y z3 z'2=>?_;obtain rfl:=z'2;obtain rfl:=soo (hxs'.symm.trans z3);have cl:∀{x:Str} {i:Nat} {z:Addr},aw q.2.cel x=some i->W.ρ i=some z->d.f.ev.cells.lookup x=some z:=fun h1 h2=>by
  refine aj (a₁.l.cel _ _ h1) fun c e g=>?_;rw[g,soo (h2.symm.trans e)]
 have iq:Is d.w (vlK x0 xb 0 xs y1 y2 0 []) tbL.flds 5 (.opq ⟨4,[],0⟩) lw:=gS (p:=⟨4,[],0⟩) PI rfl (fun j hj=>absurd hj bI) (bD _);have hs:Sb (lw++(l20++(l21++(lb++(l31++(l32++(l33++([]++[])))))))) news':=fun y=>by
  have c1:=aS p1 y;have c2:=ba (s1 _ (s2 _ (s3 _ (s4 _ (s5 _ (s6 _ Sb.nil))))) y) (sb y);simp only[aJ,fj]at c1 c2 ⊢;lia
 refine P h tk (vlK x0 xb 0 xs y1 y2 0 []) rfl ?_;refine a₁.re (tb:=tbL) (tl':=[]) (os':=(sB ob pre).os) (nx:=100) X G.O (.cons iq (.cons (bY a2) (.cons (bY a3) (.cons (fb 0 (aP 0) _ _ _ rfl) (.cons (fs _ _ _ rfl) (.cons (fw _ _ _ _ rfl rfl) (.cons (fx _ _ _ _ rfl rfl) (.cons (l:=[]) rfl .nil)))))))) (ck hs) (dF hs X.nd) yU ⟨by show MdOk _ d.f.cm none;rw[fq a rfl];trivial,trivial,a.l.sc,fun x i hx=>?_⟩ fun x v hx=>?_
 ·rcases fp hx with ⟨rfl,rfl⟩|⟨rfl,rfl⟩
  ·exact ⟨_,rfl,cl (pI g1) hy2⟩
  ·exact ⟨_,rfl,cl (pI g2) hy1⟩
 ·have hm:=aU hx;change (x,v)∈[(nS,AV.obj 29)]at hm;refine ay (bo (bg hm)) fun z'0 z'1=>?_;obtain rfl:=z'0;obtain rfl:=z'1;exact ⟨_,z1,xs,rfl,rfl⟩
theorem De (G:Gd d){xs:Addr}(a:At d.L0 V fA (sA ob pre) s)(hxs:V.ρ 31=some xs){Q:Flow->Shared->Prop}
  (P:∀h tk m' news' l20 l21 l29,Fr d.h₀ d.f.L h m'->News d.h₀ d.f.L h news'->(∀V fl,Is d.w V fl 20 (.ctb 984 (lq 987) []) l20)->(∀V fl,Is d.w V fl 21 (.ctb 989 (lq 994) []) l21)->dA d.w xs (.lsx ob pre) l29->(∀z∈l20++(l21++l29),z∈news')->Q (.ret (.bool true)) (Shared.to s h tk)):wpAny d.M d.A (execs lwB d.ev) Q E s:=by
 rw[qO];refine uX G a hxs fun h tk V' hx a₁=>xU G a₁ hx fun h2 tk2 n hn1 hn2 K=>qP G K (ba hn2 (by decide)) fun h3 tk3 K3=>xN G K3 (aP 6) ?_ fun h4 tk4 n' t' b' hn' K4=>C9 G K4 hn' fun h5 tk5 m' news' l20 l21 l29 F N c1 c2 c3 hz=>P h5 tk5 m' news' l20 l21 l29 F N c1 c2 c3 hz;simp only[List.mem_cons,List.not_mem_nil,or_false];lia
end
section
set_option genInjectivity true
set_option genSizeOfSpec true
noncomputable def iv (i t:Nat):Value:=.int (.ofNat i) t
noncomputable def iz (i:Nat):Value:=.int (.ofNat i) (nat_lit 0)
noncomputable def ob (c:Value)(d:Data):Obj:=⟨c,none,d,⟨[]⟩⟩
def tp (l:List Value):Obj:=ob (.type "tuple") (.seq ⟨l⟩ (nat_lit 0))
def fd (l:List Value):Obj:=ob .none (.fields ⟨l⟩)
def gW:Obj:=ob (.type "builtin_function_or_method") (.fields ⟨[.builtin "type.__prepare__",.type "type"]⟩)
def gX (a:Nat):Obj:=ob (.type "builtin_function_or_method") (.fields ⟨[.builtin "object.__init_subclass__",.ref a]⟩)
def gs (l:List Value):Obj:=ob (.type "getset_descriptor") (.fields ⟨l⟩)
def sup (a:Nat):Obj:=ob (.type "super") (.fields ⟨[.ref a,.ref a,.ref a]⟩)
noncomputable def pL:Str:=s!"/claim/cut.py"
def cod (t:Nat) (nm qn:Str) (ln ac fl:Nat) (nw:Bool) (a:Nat) (v c f:Value) (te:Nat):Obj:=ob (.type "code") (.fields ⟨[.str nm t,.str qn (t+1),.str pL (t+2),iz ln,iz ac,iz 0,iz 0,iz fl,.ref a,.bool nw,iz 181,.ref (a+1),.none,v,c,f,iz te,iz ln,.str pL (te+1)]⟩)
def ccd (t:Nat) (nm:Str) (ln a:Nat):Obj:=cod t nm nm ln 0 0 false a .none .none .none (t+3)
noncomputable def frm (c n:Nat)(md:Value):Obj:=⟨.type "frame",none,.plain,⟨[some (.ref c),some (.ref 3),some (.ref n),none,some md,none,some (.ref 0)]⟩⟩
noncomputable def en (P:Params)(x:Str)(t:Nat)(v:Value):DictEntry:=⟨PyData.keyHash P x,.str x t,v⟩
def dc (P:Params) (n:Nat) (l:List DictEntry):Obj:=ob (.type "dict") (.dict ⟨l⟩ n)
def ns0 (P:Params) (t:Nat) (md:Value) (nm:Str) (ln:Nat) (ms:List DictEntry):Obj:=dc P (ms.length+3) (en P s!"__module__" t md::en P s!"__qualname__" (t+2) (.str nm (t+1))::en P s!"__firstlineno__" (t+4) (iv ln (t+3))::ms)
def ns1 (P:Params) (n t:Nat) (md:Value) (ln:Nat) (ms ex:List DictEntry):Obj:=dc P n (en P s!"__module__" t md::en P s!"__firstlineno__" (t+4) (iv ln (t+3))::(ms++ex))
noncomputable def cl (a:Nat)(nm:Str)(bs mro:List Value)(b:Option Value)(t1 t2:Nat)(nw:Value)(subs:List Value):Obj:=⟨.type "type",none,.cls { name:=nm,bases:=bs,mro:=mro,ns:=Nat.pred a,qualname:=nm,subclasses:=subs },⟨[b,none,some (.str nm t1),some (.str nm t2),some nw,some (.bool true)]⟩⟩
noncomputable def fnD (f:FI)(g:Nat)(dv md cd:Value):Data:=.func { name:=f.name,qualname:=f.qual,params:=f.params,body:=.stmts f.body,scope:=f.scope,globals:=g,closure:=[],defaults:=dv,kwdefaults:=.none,pyModule:=md,code:=cd }
noncomputable def dfV (f:FI)(b:Nat):Value:=match f.df with|[]=>.none|_::_=>.ref (Nat.pred b)
noncomputable def tks:List Str->Nat->List Value
 |[],_=>[]
 |x::r,t=>.str x t::tks r (t+1)
def fnC (a t ln:Nat) (md:Value) (vs cs:List Str):List Obj:=
 [tp [],fd [],tp (tks vs (t+3)),tp (tks cs (t+3+vs.length)),ob .none (fnD (fiA a) 0 .none .none .none),cod t (fiA a).name (fiA a).qual ln (fiA a).ps.length 3 true (a - 6) (.ref (a - 4)) (.ref (a - 3)) (.ref (a - 2)) (t+3+vs.length+cs.length),
  ob (.type "function") (fnD (fiA a) 3 (dfV (fiA a) (a - 6)) md (.ref (a - 1)))]
def fnV (a t ln:Nat) (md:Value) (ex:List Str):List Obj:=fnC a t ln md ((fiA a).ps++ex) []
def fnN (a t ln:Nat) (md:Value):List Obj:=
 [tp [],fd [],ob .none (fnD (fiA a) 0 .none .none .none),cod t (fiA a).name (fiA a).qual ln (fiA a).ps.length 3 true (a - 4) .none .none (.ref (a - 2)) (t+3),
  ob (.type "function") (fnD (fiA a) 3 (dfV (fiA a) (a - 4)) md (.ref (a - 1)))]
def tri:List (Nat×Nat)->List Value
 |[]=>[]
 |p::r=>iz p.1::iz 0::.ref p.2::tri r
def e22 (P:Params):List (Str×AV)->Nat->List DictEntry
 |(x,.str l)::r,t=>en P x t (.str ⟨⟨l⟩⟩ (t+1))::e22 P r (t+2)
 |_,_=>[]
def o22 (P:Params):Obj:=dc P 11 (e22 P ((aa qu 22).getD []) 196)
noncomputable def md0:Value:=(.str s!"__main__" (nat_lit 164))
noncomputable def md1:Value:=(.str s!"gemrows.things" (nat_lit 194))
noncomputable def md2:Value:=(.str s!"gemrows.coretools" (nat_lit 762))
noncomputable def md3:Value:=(.str s!"gemrows.lines" (nat_lit 828))
noncomputable def md4:Value:=(.str s!"gemrows.core" (nat_lit 871))
noncomputable def md5:Value:=(.str s!"gemrows.errors" (nat_lit 945))
noncomputable def md6:Value:=(.str s!"gemrows.needs" (nat_lit 1000))
noncomputable def md7:Value:=(.str s!"gemrows.lists" (nat_lit 1048))
noncomputable def md8:Value:=(.str s!"gemrows.tables" (nat_lit 1088))
noncomputable def md9:Value:=(.str s!"gemrows.formats" (nat_lit 1136))
noncomputable def uY:Value:=(.str s!"gemrows.texts" (nat_lit 1158))
noncomputable def bq:Value:=(.str s!"gemrows.world" (nat_lit 1194))
noncomputable def jB:Value:=(.str s!"law_nu0294_01" (nat_lit 1701))
def pM (P:Params):List DictEntry:=[en P s!"__init__" (nat_lit 280) (.ref (nat_lit 37)),en P s!"__static_attributes__" (nat_lit 287) (.ref (nat_lit 38))]
def uZ (P:Params):List DictEntry:=[en P s!"__init__" (nat_lit 317) (.ref (nat_lit 59)),en P s!"__static_attributes__" (nat_lit 319) (.ref (nat_lit 60))]
def ik (P:Params):List DictEntry:=[en P s!"__init__" (nat_lit 344) (.ref (nat_lit 79)),en P s!"__static_attributes__" (nat_lit 346) (.ref (nat_lit 80))]
def gy (P:Params):List DictEntry:=[en P s!"__init__" (nat_lit 370) (.ref (nat_lit 98)),en P s!"put" (nat_lit 381) (.ref (nat_lit 105)),en P s!"row" (nat_lit 389) (.ref (nat_lit 112)),en P s!"pairs" (nat_lit 395) (.ref (nat_lit 117)),en P s!"__static_attributes__" (nat_lit 398) (.ref (nat_lit 118))]
def gz (P:Params):List DictEntry:=[en P s!"__init__" (nat_lit 425) (.ref (nat_lit 137)),en P s!"__static_attributes__" (nat_lit 429) (.ref (nat_lit 138))]
def ip (P:Params):List DictEntry:=[en P s!"__init__" (nat_lit 462) (.ref (nat_lit 158)),en P s!"__static_attributes__" (nat_lit 472) (.ref (nat_lit 159))]
def gB (P:Params):List DictEntry:=[en P s!"__init__" (nat_lit 497) (.ref (nat_lit 178)),en P s!"__static_attributes__" (nat_lit 500) (.ref (nat_lit 179))]
def gC (P:Params):List DictEntry:=[en P s!"__init__" (nat_lit 525) (.ref (nat_lit 198)),en P s!"__static_attributes__" (nat_lit 530) (.ref (nat_lit 199))]
def fH (P:Params):List DictEntry:=[en P s!"__init__" (nat_lit 558) (.ref (nat_lit 218)),en P s!"is_own" (nat_lit 565) (.ref (nat_lit 225)),en P s!"__static_attributes__" (nat_lit 577) (.ref (nat_lit 226))]
def pN (P:Params):List DictEntry:=[en P s!"__init__" (nat_lit 606) (.ref (nat_lit 245)),en P s!"moved" (nat_lit 617) (.ref (nat_lit 253)),en P s!"__static_attributes__" (nat_lit 626) (.ref (nat_lit 254))]
def jC (P:Params):List DictEntry:=[en P s!"__init__" (nat_lit 967) (.ref (nat_lit 521)),en P s!"__static_attributes__" (nat_lit 969) (.ref (nat_lit 522))]
def mT (P:Params):List DictEntry:=[en P s!"__init__" (nat_lit 994) (.ref (nat_lit 541)),en P s!"__static_attributes__" (nat_lit 996) (.ref (nat_lit 542))]
def pO (P:Params):List DictEntry:=[en P s!"__init__" (nat_lit 1370) (.ref (nat_lit 712)),en P s!"tick" (nat_lit 1377) (.ref (nat_lit 719)),en P s!"write" (nat_lit 1385) (.ref (nat_lit 726)),en P s!"number" (nat_lit 1392) (.ref (nat_lit 733)),en P s!"next_ident" (nat_lit 1399) (.ref (nat_lit 740)),en P s!"ident" (nat_lit 1408) (.ref (nat_lit 747)),en P s!"builtin" (nat_lit 1417) (.ref (nat_lit 754)),en P s!"make_builtin" (nat_lit 1423) (.ref (nat_lit 759)),en P s!"give_own" (nat_lit 1431) (.ref (nat_lit 766)),en P s!"new_module" (nat_lit 1446) (.ref (nat_lit 774)),en P s!"class_of" (nat_lit 1454) (.ref (nat_lit 781)),en P s!"own_of" (nat_lit 1462) (.ref (nat_lit 788)),en P s!"own_behind" (nat_lit 1470) (.ref (nat_lit 795)),en P s!"root_of" (nat_lit 1478) (.ref (nat_lit 802)),en P s!"real_class" (nat_lit 1486) (.ref (nat_lit 809)),en P s!"text" (nat_lit 1494) (.ref (nat_lit 816)),en P s!"list_of" (nat_lit 1502) (.ref (nat_lit 823)),en P s!"table_of" (nat_lit 1513) (.ref (nat_lit 830)),en P s!"key_of" (nat_lit 1522) (.ref (nat_lit 837)),en P s!"range_of" (nat_lit 1534) (.ref (nat_lit 844)),en P s!"proc" (nat_lit 1551) (.ref (nat_lit 851)),en P s!"thing" (nat_lit 1561) (.ref (nat_lit 858)),en P s!"is_error_class" (nat_lit 1569) (.ref (nat_lit 865)),en P s!"spread" (nat_lit 1577) (.ref (nat_lit 872)),en P s!"error" (nat_lit 1586) (.ref (nat_lit 879)),en P s!"fail" (nat_lit 1595) (.ref (nat_lit 886)),en P s!"need_thawed" (nat_lit 1604) (.ref (nat_lit 893)),en P s!"set_field" (nat_lit 1614) (.ref (nat_lit 900)),en P s!"describe" (nat_lit 1622) (.ref (nat_lit 907)),en P s!"own_constant" (nat_lit 1631) (.ref (nat_lit 914)),en P s!"find_constant" (nat_lit 1640) (.ref (nat_lit 921)),en P s!"constant" (nat_lit 1649) (.ref (nat_lit 928)),en P s!"find_in" (nat_lit 1658) (.ref (nat_lit 935)),en P s!"constant_in" (nat_lit 1667) (.ref (nat_lit 942)),en P s!"set_constant" (nat_lit 1677) (.ref (nat_lit 949)),en P s!"__static_attributes__" (nat_lit 1693) (.ref (nat_lit 950))]
def Df (subs:List Value):Obj:=cl (nat_lit 40) s!"Thing" [(.type "object")] [(.ref (nat_lit 40)),(.type "object")] none (nat_lit 260) (nat_lit 268) (.builtin "object.__new__") subs
def I0 (subs:List Value):Obj:=cl (nat_lit 524) s!"GemError" [(.type "ValueError")] [(.ref (nat_lit 524)),(.type "ValueError"),(.type "Exception"),(.type "BaseException"),(.type "object")] (some (.ref (nat_lit 507))) (nat_lit 947) (nat_lit 955) (.builtin "ValueError.__new__") subs
def glE (P:Params) (nm iw kw:Value):List DictEntry:=en P s!"__name__" (nat_lit 165) nm::[en P s!"__doc__" (nat_lit 166) .none,en P s!"__package__" (nat_lit 167) .none,en P s!"__loader__" (nat_lit 168) (.builtin "__main__.__loader__#opaque"),en P s!"__spec__" (nat_lit 169) .none,en P s!"__annotations__" (nat_lit 170) (.ref (nat_lit 6)),en P s!"__builtins__" (nat_lit 171) (.ref (nat_lit 4)),en P s!"__file__" (nat_lit 173) (.str s!"/claim/cut.py" (nat_lit 172)),en P s!"__cached__" (nat_lit 174) .none,en P s!"_wall" (nat_lit 193) (.ref (nat_lit 21)),en P s!"SIMPLE_ESCAPES" (nat_lit 229) (.ref (nat_lit 22)),en P s!"OPERATORS" (nat_lit 257) (.ref (nat_lit 23)),en P s!"DEEPEST_KEY" (nat_lit 259) (iv (nat_lit 12) (nat_lit 258)),en P s!"Thing" (nat_lit 294) (.ref (nat_lit 40)),en P s!"Text" (nat_lit 322) (.ref (nat_lit 62)),en P s!"ListThing" (nat_lit 349) (.ref (nat_lit 82)),en P s!"TableThing" (nat_lit 401) (.ref (nat_lit 120)),en P s!"RangeThing" (nat_lit 432) (.ref (nat_lit 140)),en P s!"ProcThing" (nat_lit 475) (.ref (nat_lit 161)),en P s!"ErrorThing" (nat_lit 503) (.ref (nat_lit 181)),en P s!"FiberThing" (nat_lit 533) (.ref (nat_lit 201)),en P s!"ModuleThing" (nat_lit 580) (.ref (nat_lit 228)),en P s!"Entry" (nat_lit 633) (.ref (nat_lit 256)),en P s!"is_int" (nat_lit 640) (.ref (nat_lit 267)),en P s!"sort_of" (nat_lit 647) (.ref (nat_lit 274)),en P s!"same" (nat_lit 656) (.ref (nat_lit 281)),en P s!"code_of" (nat_lit 662) (.ref (nat_lit 287)),en P s!"is_word" (nat_lit 670) iw,en P s!"is_word_things" (nat_lit 671) (.ref (nat_lit 294)),en P s!"is_label" (nat_lit 678) (.ref (nat_lit 301)),en P s!"is_plain_symbol" (nat_lit 685) (.ref (nat_lit 308)),en P s!"full_name" (nat_lit 692) (.ref (nat_lit 315)),en P s!"show_letter" (nat_lit 702) (.ref (nat_lit 322)),en P s!"show_text" (nat_lit 708) (.ref (nat_lit 327)),en P s!"show_symbol" (nat_lit 715) (.ref (nat_lit 334)),en P s!"show_pair" (nat_lit 724) (.ref (nat_lit 341)),en P s!"show_range" (nat_lit 734) (.ref (nat_lit 348)),en P s!"show_thing" (nat_lit 740) (.ref (nat_lit 353)),en P s!"show_error" (nat_lit 751) (.ref (nat_lit 360)),en P s!"show" (nat_lit 761) (.ref (nat_lit 368)),en P s!"LETTERS" (nat_lit 765) (.str s!"abcdefghijklmnopqrstuvwxyz" (nat_lit 764)),en P s!"DIGITS" (nat_lit 767) (.str s!"0123456789" (nat_lit 766)),en P s!"name_in" (nat_lit 775) (.ref (nat_lit 375)),en P s!"is_word_coretools" (nat_lit 785) (.ref (nat_lit 382)),en P s!"field_name" (nat_lit 794) (.ref (nat_lit 389)),en P s!"copy_into" (nat_lit 800) (.ref (nat_lit 394)),en P s!"copy_proc" (nat_lit 808) (.ref (nat_lit 401)),en P s!"copy_module" (nat_lit 818) (.ref (nat_lit 408)),en P s!"copy_of" (nat_lit 827) (.ref (nat_lit 415)),en P s!"raise_version" (nat_lit 836) (.ref (nat_lit 422)),en P s!"need_unfrozen" (nat_lit 844) (.ref (nat_lit 429)),en P s!"own_module" (nat_lit 853) (.ref (nat_lit 436)),en P s!"define" (nat_lit 862) (.ref (nat_lit 443)),en P s!"kind_word" (nat_lit 869) kw,en P s!"kind_word_lines" (nat_lit 870) (.ref (nat_lit 450)),en P s!"object_freeze" (nat_lit 881) (.ref (nat_lit 457)),en P s!"object_frozen" (nat_lit 890) (.ref (nat_lit 464)),en P s!"copy_own" (nat_lit 899) (.ref (nat_lit 471)),en P s!"object_dup" (nat_lit 909) (.ref (nat_lit 478)),en P s!"object_clone" (nat_lit 919) (.ref (nat_lit 485)),en P s!"fields_of" (nat_lit 926) (.ref (nat_lit 492)),en P s!"object_get" (nat_lit 935) (.ref (nat_lit 499)),en P s!"object_set" (nat_lit 944) (.ref (nat_lit 506)),en P s!"GemError" (nat_lit 974) (.ref (nat_lit 524)),en P s!"Raised" (nat_lit 999) (.ref (nat_lit 544)),en P s!"kind_word_needs" (nat_lit 1010) (.ref (nat_lit 553)),en P s!"need_int" (nat_lit 1018) (.ref (nat_lit 560)),en P s!"need_open" (nat_lit 1026) (.ref (nat_lit 567)),en P s!"need_count" (nat_lit 1036) (.ref (nat_lit 574)),en P s!"put_row" (nat_lit 1047) (.ref (nat_lit 581)),en P s!"list_push" (nat_lit 1058) (.ref (nat_lit 588)),en P s!"list_pop" (nat_lit 1069) (.ref (nat_lit 595)),en P s!"list_reverse_here" (nat_lit 1078) (.ref (nat_lit 602)),en P s!"list_clear" (nat_lit 1087) (.ref (nat_lit 609)),en P s!"table_spare" (nat_lit 1098) (.ref (nat_lit 616)),en P s!"table_set_spare" (nat_lit 1107) (.ref (nat_lit 623)),en P s!"table_put" (nat_lit 1116) (.ref (nat_lit 630)),en P s!"table_delete" (nat_lit 1126) (.ref (nat_lit 637)),en P s!"table_clear" (nat_lit 1135) (.ref (nat_lit 644)),en P s!"MOST_TEXT" (nat_lit 1139) (iv (nat_lit 20000) (nat_lit 1138)),en P s!"letters" (nat_lit 1149) (.ref (nat_lit 651)),en P s!"sized" (nat_lit 1157) (.ref (nat_lit 658)),en P s!"need_free" (nat_lit 1167) (.ref (nat_lit 665)),en P s!"put" (nat_lit 1176) (.ref (nat_lit 672)),en P s!"joined" (nat_lit 1187) (.ref (nat_lit 679)),en P s!"joined_ahead" (nat_lit 1193) (.ref (nat_lit 684)),en P s!"MODULES" (nat_lit 1199) (.ref (nat_lit 685)),en P s!"BUILTINS" (nat_lit 1316) (.ref (nat_lit 686)),en P s!"MIXED" (nat_lit 1338) (.ref (nat_lit 689)),en P s!"UNMADE" (nat_lit 1345) (.ref (nat_lit 697)),en P s!"World" (nat_lit 1700) (.ref (nat_lit 952)),en P s!"_law_box" (nat_lit 1711) (.ref (nat_lit 963)),en P s!"_law_take" (nat_lit 1720) (.ref (nat_lit 970)),en P s!"_law_made" (nat_lit 1730) (.ref (nat_lit 977)),en P s!"_law_holds" (nat_lit 1736) (.ref (nat_lit 982)),en P s!"_law_turn" (nat_lit 1742) (.ref (nat_lit 987)),en P s!"_law_set" (nat_lit 1756) (.ref (nat_lit 994)),en P s!"_law_refused" (nat_lit 1764) (.ref (nat_lit 1001)),en P s!"_law_copied" (nat_lit 1776) (.ref (nat_lit 1008)),en P s!"_law_deed_right" (nat_lit 1793) (.ref (nat_lit 1015)),en P s!"law" (nat_lit 1799) (.ref (nat_lit 1020))]
def c12:List Value:=tri [((nat_lit 1),(nat_lit 20)),((nat_lit 8),(nat_lit 29)),((nat_lit 17),(nat_lit 50)),((nat_lit 22),(nat_lit 70)),((nat_lit 27),(nat_lit 90)),((nat_lit 47),(nat_lit 128)),((nat_lit 54),(nat_lit 148)),((nat_lit 67),(nat_lit 169)),((nat_lit 73),(nat_lit 189)),((nat_lit 81),(nat_lit 209)),((nat_lit 99),(nat_lit 236)),((nat_lit 116),(nat_lit 266)),((nat_lit 118),(nat_lit 273)),((nat_lit 126),(nat_lit 280)),((nat_lit 131),(nat_lit 286)),((nat_lit 142),(nat_lit 293)),((nat_lit 150),(nat_lit 300)),((nat_lit 152),(nat_lit 307)),((nat_lit 160),(nat_lit 314)),((nat_lit 168),(nat_lit 321)),((nat_lit 178),(nat_lit 326)),((nat_lit 181),(nat_lit 333)),((nat_lit 183),(nat_lit 340)),((nat_lit 187),(nat_lit 347)),((nat_lit 191),(nat_lit 352)),((nat_lit 212),(nat_lit 359)),((nat_lit 218),(nat_lit 367)),((nat_lit 232),(nat_lit 374)),((nat_lit 238),(nat_lit 381)),((nat_lit 246),(nat_lit 388)),((nat_lit 251),(nat_lit 393)),((nat_lit 268),(nat_lit 400)),((nat_lit 272),(nat_lit 407)),((nat_lit 281),(nat_lit 414)),((nat_lit 290),(nat_lit 421)),((nat_lit 292),(nat_lit 428)),((nat_lit 295),(nat_lit 435)),((nat_lit 310),(nat_lit 442)),((nat_lit 314),(nat_lit 449)),((nat_lit 318),(nat_lit 456)),((nat_lit 322),(nat_lit 463)),((nat_lit 324),(nat_lit 470)),((nat_lit 328),(nat_lit 477)),((nat_lit 333),(nat_lit 484)),((nat_lit 339),(nat_lit 491)),((nat_lit 341),(nat_lit 498)),((nat_lit 343),(nat_lit 505)),((nat_lit 347),(nat_lit 512)),((nat_lit 352),(nat_lit 533)),((nat_lit 358),(nat_lit 552)),((nat_lit 365),(nat_lit 559)),((nat_lit 371),(nat_lit 566)),((nat_lit 374),(nat_lit 573)),((nat_lit 379),(nat_lit 580)),((nat_lit 386),(nat_lit 587)),((nat_lit 390),(nat_lit 594)),((nat_lit 398),(nat_lit 601)),((nat_lit 402),(nat_lit 608)),((nat_lit 407),(nat_lit 615)),((nat_lit 409),(nat_lit 622)),((nat_lit 413),(nat_lit 629)),((nat_lit 417),(nat_lit 636)),((nat_lit 421),(nat_lit 643)),((nat_lit 427),(nat_lit 650)),((nat_lit 433),(nat_lit 657)),((nat_lit 436),(nat_lit 664)),((nat_lit 439),(nat_lit 671)),((nat_lit 443),(nat_lit 678)),((nat_lit 448),(nat_lit 683)),((nat_lit 455),(nat_lit 703)),((nat_lit 666),(nat_lit 962)),((nat_lit 671),(nat_lit 969)),((nat_lit 678),(nat_lit 976)),((nat_lit 693),(nat_lit 981)),((nat_lit 710),(nat_lit 986)),((nat_lit 744),(nat_lit 993)),((nat_lit 749),(nat_lit 1000)),((nat_lit 755),(nat_lit 1007)),((nat_lit 764),(nat_lit 1014)),((nat_lit 788),(nat_lit 1019))]
def I1 (P:Params) (o3 o12 o40 o524:Obj):List Obj:=[boot_o_0 P,boot_o_1 P,boot_o_2 P,o3,boot_o_4 P,boot_o_5 P,boot_o_6 P,boot_o_7 P,boot_o_8 P,boot_o_9 P,boot_o_10 P]++(
 [tp [],o12,ccd (nat_lit 182) s!"<module>" (nat_lit 1) (nat_lit 11),frm (nat_lit 13) (nat_lit 3) md0]++(
 fnV (nat_lit 21) (nat_lit 187) (nat_lit 1) md0 []++(
 [o22 P,tp [(.str s!"+" (nat_lit 230)),(.str s!"-" (nat_lit 231)),(.str s!"*" (nat_lit 232)),(.str s!"/" (nat_lit 233)),(.str s!"%" (nat_lit 234)),(.str s!"**" (nat_lit 235)),(.str s!"==" (nat_lit 236)),(.str s!"!=" (nat_lit 237)),(.str s!"<" (nat_lit 238)),(.str s!">" (nat_lit 239)),(.str s!"<=" (nat_lit 240)),(.str s!">=" (nat_lit 241)),(.str s!"<=>" (nat_lit 242)),(.str s!"===" (nat_lit 243)),(.str s!"[]" (nat_lit 244)),(.str s!"[]=" (nat_lit 245)),(.str s!"<<" (nat_lit 246)),(.str s!">>" (nat_lit 247)),(.str s!"!" (nat_lit 248)),(.str s!"~" (nat_lit 249)),(.str s!"+@" (nat_lit 250)),(.str s!"-@" (nat_lit 251)),(.str s!"&" (nat_lit 252)),(.str s!"|" (nat_lit 253)),(.str s!"^" (nat_lit 254)),(.str s!"=~" (nat_lit 255)),(.str s!"!~" (nat_lit 256))],tp [],gW,ns0 P (nat_lit 267) md1 s!"Thing" (nat_lit 8) (pM P),tp [],fd [(iz (nat_lit 10)),(iz (nat_lit 4)),(.ref (nat_lit 36))],ccd (nat_lit 262) s!"Thing" (nat_lit 8) (nat_lit 27),frm (nat_lit 29) (nat_lit 26) md1]++(
 fnV (nat_lit 37) (nat_lit 272) (nat_lit 10) md1 []++(
 [tp [(.str s!"fields" (nat_lit 281)),(.str s!"frozen" (nat_lit 282)),(.str s!"ident" (nat_lit 283)),(.str s!"number" (nat_lit 284)),(.str s!"own" (nat_lit 285)),(.str s!"owner" (nat_lit 286))],ns1 P (nat_lit 4) (nat_lit 267) md1 (nat_lit 8) (pM P) [en P s!"__dict__" (nat_lit 289) (.ref (nat_lit 41)),en P s!"__weakref__" (nat_lit 291) (.ref (nat_lit 42)),en P s!"__doc__" (nat_lit 292) .none],o40,gs [(.str s!"__dict__" (nat_lit 288)),(.ref (nat_lit 40)),(.builtin "function.__dict__"),(.builtin "function.__dict__#set")],gs [(.str s!"__weakref__" (nat_lit 290)),(.ref (nat_lit 40)),(.builtin "ExceptionGroup.__weakref__"),.none],sup (nat_lit 40),gX (nat_lit 40),tp [(.ref (nat_lit 40))],gW,ns0 P (nat_lit 302) md1 s!"Text" (nat_lit 17) (uZ P),tp [],fd [(iz (nat_lit 19)),(iz (nat_lit 4)),(.ref (nat_lit 58))],ccd (nat_lit 297) s!"Text" (nat_lit 17) (nat_lit 48),frm (nat_lit 50) (nat_lit 47) md1,tp [(.str s!"" (nat_lit 307))]]++(
 fnV (nat_lit 59) (nat_lit 308) (nat_lit 19) md1 []++(
 [tp [(.str s!"text" (nat_lit 318))],ns1 P (nat_lit 2) (nat_lit 302) md1 (nat_lit 17) (uZ P) [en P s!"__doc__" (nat_lit 320) .none],cl (nat_lit 62) s!"Text" [(.ref (nat_lit 40))] [(.ref (nat_lit 62)),(.ref (nat_lit 40)),(.type "object")] (some (.ref (nat_lit 45))) (nat_lit 295) (nat_lit 303) (.builtin "object.__new__") [],sup (nat_lit 62),gX (nat_lit 62),tp [(.ref (nat_lit 40))],gW,ns0 P (nat_lit 330) md1 s!"ListThing" (nat_lit 22) (ik P),tp [],fd [(iz (nat_lit 24)),(iz (nat_lit 4)),(.ref (nat_lit 78))],ccd (nat_lit 325) s!"ListThing" (nat_lit 22) (nat_lit 68),frm (nat_lit 70) (nat_lit 67) md1,tp [.none]]++(
 fnV (nat_lit 79) (nat_lit 335) (nat_lit 24) md1 []++(
 [tp [(.str s!"items" (nat_lit 345))],ns1 P (nat_lit 2) (nat_lit 330) md1 (nat_lit 22) (ik P) [en P s!"__doc__" (nat_lit 347) .none],cl (nat_lit 82) s!"ListThing" [(.ref (nat_lit 40))] [(.ref (nat_lit 82)),(.ref (nat_lit 40)),(.type "object")] (some (.ref (nat_lit 65))) (nat_lit 323) (nat_lit 331) (.builtin "object.__new__") [],sup (nat_lit 82),gX (nat_lit 82),tp [(.ref (nat_lit 40))],gW,ns0 P (nat_lit 357) md1 s!"TableThing" (nat_lit 27) (gy P),tp [],fd [(iz (nat_lit 29)),(iz (nat_lit 4)),(.ref (nat_lit 97)),(iz (nat_lit 34)),(iz (nat_lit 4)),(.ref (nat_lit 104)),(iz (nat_lit 42)),(iz (nat_lit 4)),(.ref (nat_lit 111)),(iz (nat_lit 45)),(iz (nat_lit 4)),(.ref (nat_lit 116))],ccd (nat_lit 352) s!"TableThing" (nat_lit 27) (nat_lit 88),frm (nat_lit 90) (nat_lit 87) md1]++(
 fnV (nat_lit 98) (nat_lit 362) (nat_lit 29) md1 []++(
 fnV (nat_lit 105) (nat_lit 371) (nat_lit 34) md1 [s!"code",s!"row"]++(
 fnV (nat_lit 112) (nat_lit 382) (nat_lit 42) md1 []++(
 fnN (nat_lit 117) (nat_lit 390) (nat_lit 45) md1++(
 [tp [(.str s!"rows" (nat_lit 396)),(.str s!"spare" (nat_lit 397))],ns1 P (nat_lit 2) (nat_lit 357) md1 (nat_lit 27) (gy P) [en P s!"__doc__" (nat_lit 399) .none],cl (nat_lit 120) s!"TableThing" [(.ref (nat_lit 40))] [(.ref (nat_lit 120)),(.ref (nat_lit 40)),(.type "object")] (some (.ref (nat_lit 85))) (nat_lit 350) (nat_lit 358) (.builtin "object.__new__") [],sup (nat_lit 120),gX (nat_lit 120),tp [(.ref (nat_lit 40))],gW,ns0 P (nat_lit 409) md1 s!"RangeThing" (nat_lit 47) (gz P),tp [],fd [(iz (nat_lit 49)),(iz (nat_lit 4)),(.ref (nat_lit 136))],ccd (nat_lit 404) s!"RangeThing" (nat_lit 47) (nat_lit 126),frm (nat_lit 128) (nat_lit 125) md1,tp [.none,.none,(.bool false)]]++(
 fnV (nat_lit 137) (nat_lit 414) (nat_lit 49) md1 []++(
 [tp [(.str s!"first" (nat_lit 426)),(.str s!"last" (nat_lit 427)),(.str s!"open" (nat_lit 428))],ns1 P (nat_lit 2) (nat_lit 409) md1 (nat_lit 47) (gz P) [en P s!"__doc__" (nat_lit 430) .none],cl (nat_lit 140) s!"RangeThing" [(.ref (nat_lit 40))] [(.ref (nat_lit 140)),(.ref (nat_lit 40)),(.type "object")] (some (.ref (nat_lit 123))) (nat_lit 402) (nat_lit 410) (.builtin "object.__new__") [],sup (nat_lit 140),gX (nat_lit 140),tp [(.ref (nat_lit 40))],gW,ns0 P (nat_lit 440) md1 s!"ProcThing" (nat_lit 54) (ip P),tp [],fd [(iz (nat_lit 56)),(iz (nat_lit 4)),(.ref (nat_lit 157))],ccd (nat_lit 435) s!"ProcThing" (nat_lit 54) (nat_lit 146),frm (nat_lit 148) (nat_lit 145) md1,tp [],tp [.none,.none,.none,.none,(.ref (nat_lit 150)),.none,.none,(.bool false),.none]]++(
 fnV (nat_lit 158) (nat_lit 445) (nat_lit 56) md1 []++(
 [tp [(.str s!"body" (nat_lit 463)),(.str s!"definer" (nat_lit 464)),(.str s!"env" (nat_lit 465)),(.str s!"home" (nat_lit 466)),(.str s!"is_lambda" (nat_lit 467)),(.str s!"nesting" (nat_lit 468)),(.str s!"params" (nat_lit 469)),(.str s!"self_value" (nat_lit 470)),(.str s!"site" (nat_lit 471))],ns1 P (nat_lit 2) (nat_lit 440) md1 (nat_lit 54) (ip P) [en P s!"__doc__" (nat_lit 473) .none],cl (nat_lit 161) s!"ProcThing" [(.ref (nat_lit 40))] [(.ref (nat_lit 161)),(.ref (nat_lit 40)),(.type "object")] (some (.ref (nat_lit 143))) (nat_lit 433) (nat_lit 441) (.builtin "object.__new__") [],sup (nat_lit 161),gX (nat_lit 161),tp [(.ref (nat_lit 40))],gW,ns0 P (nat_lit 483) md1 s!"ErrorThing" (nat_lit 67) (gB P),tp [],fd [(iz (nat_lit 69)),(iz (nat_lit 4)),(.ref (nat_lit 177))],ccd (nat_lit 478) s!"ErrorThing" (nat_lit 67) (nat_lit 167),frm (nat_lit 169) (nat_lit 166) md1,tp [.none]]++(
 fnV (nat_lit 178) (nat_lit 488) (nat_lit 69) md1 []++(
 [tp [(.str s!"cause" (nat_lit 498)),(.str s!"message" (nat_lit 499))],ns1 P (nat_lit 2) (nat_lit 483) md1 (nat_lit 67) (gB P) [en P s!"__doc__" (nat_lit 501) .none],cl (nat_lit 181) s!"ErrorThing" [(.ref (nat_lit 40))] [(.ref (nat_lit 181)),(.ref (nat_lit 40)),(.type "object")] (some (.ref (nat_lit 164))) (nat_lit 476) (nat_lit 484) (.builtin "object.__new__") [],sup (nat_lit 181),gX (nat_lit 181),tp [(.ref (nat_lit 40))],gW,ns0 P (nat_lit 511) md1 s!"FiberThing" (nat_lit 73) (gC P),tp [],fd [(iz (nat_lit 75)),(iz (nat_lit 4)),(.ref (nat_lit 197))],ccd (nat_lit 506) s!"FiberThing" (nat_lit 73) (nat_lit 187),frm (nat_lit 189) (nat_lit 186) md1,tp [.none]]++(
 fnV (nat_lit 198) (nat_lit 516) (nat_lit 75) md1 []++(
 [tp [(.str s!"back" (nat_lit 526)),(.str s!"proc" (nat_lit 527)),(.str s!"rows" (nat_lit 528)),(.str s!"state" (nat_lit 529))],ns1 P (nat_lit 2) (nat_lit 511) md1 (nat_lit 73) (gC P) [en P s!"__doc__" (nat_lit 531) .none],cl (nat_lit 201) s!"FiberThing" [(.ref (nat_lit 40))] [(.ref (nat_lit 201)),(.ref (nat_lit 40)),(.type "object")] (some (.ref (nat_lit 184))) (nat_lit 504) (nat_lit 512) (.builtin "object.__new__") [],sup (nat_lit 201),gX (nat_lit 201),tp [(.ref (nat_lit 40))],gW,ns0 P (nat_lit 541) md1 s!"ModuleThing" (nat_lit 81) (fH P),tp [],fd [(iz (nat_lit 83)),(iz (nat_lit 4)),(.ref (nat_lit 217)),(iz (nat_lit 97)),(iz (nat_lit 4)),(.ref (nat_lit 224))],ccd (nat_lit 536) s!"ModuleThing" (nat_lit 81) (nat_lit 207),frm (nat_lit 209) (nat_lit 206) md1,tp [.none,(.bool false),.none,.none]]++(
 fnV (nat_lit 218) (nat_lit 546) (nat_lit 83) md1 []++(
 fnV (nat_lit 225) (nat_lit 559) (nat_lit 97) md1 []++(
 [tp [(.str s!"ahead" (nat_lit 566)),(.str s!"attached" (nat_lit 567)),(.str s!"constants" (nat_lit 568)),(.str s!"is_class" (nat_lit 569)),(.str s!"kept" (nat_lit 570)),(.str s!"methods" (nat_lit 571)),(.str s!"mixed" (nat_lit 572)),(.str s!"name" (nat_lit 573)),(.str s!"native" (nat_lit 574)),(.str s!"outer" (nat_lit 575)),(.str s!"parent" (nat_lit 576))],ns1 P (nat_lit 2) (nat_lit 541) md1 (nat_lit 81) (fH P) [en P s!"__doc__" (nat_lit 578) .none],cl (nat_lit 228) s!"ModuleThing" [(.ref (nat_lit 40))] [(.ref (nat_lit 228)),(.ref (nat_lit 40)),(.type "object")] (some (.ref (nat_lit 204))) (nat_lit 534) (nat_lit 542) (.builtin "object.__new__") [],sup (nat_lit 228),gX (nat_lit 228),tp [],gW,ns0 P (nat_lit 588) md1 s!"Entry" (nat_lit 99) (pN P),tp [],fd [(iz (nat_lit 101)),(iz (nat_lit 4)),(.ref (nat_lit 244)),(iz (nat_lit 111)),(iz (nat_lit 4)),(.ref (nat_lit 252))],ccd (nat_lit 583) s!"Entry" (nat_lit 99) (nat_lit 234),frm (nat_lit 236) (nat_lit 233) md1,tp [.none,.none,(.str s!"public" (nat_lit 593))]]++(
 fnV (nat_lit 245) (nat_lit 594) (nat_lit 101) md1 []++(
 [tp [.none]]++(
 fnV (nat_lit 253) (nat_lit 607) (nat_lit 111) md1 [s!"found"]++(
 [tp [(.str s!"body" (nat_lit 618)),(.str s!"code" (nat_lit 619)),(.str s!"name" (nat_lit 620)),(.str s!"nesting" (nat_lit 621)),(.str s!"owner" (nat_lit 622)),(.str s!"params" (nat_lit 623)),(.str s!"sight" (nat_lit 624)),(.str s!"sort" (nat_lit 625))],ns1 P (nat_lit 4) (nat_lit 588) md1 (nat_lit 99) (pN P) [en P s!"__dict__" (nat_lit 628) (.ref (nat_lit 257)),en P s!"__weakref__" (nat_lit 630) (.ref (nat_lit 258)),en P s!"__doc__" (nat_lit 631) .none],cl (nat_lit 256) s!"Entry" [(.type "object")] [(.ref (nat_lit 256)),(.type "object")] none (nat_lit 581) (nat_lit 589) (.builtin "object.__new__") [],gs [(.str s!"__dict__" (nat_lit 627)),(.ref (nat_lit 256)),(.builtin "function.__dict__"),(.builtin "function.__dict__#set")],gs [(.str s!"__weakref__" (nat_lit 629)),(.ref (nat_lit 256)),(.builtin "ExceptionGroup.__weakref__"),.none],sup (nat_lit 256),gX (nat_lit 256)]++(
 fnV (nat_lit 267) (nat_lit 634) (nat_lit 116) md1 []++(
 fnV (nat_lit 274) (nat_lit 641) (nat_lit 118) md1 []++(
 fnV (nat_lit 281) (nat_lit 648) (nat_lit 126) md1 [s!"sort"]++(
 [tp [(iv (nat_lit 12) (nat_lit 258))]]++(
 fnN (nat_lit 287) (nat_lit 657) (nat_lit 131) md1++(
 fnV (nat_lit 294) (nat_lit 663) (nat_lit 142) md1 [s!"letter"]++(
 fnV (nat_lit 301) (nat_lit 672) (nat_lit 150) md1 []++(
 fnV (nat_lit 308) (nat_lit 679) (nat_lit 152) md1 []++(
 fnV (nat_lit 315) (nat_lit 686) (nat_lit 160) md1 []++(
 fnV (nat_lit 322) (nat_lit 693) (nat_lit 168) md1 [s!"number",s!"figures"]++(
 fnN (nat_lit 327) (nat_lit 703) (nat_lit 178) md1++(
 fnV (nat_lit 334) (nat_lit 709) (nat_lit 181) md1 []++(
 fnV (nat_lit 341) (nat_lit 716) (nat_lit 183) md1 []++(
 fnV (nat_lit 348) (nat_lit 725) (nat_lit 187) md1 [s!"first",s!"last"]++(
 fnN (nat_lit 353) (nat_lit 735) (nat_lit 191) md1++(
 fnV (nat_lit 360) (nat_lit 741) (nat_lit 212) md1 [s!"message",s!"told"]++(
 [tp [(iv (nat_lit 6) (nat_lit 752))]]++(
 fnV (nat_lit 368) (nat_lit 753) (nat_lit 218) md1 [s!"sort"]++(
 fnV (nat_lit 375) (nat_lit 768) (nat_lit 232) md2 []++(
 fnV (nat_lit 382) (nat_lit 776) (nat_lit 238) md2 [s!"sign"]++(
 fnV (nat_lit 389) (nat_lit 786) (nat_lit 246) md2 [s!"name"]++(
 fnN (nat_lit 394) (nat_lit 795) (nat_lit 251) md2++(
 fnV (nat_lit 401) (nat_lit 801) (nat_lit 268) md2 []++(
 fnV (nat_lit 408) (nat_lit 809) (nat_lit 272) md2 [s!"name",s!"entry"]++(
 fnV (nat_lit 415) (nat_lit 819) (nat_lit 281) md2 [s!"other"]++(
 fnV (nat_lit 422) (nat_lit 830) (nat_lit 290) md3 []++(
 fnV (nat_lit 429) (nat_lit 837) (nat_lit 292) md3 []++(
 fnV (nat_lit 436) (nat_lit 845) (nat_lit 295) md3 [s!"parent"]++(
 fnV (nat_lit 443) (nat_lit 854) (nat_lit 310) md3 []++(
 fnV (nat_lit 450) (nat_lit 863) (nat_lit 314) md3 []++(
 fnV (nat_lit 457) (nat_lit 873) (nat_lit 318) md4 []++(
 fnV (nat_lit 464) (nat_lit 882) (nat_lit 322) md4 []++(
 fnV (nat_lit 471) (nat_lit 891) (nat_lit 324) md4 []++(
 fnV (nat_lit 478) (nat_lit 900) (nat_lit 328) md4 [s!"found"]++(
 fnV (nat_lit 485) (nat_lit 910) (nat_lit 333) md4 [s!"found"]++(
 fnV (nat_lit 492) (nat_lit 920) (nat_lit 339) md4 []++(
 fnV (nat_lit 499) (nat_lit 927) (nat_lit 341) md4 []++(
 fnV (nat_lit 506) (nat_lit 936) (nat_lit 343) md4 []++(
 [tp [(.type "ValueError")],gW,ns0 P (nat_lit 954) md5 s!"GemError" (nat_lit 347) (jC P),tp [],fd [(iz (nat_lit 349)),(iz (nat_lit 4)),(.ref (nat_lit 520))],ccd (nat_lit 949) s!"GemError" (nat_lit 347) (nat_lit 510),frm (nat_lit 512) (nat_lit 509) md5,tp [(.str s!"" (nat_lit 959))]]++(
 fnV (nat_lit 521) (nat_lit 960) (nat_lit 349) md5 []++(
 [tp [(.str s!"reason" (nat_lit 968))],ns1 P (nat_lit 3) (nat_lit 954) md5 (nat_lit 347) (jC P) [en P s!"__weakref__" (nat_lit 971) (.ref (nat_lit 525)),en P s!"__doc__" (nat_lit 972) .none],o524,gs [(.str s!"__weakref__" (nat_lit 970)),(.ref (nat_lit 524)),(.builtin "ExceptionGroup.__weakref__"),.none],sup (nat_lit 524),gX (nat_lit 524),tp [(.ref (nat_lit 524))],gW,ns0 P (nat_lit 982) md5 s!"Raised" (nat_lit 352) (mT P),tp [],fd [(iz (nat_lit 354)),(iz (nat_lit 4)),(.ref (nat_lit 540))],ccd (nat_lit 977) s!"Raised" (nat_lit 352) (nat_lit 531),frm (nat_lit 533) (nat_lit 530) md5]++(
 fnV (nat_lit 541) (nat_lit 987) (nat_lit 354) md5 []++(
 [tp [(.str s!"thing" (nat_lit 995))],ns1 P (nat_lit 2) (nat_lit 982) md5 (nat_lit 352) (mT P) [en P s!"__doc__" (nat_lit 997) .none],cl (nat_lit 544) s!"Raised" [(.ref (nat_lit 524))] [(.ref (nat_lit 544)),(.ref (nat_lit 524)),(.type "ValueError"),(.type "Exception"),(.type "BaseException"),(.type "object")] (some (.ref (nat_lit 528))) (nat_lit 975) (nat_lit 983) (.builtin "ValueError.__new__") [],sup (nat_lit 544),gX (nat_lit 544)]++(
 fnV (nat_lit 553) (nat_lit 1002) (nat_lit 358) md6 []++(
 fnV (nat_lit 560) (nat_lit 1011) (nat_lit 365) md6 []++(
 fnV (nat_lit 567) (nat_lit 1019) (nat_lit 371) md6 []++(
 fnV (nat_lit 574) (nat_lit 1027) (nat_lit 374) md6 [s!"count"]++(
 fnV (nat_lit 581) (nat_lit 1037) (nat_lit 379) md6 [s!"code"]++(
 fnV (nat_lit 588) (nat_lit 1050) (nat_lit 386) md7 []++(
 fnV (nat_lit 595) (nat_lit 1059) (nat_lit 390) md7 [s!"count",s!"gone"]++(
 fnV (nat_lit 602) (nat_lit 1070) (nat_lit 398) md7 []++(
 fnV (nat_lit 609) (nat_lit 1079) (nat_lit 402) md7 []++(
 fnV (nat_lit 616) (nat_lit 1090) (nat_lit 407) md8 []++(
 fnV (nat_lit 623) (nat_lit 1099) (nat_lit 409) md8 []++(
 fnV (nat_lit 630) (nat_lit 1108) (nat_lit 413) md8 []++(
 fnV (nat_lit 637) (nat_lit 1117) (nat_lit 417) md8 [s!"row"]++(
 fnV (nat_lit 644) (nat_lit 1127) (nat_lit 421) md8 []++(
 fnV (nat_lit 651) (nat_lit 1140) (nat_lit 427) md9 [s!"small",s!"name"]++(
 fnV (nat_lit 658) (nat_lit 1150) (nat_lit 433) md9 []++(
 fnV (nat_lit 665) (nat_lit 1160) (nat_lit 436) uY []++(
 fnV (nat_lit 672) (nat_lit 1168) (nat_lit 439) uY []++(
 fnV (nat_lit 679) (nat_lit 1177) (nat_lit 443) uY [s!"more",s!"value"]++(
 fnN (nat_lit 684) (nat_lit 1188) (nat_lit 448) uY++(
 [tp [(.str s!"Kernel" (nat_lit 1196)),(.str s!"Comparable" (nat_lit 1197)),(.str s!"Enumerable" (nat_lit 1198))],dc P (nat_lit 40) [en P s!"BasicObject" (nat_lit 1200) .none,en P s!"Object" (nat_lit 1202) (.str s!"BasicObject" (nat_lit 1203)),en P s!"Module" (nat_lit 1205) (.str s!"Object" (nat_lit 1206)),en P s!"Class" (nat_lit 1208) (.str s!"Module" (nat_lit 1209)),en P s!"Kernel" (nat_lit 1211) .none,en P s!"Comparable" (nat_lit 1213) .none,en P s!"Enumerable" (nat_lit 1215) .none,en P s!"NilClass" (nat_lit 1217) (.str s!"Object" (nat_lit 1218)),en P s!"TrueClass" (nat_lit 1220) (.str s!"Object" (nat_lit 1221)),en P s!"FalseClass" (nat_lit 1223) (.str s!"Object" (nat_lit 1224)),en P s!"Numeric" (nat_lit 1226) (.str s!"Object" (nat_lit 1227)),en P s!"Integer" (nat_lit 1229) (.str s!"Numeric" (nat_lit 1230)),en P s!"String" (nat_lit 1232) (.str s!"Object" (nat_lit 1233)),en P s!"Symbol" (nat_lit 1235) (.str s!"Object" (nat_lit 1236)),en P s!"Array" (nat_lit 1238) (.str s!"Object" (nat_lit 1239)),en P s!"Hash" (nat_lit 1241) (.str s!"Object" (nat_lit 1242)),en P s!"Range" (nat_lit 1244) (.str s!"Object" (nat_lit 1245)),en P s!"Proc" (nat_lit 1247) (.str s!"Object" (nat_lit 1248)),en P s!"Fiber" (nat_lit 1250) (.str s!"Object" (nat_lit 1251)),en P s!"Exception" (nat_lit 1253) (.str s!"Object" (nat_lit 1254)),en P s!"ScriptError" (nat_lit 1256) (.str s!"Exception" (nat_lit 1257)),en P s!"NotImplementedError" (nat_lit 1259) (.str s!"ScriptError" (nat_lit 1260)),en P s!"SystemStackError" (nat_lit 1262) (.str s!"Exception" (nat_lit 1263)),en P s!"StandardError" (nat_lit 1265) (.str s!"Exception" (nat_lit 1266)),en P s!"ArgumentError" (nat_lit 1268) (.str s!"StandardError" (nat_lit 1269)),en P s!"UncaughtThrowError" (nat_lit 1271) (.str s!"ArgumentError" (nat_lit 1272)),en P s!"FiberError" (nat_lit 1274) (.str s!"StandardError" (nat_lit 1275)),en P s!"IndexError" (nat_lit 1277) (.str s!"StandardError" (nat_lit 1278)),en P s!"KeyError" (nat_lit 1280) (.str s!"IndexError" (nat_lit 1281)),en P s!"StopIteration" (nat_lit 1283) (.str s!"IndexError" (nat_lit 1284)),en P s!"LocalJumpError" (nat_lit 1286) (.str s!"StandardError" (nat_lit 1287)),en P s!"NameError" (nat_lit 1289) (.str s!"StandardError" (nat_lit 1290)),en P s!"NoMethodError" (nat_lit 1292) (.str s!"NameError" (nat_lit 1293)),en P s!"NoMatchingPatternError" (nat_lit 1295) (.str s!"StandardError" (nat_lit 1296)),en P s!"NoMatchingPatternKeyError" (nat_lit 1298) (.str s!"NoMatchingPatternError" (nat_lit 1299)),en P s!"RangeError" (nat_lit 1300) (.str s!"StandardError" (nat_lit 1301)),en P s!"RuntimeError" (nat_lit 1302) (.str s!"StandardError" (nat_lit 1303)),en P s!"FrozenError" (nat_lit 1304) (.str s!"RuntimeError" (nat_lit 1305)),en P s!"TypeError" (nat_lit 1306) (.str s!"StandardError" (nat_lit 1307)),en P s!"ZeroDivisionError" (nat_lit 1308) (.str s!"StandardError" (nat_lit 1309))],dc P (nat_lit 17) [en P s!"Proc" (nat_lit 1247) (.str s!"Object" (nat_lit 1248)),en P s!"Fiber" (nat_lit 1250) (.str s!"Object" (nat_lit 1251)),en P s!"Exception" (nat_lit 1253) (.str s!"Object" (nat_lit 1254)),en P s!"ScriptError" (nat_lit 1256) (.str s!"Exception" (nat_lit 1257)),en P s!"NotImplementedError" (nat_lit 1259) (.str s!"ScriptError" (nat_lit 1260)),en P s!"SystemStackError" (nat_lit 1262) (.str s!"Exception" (nat_lit 1263)),en P s!"StandardError" (nat_lit 1265) (.str s!"Exception" (nat_lit 1266)),en P s!"ArgumentError" (nat_lit 1268) (.str s!"StandardError" (nat_lit 1269)),en P s!"UncaughtThrowError" (nat_lit 1271) (.str s!"ArgumentError" (nat_lit 1272)),en P s!"FiberError" (nat_lit 1274) (.str s!"StandardError" (nat_lit 1275)),en P s!"IndexError" (nat_lit 1277) (.str s!"StandardError" (nat_lit 1278)),en P s!"KeyError" (nat_lit 1280) (.str s!"IndexError" (nat_lit 1281)),en P s!"StopIteration" (nat_lit 1283) (.str s!"IndexError" (nat_lit 1284)),en P s!"LocalJumpError" (nat_lit 1286) (.str s!"StandardError" (nat_lit 1287)),en P s!"NameError" (nat_lit 1289) (.str s!"StandardError" (nat_lit 1290)),en P s!"NoMethodError" (nat_lit 1292) (.str s!"NameError" (nat_lit 1293)),en P s!"NoMatchingPatternError" (nat_lit 1295) (.str s!"StandardError" (nat_lit 1296))],dc P (nat_lit 6) [en P s!"NoMatchingPatternKeyError" (nat_lit 1298) (.str s!"NoMatchingPatternError" (nat_lit 1299)),en P s!"RangeError" (nat_lit 1300) (.str s!"StandardError" (nat_lit 1301)),en P s!"RuntimeError" (nat_lit 1302) (.str s!"StandardError" (nat_lit 1303)),en P s!"FrozenError" (nat_lit 1304) (.str s!"RuntimeError" (nat_lit 1305)),en P s!"TypeError" (nat_lit 1306) (.str s!"StandardError" (nat_lit 1307)),en P s!"ZeroDivisionError" (nat_lit 1308) (.str s!"StandardError" (nat_lit 1309))],dc P (nat_lit 7) [en P s!"Object" (nat_lit 1317) (.ref (nat_lit 690)),en P s!"Numeric" (nat_lit 1319) (.ref (nat_lit 691)),en P s!"String" (nat_lit 1321) (.ref (nat_lit 692)),en P s!"Symbol" (nat_lit 1323) (.ref (nat_lit 693)),en P s!"Array" (nat_lit 1325) (.ref (nat_lit 694)),en P s!"Hash" (nat_lit 1327) (.ref (nat_lit 695)),en P s!"Range" (nat_lit 1329) (.ref (nat_lit 696))],tp [(.str s!"Kernel" (nat_lit 1318))],tp [(.str s!"Comparable" (nat_lit 1320))],tp [(.str s!"Comparable" (nat_lit 1322))],tp [(.str s!"Comparable" (nat_lit 1324))],tp [(.str s!"Enumerable" (nat_lit 1326))],tp [(.str s!"Enumerable" (nat_lit 1328))],tp [(.str s!"Enumerable" (nat_lit 1330))],tp [(.str s!"NilClass" (nat_lit 1339)),(.str s!"TrueClass" (nat_lit 1340)),(.str s!"FalseClass" (nat_lit 1341)),(.str s!"Integer" (nat_lit 1342)),(.str s!"Numeric" (nat_lit 1343)),(.str s!"Symbol" (nat_lit 1344))],tp [],gW,ns0 P (nat_lit 1353) bq s!"World" (nat_lit 455) (pO P),tp [],fd [(iz (nat_lit 457)),(iz (nat_lit 4)),(.ref (nat_lit 711)),(iz (nat_lit 477)),(iz (nat_lit 4)),(.ref (nat_lit 718)),(iz (nat_lit 480)),(iz (nat_lit 4)),(.ref (nat_lit 725)),(iz (nat_lit 483)),(iz (nat_lit 4)),(.ref (nat_lit 732)),(iz (nat_lit 487)),(iz (nat_lit 4)),(.ref (nat_lit 739)),(iz (nat_lit 491)),(iz (nat_lit 4)),(.ref (nat_lit 746)),(iz (nat_lit 507)),(iz (nat_lit 4)),(.ref (nat_lit 753)),(iz (nat_lit 511)),(iz (nat_lit 4)),(.ref (nat_lit 758)),(iz (nat_lit 524)),(iz (nat_lit 4)),(.ref (nat_lit 765)),(iz (nat_lit 528)),(iz (nat_lit 4)),(.ref (nat_lit 773)),(iz (nat_lit 537)),(iz (nat_lit 4)),(.ref (nat_lit 780)),(iz (nat_lit 546)),(iz (nat_lit 4)),(.ref (nat_lit 787)),(iz (nat_lit 549)),(iz (nat_lit 4)),(.ref (nat_lit 794)),(iz (nat_lit 552)),(iz (nat_lit 4)),(.ref (nat_lit 801)),(iz (nat_lit 557)),(iz (nat_lit 4)),(.ref (nat_lit 808)),(iz (nat_lit 562)),(iz (nat_lit 4)),(.ref (nat_lit 815)),(iz (nat_lit 565)),(iz (nat_lit 4)),(.ref (nat_lit 822)),(iz (nat_lit 568)),(iz (nat_lit 4)),(.ref (nat_lit 829)),(iz (nat_lit 574)),(iz (nat_lit 4)),(.ref (nat_lit 836)),(iz (nat_lit 581)),(iz (nat_lit 4)),(.ref (nat_lit 843)),(iz (nat_lit 590)),(iz (nat_lit 4)),(.ref (nat_lit 850)),(iz (nat_lit 594)),(iz (nat_lit 4)),(.ref (nat_lit 857)),(iz (nat_lit 620)),(iz (nat_lit 4)),(.ref (nat_lit 864)),(iz (nat_lit 627)),(iz (nat_lit 4)),(.ref (nat_lit 871)),(iz (nat_lit 630)),(iz (nat_lit 4)),(.ref (nat_lit 878)),(iz (nat_lit 633)),(iz (nat_lit 4)),(.ref (nat_lit 885)),(iz (nat_lit 636)),(iz (nat_lit 4)),(.ref (nat_lit 892)),(iz (nat_lit 641)),(iz (nat_lit 4)),(.ref (nat_lit 899)),(iz (nat_lit 645)),(iz (nat_lit 4)),(.ref (nat_lit 906)),(iz (nat_lit 648)),(iz (nat_lit 4)),(.ref (nat_lit 913)),(iz (nat_lit 651)),(iz (nat_lit 4)),(.ref (nat_lit 920)),(iz (nat_lit 654)),(iz (nat_lit 4)),(.ref (nat_lit 927)),(iz (nat_lit 657)),(iz (nat_lit 4)),(.ref (nat_lit 934)),(iz (nat_lit 660)),(iz (nat_lit 4)),(.ref (nat_lit 941)),(iz (nat_lit 663)),(iz (nat_lit 4)),(.ref (nat_lit 948))],ccd (nat_lit 1348) s!"World" (nat_lit 455) (nat_lit 701),frm (nat_lit 703) (nat_lit 700) bq,tp [.none,.none,(iv (nat_lit 20000) (nat_lit 1358))]]++(
 fnV (nat_lit 712) (nat_lit 1359) (nat_lit 457) bq [s!"name"]++(
 fnV (nat_lit 719) (nat_lit 1371) (nat_lit 477) bq []++(
 fnV (nat_lit 726) (nat_lit 1378) (nat_lit 480) bq []++(
 fnV (nat_lit 733) (nat_lit 1386) (nat_lit 483) bq []++(
 fnV (nat_lit 740) (nat_lit 1393) (nat_lit 487) bq []++(
 fnV (nat_lit 747) (nat_lit 1400) (nat_lit 491) bq [s!"sort"]++(
 fnV (nat_lit 754) (nat_lit 1409) (nat_lit 507) bq [s!"found"]++(
 fnN (nat_lit 759) (nat_lit 1418) (nat_lit 511) bq++(
 fnV (nat_lit 766) (nat_lit 1424) (nat_lit 524) bq []++(
 [tp [.none,.none,.none]]++(
 fnV (nat_lit 774) (nat_lit 1432) (nat_lit 528) bq [s!"owner",s!"stands",s!"found"]++(
 fnV (nat_lit 781) (nat_lit 1447) (nat_lit 537) bq []++(
 fnV (nat_lit 788) (nat_lit 1455) (nat_lit 546) bq []++(
 fnV (nat_lit 795) (nat_lit 1463) (nat_lit 549) bq []++(
 fnV (nat_lit 802) (nat_lit 1471) (nat_lit 552) bq []++(
 fnV (nat_lit 809) (nat_lit 1479) (nat_lit 557) bq []++(
 fnV (nat_lit 816) (nat_lit 1487) (nat_lit 562) bq []++(
 fnV (nat_lit 823) (nat_lit 1495) (nat_lit 565) bq []++(
 fnV (nat_lit 830) (nat_lit 1503) (nat_lit 568) bq [s!"found",s!"key",s!"value"]++(
 fnV (nat_lit 837) (nat_lit 1514) (nat_lit 574) bq [s!"found"]++(
 fnV (nat_lit 844) (nat_lit 1523) (nat_lit 581) bq [s!"is_odd",s!"found"]++(
 fnV (nat_lit 851) (nat_lit 1535) (nat_lit 590) bq [s!"owner"]++(
 fnV (nat_lit 858) (nat_lit 1552) (nat_lit 594) bq [s!"root",s!"number"]++(
 fnV (nat_lit 865) (nat_lit 1562) (nat_lit 620) bq []++(
 fnV (nat_lit 872) (nat_lit 1570) (nat_lit 627) bq []++(
 fnV (nat_lit 879) (nat_lit 1578) (nat_lit 630) bq []++(
 fnV (nat_lit 886) (nat_lit 1587) (nat_lit 633) bq []++(
 fnV (nat_lit 893) (nat_lit 1596) (nat_lit 636) bq [s!"name"]++(
 fnV (nat_lit 900) (nat_lit 1605) (nat_lit 641) bq []++(
 fnV (nat_lit 907) (nat_lit 1615) (nat_lit 645) bq []++(
 fnV (nat_lit 914) (nat_lit 1623) (nat_lit 648) bq []++(
 fnV (nat_lit 921) (nat_lit 1632) (nat_lit 651) bq []++(
 fnV (nat_lit 928) (nat_lit 1641) (nat_lit 654) bq []++(
 fnV (nat_lit 935) (nat_lit 1650) (nat_lit 657) bq []++(
 fnV (nat_lit 942) (nat_lit 1659) (nat_lit 660) bq []++(
 fnV (nat_lit 949) (nat_lit 1668) (nat_lit 663) bq []++(
 [tp [(.str s!"const_version" (nat_lit 1678)),(.str s!"globals" (nat_lit 1679)),(.str s!"is_ready" (nat_lit 1680)),(.str s!"last_ident" (nat_lit 1681)),(.str s!"last_number" (nat_lit 1682)),(.str s!"made" (nat_lit 1683)),(.str s!"main" (nat_lit 1684)),(.str s!"most" (nat_lit 1685)),(.str s!"natives" (nat_lit 1686)),(.str s!"out" (nat_lit 1687)),(.str s!"prelude" (nat_lit 1688)),(.str s!"read" (nat_lit 1689)),(.str s!"symbol_idents" (nat_lit 1690)),(.str s!"taken" (nat_lit 1691)),(.str s!"version" (nat_lit 1692))],ns1 P (nat_lit 4) (nat_lit 1353) bq (nat_lit 455) (pO P) [en P s!"__dict__" (nat_lit 1695) (.ref (nat_lit 953)),en P s!"__weakref__" (nat_lit 1697) (.ref (nat_lit 954)),en P s!"__doc__" (nat_lit 1698) .none],cl (nat_lit 952) s!"World" [(.type "object")] [(.ref (nat_lit 952)),(.type "object")] none (nat_lit 1346) (nat_lit 1354) (.builtin "object.__new__") [],gs [(.str s!"__dict__" (nat_lit 1694)),(.ref (nat_lit 952)),(.builtin "function.__dict__"),(.builtin "function.__dict__#set")],gs [(.str s!"__weakref__" (nat_lit 1696)),(.ref (nat_lit 952)),(.builtin "ExceptionGroup.__weakref__"),.none],sup (nat_lit 952),gX (nat_lit 952)]++(
 fnV (nat_lit 963) (nat_lit 1703) (nat_lit 666) jB [s!"whole_one",s!"cell"]++(
 fnV (nat_lit 970) (nat_lit 1712) (nat_lit 671) jB [s!"digit"]++(
 fnV (nat_lit 977) (nat_lit 1721) (nat_lit 678) jB [s!"sort",s!"more"]++(
 fnN (nat_lit 982) (nat_lit 1731) (nat_lit 693) jB++(
 fnN (nat_lit 987) (nat_lit 1737) (nat_lit 710) jB++(
 fnC (nat_lit 994) (nat_lit 1743) (nat_lit 744) jB [s!"world",s!"box",s!"note",s!"fields"] [s!"world",s!"more",s!"name",s!"value"]++(
 fnV (nat_lit 1001) (nat_lit 1757) (nat_lit 749) jB [s!"e"]++(
 fnV (nat_lit 1008) (nat_lit 1765) (nat_lit 755) jB [s!"value",s!"copy_one",s!"frozen"]++(
 fnV (nat_lit 1015) (nat_lit 1777) (nat_lit 764) jB [s!"spot",s!"way",s!"note",s!"told_one",s!"fresh",s!"spot_at",s!"deed_of",s!"behind"]++(
 fnN (nat_lit 1020) (nat_lit 1794) (nat_lit 788) jB))))))))))))))))))))))))))))))))))))))))))))))))))))))))))))))))))))))))))))))))))))))))))))))))))))))))))))))))))))))))))))))))))))))))))))
end
section
set_option maxRecDepth 1000000
set_option maxHeartbeats 0
set_option genInjectivity true
set_option genSizeOfSpec true
noncomputable abbrev pwN:Program:=PySem.Challenge.pw_nu0294_01
def fN:List Stmt:=behindTheImports pwN
noncomputable def jD:Env:={ scope:=pwN.main.scope,locals:=mainNs,globals:=mainNs,cells:=[],code:=.ref (nat_lit 13),frame:=some (nat_lit 14) }
noncomputable def p00:Pos:=⟨nat_lit 0,nat_lit 0,nat_lit 0,nat_lit 0⟩
noncomputable def odd:Nat->List Obj->List Obj
 |0,_=>[]
 |d+1,l=>match l with
  |[]=>[]
  |a::r=>a::(match r with|[]=>[]|_::q=>odd d q)
def mkT:Nat->List Obj->BT
 |0,_=>.nil
 |d+1,l=>match l with
  |[]=>.nil
  |o::r=>.node o (mkT d (odd (nat_lit 1100) r)) (mkT d (match r with|[]=>[]|_::q=>odd (nat_lit 1100) q))
def o3 (P:Params) (m:Nat) (nm:Value) (iw kw:Nat):Obj:=dc P m ((glE P nm (.ref iw) (.ref kw)).take m)
def S3 (P:Params) (os:OsState) (n tk m k12 n40 n524:Nat) (nm:Value) (iw kw:Nat):SharedT:=
 ⟨mkT (nat_lit 12) ((I1 P (o3 P m nm iw kw) (fd (c12.take (3*k12))) (Df (List.take n40 [.ref (nat_lit 62),.ref (nat_lit 82),.ref (nat_lit 120),.ref (nat_lit 140),.ref (nat_lit 161),.ref (nat_lit 181),.ref (nat_lit 201),.ref (nat_lit 228)])) (I0 (List.take n524 [.ref (nat_lit 544)]))).take n),n,{},⟨[]⟩,{},tk,os⟩
def thT (i j:Nat) (p:Pos):Thread:=⟨(PySem.W.Fast.tw12563942051412417395 ((fN.drop i).take j) jD).wrap doneF deadEnd id id,.body fN jD,p,[topFrame p00]⟩
def SG (w:World) (os:OsState) (i j N:Nat) (S S':SharedT) (p p':Pos):Prop:=
 PySem.W.Fast.tw10110043849684766642 PySem.W.Fast.tw14364793385576792824 pwN w (nat_lit 11) (some (.ref (nat_lit 6))) (nat_lit 1) N S (thT i j p)=some (.next,S',.body fN jD,p')
def s0 (P:Params) (os:OsState):SharedT:=S3 P os (nat_lit 15) (nat_lit 187) (nat_lit 9) (nat_lit 0) (nat_lit 0) (nat_lit 0) md0 (nat_lit 382) (nat_lit 553)
def s2 (P:Params) (os:OsState):SharedT:=S3 P os (nat_lit 22) (nat_lit 196) (nat_lit 10) (nat_lit 1) (nat_lit 0) (nat_lit 0) md1 (nat_lit 382) (nat_lit 553)
theorem sg0 (w:World)(os:OsState):SG w os (nat_lit 0) (nat_lit 2) (nat_lit 39) (s0 w.params os) (s2 w.params os) ⟨(nat_lit 0),(nat_lit 0),(nat_lit 0),(nat_lit 0)⟩ ⟨(nat_lit 4),(nat_lit 0),(nat_lit 4),(nat_lit 8)⟩:=by unfold SG;kernel_rfl
def s3 (P:Params) (os:OsState):SharedT:=S3 P os (nat_lit 23) (nat_lit 230) (nat_lit 11) (nat_lit 1) (nat_lit 0) (nat_lit 0) md1 (nat_lit 382) (nat_lit 553)
theorem I2 (w:World)(os:OsState):SG (w.withFollow "special-get-raises" false) os (nat_lit 2) (nat_lit 1) (nat_lit 176) (s2 (w.withFollow "special-get-raises" false).params os) (s3 (w.withFollow "special-get-raises" false).params os) ⟨(nat_lit 4),(nat_lit 0),(nat_lit 4),(nat_lit 8)⟩ ⟨(nat_lit 5),(nat_lit 0),(nat_lit 5),(nat_lit 14)⟩:=by unfold SG;kernel_rfl
theorem I3 (w:World)(os:OsState):SG (w.withFollow "special-get-raises" true) os (nat_lit 2) (nat_lit 1) (nat_lit 176) (s2 (w.withFollow "special-get-raises" true).params os) (s3 (w.withFollow "special-get-raises" true).params os) ⟨(nat_lit 4),(nat_lit 0),(nat_lit 4),(nat_lit 8)⟩ ⟨(nat_lit 5),(nat_lit 0),(nat_lit 5),(nat_lit 14)⟩:=by unfold SG;kernel_rfl
theorem sg2 (w:World)(os:OsState):SG w os (nat_lit 2) (nat_lit 1) (nat_lit 176) (s2 w.params os) (s3 w.params os) ⟨(nat_lit 4),(nat_lit 0),(nat_lit 4),(nat_lit 8)⟩ ⟨(nat_lit 5),(nat_lit 0),(nat_lit 5),(nat_lit 14)⟩:=byRow2 "special-get-raises" (P:=fun w=>SG w os (nat_lit 2) (nat_lit 1) (nat_lit 176) (s2 w.params os) (s3 w.params os) ⟨(nat_lit 4),(nat_lit 0),(nat_lit 4),(nat_lit 8)⟩ ⟨(nat_lit 5),(nat_lit 0),(nat_lit 5),(nat_lit 14)⟩) (fun w=>I2 w os) (fun w=>I3 w os) w
def s8 (P:Params) (os:OsState):SharedT:=S3 P os (nat_lit 85) (nat_lit 350) (nat_lit 16) (nat_lit 4) (nat_lit 2) (nat_lit 0) md1 (nat_lit 382) (nat_lit 553)
theorem sg3 (w:World)(os:OsState):SG w os (nat_lit 3) (nat_lit 5) (nat_lit 772) (s3 w.params os) (s8 w.params os) ⟨(nat_lit 5),(nat_lit 0),(nat_lit 5),(nat_lit 14)⟩ ⟨(nat_lit 22),(nat_lit 0),(nat_lit 26),(nat_lit 51)⟩:=by unfold SG;kernel_rfl
def s11 (P:Params) (os:OsState):SharedT:=S3 P os (nat_lit 164) (nat_lit 476) (nat_lit 19) (nat_lit 7) (nat_lit 5) (nat_lit 0) md1 (nat_lit 382) (nat_lit 553)
theorem sg8 (w:World)(os:OsState):SG w os (nat_lit 8) (nat_lit 3) (nat_lit 861) (s8 w.params os) (s11 w.params os) ⟨(nat_lit 22),(nat_lit 0),(nat_lit 26),(nat_lit 51)⟩ ⟨(nat_lit 54),(nat_lit 0),(nat_lit 66),(nat_lit 30)⟩:=by unfold SG;kernel_rfl
def s14 (P:Params) (os:OsState):SharedT:=S3 P os (nat_lit 231) (nat_lit 581) (nat_lit 22) (nat_lit 10) (nat_lit 8) (nat_lit 0) md1 (nat_lit 382) (nat_lit 553)
theorem I4 (w:World)(os:OsState):SG w os (nat_lit 11) (nat_lit 3) (nat_lit 793) (s11 w.params os) (s14 w.params os) ⟨(nat_lit 54),(nat_lit 0),(nat_lit 66),(nat_lit 30)⟩ ⟨(nat_lit 81),(nat_lit 0),(nat_lit 98),(nat_lit 40)⟩:=by unfold SG;kernel_rfl
def s39 (P:Params) (os:OsState):SharedT:=S3 P os (nat_lit 390) (nat_lit 795) (nat_lit 45) (nat_lit 30) (nat_lit 8) (nat_lit 0) md2 (nat_lit 382) (nat_lit 553)
theorem I5 (w:World)(os:OsState):SG w os (nat_lit 14) (nat_lit 25) (nat_lit 889) (s14 w.params os) (s39 w.params os) ⟨(nat_lit 81),(nat_lit 0),(nat_lit 98),(nat_lit 40)⟩ ⟨(nat_lit 246),(nat_lit 0),(nat_lit 250),(nat_lit 15)⟩:=by unfold SG;kernel_rfl
def s61 (P:Params) (os:OsState):SharedT:=S3 P os (nat_lit 528) (nat_lit 975) (nat_lit 64) (nat_lit 48) (nat_lit 8) (nat_lit 0) md5 (nat_lit 382) (nat_lit 450)
theorem I6 (w:World)(os:OsState):SG w os (nat_lit 39) (nat_lit 22) (nat_lit 775) (s39 w.params os) (s61 w.params os) ⟨(nat_lit 246),(nat_lit 0),(nat_lit 250),(nat_lit 15)⟩ ⟨(nat_lit 347),(nat_lit 0),(nat_lit 351),(nat_lit 28)⟩:=by unfold SG;kernel_rfl
def s87 (P:Params) (os:OsState):SharedT:=S3 P os (nat_lit 673) (nat_lit 1177) (nat_lit 84) (nat_lit 67) (nat_lit 8) (nat_lit 1) uY (nat_lit 382) (nat_lit 553)
theorem I7 (w:World)(os:OsState):SG w os (nat_lit 61) (nat_lit 26) (nat_lit 870) (s61 w.params os) (s87 w.params os) ⟨(nat_lit 347),(nat_lit 0),(nat_lit 351),(nat_lit 28)⟩ ⟨(nat_lit 439),(nat_lit 0),(nat_lit 442),(nat_lit 14)⟩:=by unfold SG;kernel_rfl
def s91 (P:Params) (os:OsState):SharedT:=S3 P os (nat_lit 686) (nat_lit 1200) (nat_lit 87) (nat_lit 69) (nat_lit 8) (nat_lit 1) bq (nat_lit 382) (nat_lit 553)
theorem I8 (w:World)(os:OsState):SG w os (nat_lit 87) (nat_lit 4) (nat_lit 82) (s87 w.params os) (s91 w.params os) ⟨(nat_lit 439),(nat_lit 0),(nat_lit 442),(nat_lit 14)⟩ ⟨(nat_lit 451),(nat_lit 0),(nat_lit 451),(nat_lit 7)⟩:=by unfold SG;kernel_rfl
def s92 (P:Params) (os:OsState):SharedT:=S3 P os (nat_lit 689) (nat_lit 1317) (nat_lit 88) (nat_lit 69) (nat_lit 8) (nat_lit 1) bq (nat_lit 382) (nat_lit 553)
theorem GZ (w:World)(os:OsState):SG (w.withFollow "special-get-raises" false) os (nat_lit 91) (nat_lit 1) (nat_lit 759) (s91 (w.withFollow "special-get-raises" false).params os) (s92 (w.withFollow "special-get-raises" false).params os) ⟨(nat_lit 451),(nat_lit 0),(nat_lit 451),(nat_lit 7)⟩ ⟨(nat_lit 452),(nat_lit 0),(nat_lit 452),(nat_lit 8)⟩:=by unfold SG;kernel_rfl
theorem G0 (w:World)(os:OsState):SG (w.withFollow "special-get-raises" true) os (nat_lit 91) (nat_lit 1) (nat_lit 759) (s91 (w.withFollow "special-get-raises" true).params os) (s92 (w.withFollow "special-get-raises" true).params os) ⟨(nat_lit 451),(nat_lit 0),(nat_lit 451),(nat_lit 7)⟩ ⟨(nat_lit 452),(nat_lit 0),(nat_lit 452),(nat_lit 8)⟩:=by unfold SG;kernel_rfl
theorem I9 (w:World)(os:OsState):SG w os (nat_lit 91) (nat_lit 1) (nat_lit 759) (s91 w.params os) (s92 w.params os) ⟨(nat_lit 451),(nat_lit 0),(nat_lit 451),(nat_lit 7)⟩ ⟨(nat_lit 452),(nat_lit 0),(nat_lit 452),(nat_lit 8)⟩:=byRow2 "special-get-raises" (P:=fun w=>SG w os (nat_lit 91) (nat_lit 1) (nat_lit 759) (s91 w.params os) (s92 w.params os) ⟨(nat_lit 451),(nat_lit 0),(nat_lit 451),(nat_lit 7)⟩ ⟨(nat_lit 452),(nat_lit 0),(nat_lit 452),(nat_lit 8)⟩) (fun w=>GZ w os) (fun w=>G0 w os) w
def s93 (P:Params) (os:OsState):SharedT:=S3 P os (nat_lit 697) (nat_lit 1339) (nat_lit 89) (nat_lit 69) (nat_lit 8) (nat_lit 1) bq (nat_lit 382) (nat_lit 553)
theorem G2 (w:World)(os:OsState):SG (w.withFollow "special-get-raises" false) os (nat_lit 92) (nat_lit 1) (nat_lit 130) (s92 (w.withFollow "special-get-raises" false).params os) (s93 (w.withFollow "special-get-raises" false).params os) ⟨(nat_lit 452),(nat_lit 0),(nat_lit 452),(nat_lit 8)⟩ ⟨(nat_lit 453),(nat_lit 0),(nat_lit 453),(nat_lit 5)⟩:=by unfold SG;kernel_rfl
theorem G3 (w:World)(os:OsState):SG (w.withFollow "special-get-raises" true) os (nat_lit 92) (nat_lit 1) (nat_lit 130) (s92 (w.withFollow "special-get-raises" true).params os) (s93 (w.withFollow "special-get-raises" true).params os) ⟨(nat_lit 452),(nat_lit 0),(nat_lit 452),(nat_lit 8)⟩ ⟨(nat_lit 453),(nat_lit 0),(nat_lit 453),(nat_lit 5)⟩:=by unfold SG;kernel_rfl
theorem Ja (w:World)(os:OsState):SG w os (nat_lit 92) (nat_lit 1) (nat_lit 130) (s92 w.params os) (s93 w.params os) ⟨(nat_lit 452),(nat_lit 0),(nat_lit 452),(nat_lit 8)⟩ ⟨(nat_lit 453),(nat_lit 0),(nat_lit 453),(nat_lit 5)⟩:=byRow2 "special-get-raises" (P:=fun w=>SG w os (nat_lit 92) (nat_lit 1) (nat_lit 130) (s92 w.params os) (s93 w.params os) ⟨(nat_lit 452),(nat_lit 0),(nat_lit 452),(nat_lit 8)⟩ ⟨(nat_lit 453),(nat_lit 0),(nat_lit 453),(nat_lit 5)⟩) (fun w=>G2 w os) (fun w=>G3 w os) w
def s94 (P:Params) (os:OsState):SharedT:=S3 P os (nat_lit 698) (nat_lit 1346) (nat_lit 90) (nat_lit 69) (nat_lit 8) (nat_lit 1) bq (nat_lit 382) (nat_lit 553)
theorem Jb (w:World)(os:OsState):SG w os (nat_lit 93) (nat_lit 1) (nat_lit 17) (s93 w.params os) (s94 w.params os) ⟨(nat_lit 453),(nat_lit 0),(nat_lit 453),(nat_lit 5)⟩ ⟨(nat_lit 454),(nat_lit 0),(nat_lit 454),(nat_lit 6)⟩:=by unfold SG;kernel_rfl
def s95 (P:Params) (os:OsState):SharedT:=S3 P os (nat_lit 957) (nat_lit 1701) (nat_lit 91) (nat_lit 70) (nat_lit 8) (nat_lit 1) bq (nat_lit 382) (nat_lit 553)
theorem Jc (w:World)(os:OsState):SG w os (nat_lit 94) (nat_lit 1) (nat_lit 1365) (s94 w.params os) (s95 w.params os) ⟨(nat_lit 454),(nat_lit 0),(nat_lit 454),(nat_lit 6)⟩ ⟨(nat_lit 455),(nat_lit 0),(nat_lit 664),(nat_lit 17)⟩:=by unfold SG;kernel_rfl
def nU (P:Params) (os:OsState):SharedT:=S3 P os (nat_lit 1021) (nat_lit 1800) (nat_lit 101) (nat_lit 80) (nat_lit 8) (nat_lit 1) jB (nat_lit 382) (nat_lit 553)
theorem Jd (w:World)(os:OsState):SG w os (nat_lit 95) (nat_lit 11) (nat_lit 321) (s95 w.params os) (nU w.params os) ⟨(nat_lit 455),(nat_lit 0),(nat_lit 664),(nat_lit 17)⟩ ⟨(nat_lit 788),(nat_lit 0),(nat_lit 803),(nat_lit 125)⟩:=by unfold SG;kernel_rfl
end
section
set_option maxRecDepth 1000000
set_option maxHeartbeats 0
set_option genInjectivity true
set_option genSizeOfSpec true
noncomputable abbrev rwN:OpenLaw:=PySem.Challenge.rw_nu0294_01
theorem G4:Fast.tw8377067652309620493 (Fast.tw2368527892694137696 rwN).prog=true:=by kernel_rfl
abbrev prN:=(Fast.tw2368527892694137696 rwN).prog
theorem Je {α:Type}(p:α->Bool){a b c:α}(ha:p a=false)(hb:p b=false)(hc:p c=false):R.filterR p [a,b,c]=[]:=by
 simp only[R.filterR,ha,hb,hc]
theorem G5:Fast.tw13343964577679436407 prN prN.main.body ⟨⟨[nat_lit 118,nat_lit 97,nat_lit 114,nat_lit 115]⟩⟩=false:=by kernel_rfl
theorem G6:Fast.tw13343964577679436407 prN prN.main.body ⟨⟨[nat_lit 100,nat_lit 105,nat_lit 114]⟩⟩=false:=by kernel_rfl
theorem G7:Fast.tw13343964577679436407 prN prN.main.body ⟨⟨[nat_lit 108,nat_lit 111,nat_lit 99,nat_lit 97,nat_lit 108,nat_lit 115]⟩⟩=false:=by kernel_rfl
theorem G8:Fast.tw8326940854005059898 { strict:=!R.allR (Fast.tw5923862056798008813 prN.main.body) (@Fast.tw3471404346716756564 Str (@instBEqOfDecidableEq Str Fast.sDec) Fast.tw17691160309236699985),foot:=none,bare:=R.filterR (Fast.tw13343964577679436407 prN prN.main.body) [⟨⟨[nat_lit 118,nat_lit 97,nat_lit 114,nat_lit 115]⟩⟩,⟨⟨[nat_lit 100,nat_lit 105,nat_lit 114]⟩⟩,⟨⟨[nat_lit 108,nat_lit 111,nat_lit 99,nat_lit 97,nat_lit 108,nat_lit 115]⟩⟩] } prN.main.body=true:=by
 rw[Je _ G5 G6 G7]
 kernel_rfl
theorem G9:Fast.tw17119622794617984870 (Fast.tw2368527892694137696 rwN).prog (Fast.tw2368527892694137696 rwN).prog.main.body (fun x n=>Fast.tw17868728402115742887 n)=true:=by kernel_rfl
theorem Dg:Fast.tw17119622794617984870 rwN.prog rwN.above (fun x n=>!@Fast.tw3471404346716756564 Str (@instBEqOfDecidableEq Str Fast.sDec) (Fast.tw10792542408131684335 rwN) n)=true:=by kernel_rfl
theorem Ha:PySem.W.Fast.tw9446332074065402090 rwN=true:=by
 unfold PySem.W.Fast.tw9446332074065402090 PySem.W.Fast.tw17960256430627541270 PySem.W.Fast.tw2436336058641802641 PySem.W.Fast.tw12908688711261696721
 with_reducible repeat' refine look_both ?_ ?_
 all_goals first|with_reducible exact G4|with_reducible exact G8|with_reducible exact G9|with_reducible exact Dg|kernel_rfl
theorem Jf:rwN.wellSaid=true:=(congrFun PySem.W.Fast.te9446332074065402090 rwN).trans Ha
end
section
set_option maxRecDepth 1000000
set_option maxHeartbeats 0
set_option genInjectivity true
set_option genSizeOfSpec true
noncomputable abbrev lC:Option Value:=some (.ref (nat_lit 6))
noncomputable abbrev Jg:Pos:=⟨nat_lit 788,nat_lit 0,nat_lit 803,nat_lit 125⟩
theorem Jh (w:World)(os:OsState):PySem.W.Fast.tw15667345088766844465 PySem.W.Fast.tw14364793385576792824 pwN w (nat_lit 11) lC (nat_lit 12) ⟨boot_heap w.params,⟨[]⟩,boot_drawn,boot_toks,os⟩ (topStub pwN) =
  some ((s0 w.params os).abs,⟨PySem.W.Fast.tw11892475500146522536 PySem.W.Fast.tw14364793385576792824 (.body fN jD),.body fN jD,p00,[topFrame p00]⟩):=by kernel_rfl
abbrev CT:Code:=.body fN jD
theorem SG.seg {w:World}{os:OsState}{i j N:Nat}{S S':SharedT}{p p':Pos}(h:SG w os i j N S S' p p') :
  segRun treeTable pwN w (nat_lit 11) lC (nat_lit 1) N S.abs (piecesOf ((fN.drop i).take j) jD CT p [topFrame p00])=some (.next,S'.abs,CT,p'):=by
 unfold SG thT at h;rw[<-PySem.W.Fast.te10110043849684766642,<-PySem.W.Fast.te14364793385576792824,<-PySem.W.Fast.te12563942051412417395]at h;exact segRun_of h
theorem SG.go {w:World}{os:OsState}{i j N M:Nat}{S S':SharedT}{p p':Pos}{r:Shared}(h:SG w os i j N S S' p p')(k:topRun treeTable pwN w (nat_lit 11) lC M S'.abs (restOf (fN.drop (i+j)) jD CT p' [topFrame p00])=some r) :
  topRun treeTable pwN w (nat_lit 11) lC (N+M) S.abs (restOf (fN.drop i) jD CT p [topFrame p00])=some r:=by
 rw[<-List.take_append_drop j (fN.drop i),List.drop_drop];exact piece_app h.seg k
theorem Ji (w:World)(os:OsState):PySem.W.Fast.tw14082659384304107361 PySem.W.Fast.tw14364793385576792824 pwN w (nat_lit 11) lC (nat_lit 2) (nU w.params os).abs ⟨doneF .next,CT,Jg,[topFrame p00]⟩=some (nU w.params os).abs:=by kernel_rfl
theorem Jj:fN.drop (nat_lit 106)=[]:=by kernel_rfl
theorem Dh (w:World)(os:OsState):segRun treeTable pwN w (nat_lit 11) lC (nat_lit 1) (nat_lit 1) (s0 w.params os).abs (blockOf fN jD CT p00 [topFrame p00])=some (.next,(s0 w.params os).abs,CT,p00):=by
 rw[PySem.W.Fast.te14374325043358763698]
 kernel_rfl
theorem Jk (w:World)(os:OsState):topRun treeTable pwN w (nat_lit 11) lC (12+(1+(39+(176+(772+(861+(793+(889+(775+(870+(82+(759+(130+(17+(1365+(321+2)))))))))))))))) ⟨boot_heap w.params,⟨[]⟩,boot_drawn,boot_toks,os⟩ (topStub pwN)=some (nU w.params os).abs:=by
 have e:=Jh w os;rw[<-PySem.W.Fast.te15667345088766844465,<-PySem.W.Fast.te14364793385576792824,<-PySem.W.Fast.te11892475500146522536]at e;have f:=Ji w os;rw[<-PySem.W.Fast.te14082659384304107361,<-PySem.W.Fast.te14364793385576792824]at f;refine go_top e (piece_block (Dh w os) ?_);show topRun treeTable pwN w (nat_lit 11) lC _ _ (restOf (fN.drop (nat_lit 0)) jD CT p00 [topFrame p00])=_;refine (sg0 w os).go ?_;refine (sg2 w os).go ?_;refine (sg3 w os).go ?_;refine (sg8 w os).go ?_;refine (I4 w os).go ?_;refine (I5 w os).go ?_;refine (I6 w os).go ?_;refine (I7 w os).go ?_;refine (I8 w os).go ?_;refine (I9 w os).go ?_;refine (Ja w os).go ?_;refine (Jb w os).go ?_;refine (Jc w os).go ?_;refine (Jd w os).go ?_;show topRun _ _ _ _ _ _ _ (restOf (fN.drop (nat_lit 106)) _ _ _ _)=_;rw[Jj];exact piece_nil f
end
section
set_option maxRecDepth 1000000
set_option maxHeartbeats 0
set_option genInjectivity true
set_option genSizeOfSpec true
def qN:Program:={ pwN with main:={ pwN.main with body:=fN.drop (nat_lit 105) } }
noncomputable def qQ:List Str:=(tD.take (nat_lit 91)).map (·.1)
noncomputable abbrev XtN:Shared->Bool:=fun zz=>true
abbrev sN (w:World) (os:OsState):Shared:=(nU w.params os).abs
def HN (P:Params):Heap:=(nU P default).abs.heap
theorem Hb (w:World)(os:OsState):PySem.W.Fast.tw4187177175401517315 qN qQ (PySem.W.Fast.tw5923862056798008813 pwN.main.body) XtN true (sN w os)=openGood qN qQ:=by kernel_rfl
theorem Hc (w:World)(os:OsState):(staticsOk (PySem.W.Fast.tw5923862056798008813 pwN.main.body) (boot_heap w.params) (sN w os).heap&&namesBound pwN (sN w os).heap&&gensDone (sN w os)&&laidKept (boot_heap w.params) (sN w os).heap)=true:=by kernel_rfl
theorem Hd (w:World):((boot_heap w.params).isNs mainGlobals&&(⟨[]⟩:Array GenState).size==0,(boot_heap w.params).objs.size,(boot_heap w.params).nsMap mainGlobals "__annotations__")=(true,(nat_lit 11),lC):=by kernel_rfl
theorem He:∀w:World,(fencedOpening treeTable pwN w 20000).map (fun s=>(s.heap,s.gens,s.drawn,s.toks))=some (boot_heap w.params,⟨[]⟩,boot_drawn,boot_toks):=
 boot_open (by kernel_rfl) (by kernel_rfl) (fun s=>by kernel_rfl)
end
section
set_option maxRecDepth 1000000
set_option maxHeartbeats 0
set_option genInjectivity true
set_option genSizeOfSpec true
theorem Hf:LeftO pwN qN qQ XtN (fun s=>s.heap) (fun w=>HN w.params) 20000:=
 LeftO.of_pieces (H₁:=HN) (d₁:={}) (k₁:=nat_lit 1800) (gs₁:=⟨[]⟩) He Hd Jk (by kernel_rfl) fun w=>funext fun os=>by
  refine Prod.ext ?_ (Prod.ext ?_ rfl)
  ·have h:=Hc w os;rw[<-PySem.W.Fast.te5923862056798008813]at h;exact h
  ·have h:=Hb w os;rw[<-PySem.W.Fast.te4187177175401517315,<-PySem.W.Fast.te5923862056798008813]at h;exact h
def lD:DefRec×List (Str×Expr):=match defOf qN rwN.name with|some d=>d|none=>(⟨⟨⟨[]⟩⟩,⟨[],[],none,[],[],none,[]⟩,[],⟨.function,[],false,false,[]⟩,p00⟩,[])
theorem Hg:defOf qN rwN.row.name=some lD:=by kernel_rfl
theorem Jl:rwN.row.prog.theDef rwN.row.name=some (lD.1.params,lD.1.body,lD.1.scope):=by
 rw[PySem.W.Fast.te10235530238920679567]
 kernel_rfl
theorem Jm:TablesWhole.wSs TablesWhole.gather rwN.row.prog.main.scope ⟨rwN.row.prog.main.scope,[],[],[],none⟩ rwN.row.prog.main.scope rwN.row.prog.main.body=[]:=by kernel_rfl
theorem Jn:TablesWhole.wSs TablesWhole.holds rwN.row.prog.main.scope ⟨rwN.row.prog.main.scope,[],[],[],none⟩ rwN.row.prog.main.scope rwN.row.prog.main.body=true:=by kernel_rfl
theorem Jo {m:Module}(h:TablesWhole.noTwice m.scope=true)(h0:TablesWhole.wSs TablesWhole.gather m.scope ⟨m.scope,[],[],[],none⟩ m.scope m.body=[])(h1:TablesWhole.wSs TablesWhole.holds m.scope ⟨m.scope,[],[],[],none⟩ m.scope m.body=true):TablesWhole.wModule TablesWhole.holds m=true:=by
 unfold TablesWhole.wModule;rw[h0];simp only[TablesWhole.Alg.all,List.foldr,TablesWhole.holds]at h1 ⊢;rw[h,h1];rfl
theorem Jp {p:Program}(h:TablesWhole.wModule TablesWhole.holds p.main=true)(h1:p.modules=[])(h2:p.parses=[])(h3:p.harvested=[]):p.tablesWhole=true:=by
 unfold Program.tablesWhole TablesWhole.wProgram;rw[h,h1,h2,h3];rfl
theorem Jq:rwN.row.prog.tablesWhole=true:=Jp (Jo (by kernel_rfl) Jm Jn) rfl rfl rfl
theorem Di {YP:World->Heap->Prop}(hY:∀w,YP w (HN w.params))(hYk:∀w h h',YP w h->(∀b o,h.get? b=some o->h'.get? b=some o)->YP w h')
  (call:WalkO qN qQ (fun zz zz=>True) YP rwN.row.toRowW lD.1 lD.2 fun f vs=>PySem.call f vs):rwN.Holds:=
 holds_law Jf fun said'=>holds_open (q:=qN) (loose:=qQ) (Xt:=XtN) (XP:=fun zz zz=>True) (Yf:=fun s=>s.heap) (Ya:=fun w=>HN w.params) (YP:=YP) (N:=20000) Hf (fun w s e=>(show s.heap=HN w.params from e)▸hY w) hYk (fun zz zz=>trivial) (fun zz zz zz zz zz=>trivial)
  Hg Jl (by kernel_rfl) (fun s zz=>recFacts_of (by kernel_rfl)) (by kernel_rfl) said' (by kernel_rfl) ⟨rfl,rfl,rfl,rfl,rfl,Jq⟩ ⟨[.list []],by decide +kernel,by decide +kernel⟩ call
end
section
set_option maxRecDepth 1000000
set_option maxHeartbeats 0
set_option genInjectivity true
set_option genSizeOfSpec true
def u5 (a:AV) (v:Value):Bool:=match a with
 |.non=>(match v with|.none=>true|_=>false)
 |.boo b=>(match v with|.bool c=>b==c|_=>false)
 |.int i=>(match v with|.int j _=>decide (i=j)|_=>false)
 |.str l=>(match v with|.str s _=>Fast.lEq l s.cps.toList|_=>false)
 |.st x=>(match v with|.ref y=>Nat.beq x y|_=>false)
 |.bi n=>(match v with|.builtin s=>s==bnm n|_=>false)
 |.ty n=>(match v with|.type s=>s==tnm n|_=>false)
 |_=>false
set_option tactic.hygienic true in
theorem iQ {V:Vl}{a:AV}{v:Value}(h:u5 a v=true):Den V a v:=by
 induction a using aA<;>first|exact ak h|skip
 all_goals (induction v using Value.casesOn<;>first|exact ak h|skip)
 case non.none=>rfl
 case boo.bool=>exact congrArg Value.bool (beq_iff_eq.mp h).symm
 case int.int=>exact ⟨_,by rw[of_decide_eq_true h]⟩
 case str.str l s t=>
  obtain ⟨⟨x⟩⟩:=s;exact ⟨t,by rw[show l=x from Fast.lEq_iff.mp h]⟩
 case st.ref=>exact congrArg Value.ref (aK h).symm
 case bi.builtin=>exact congrArg Value.builtin (beq_iff_eq.mp h)
 case ty.type=>exact congrArg Value.type (beq_iff_eq.mp h)
def pP:List AV->List Value->Bool
 |[],l=>l.isEmpty
 |a::r,l=>match l with
  |v::s=>u5 a v&&pP r s
  |[]=>false
theorem gD {V:Vl}:∀{a:List AV} {v:List Value},pP a v=true->Dens V a v
 |[],[]=>fun zz=>trivial
 |[],_::_=>fun h=>ak h
 |_::_,[]=>fun h=>ak h
 |_::_,_::_=>fun h=>let ⟨h1,h2⟩:=cL h;⟨iQ h1,gD h2⟩
section
variable (K:Frag)
noncomputable def Dj (C:Addr):Bool:=plainGet K C ⟨#[]⟩&&(hasDictIn K C&&(plainOver K C&&(findIn K (.ref C) "__setattr__" == some (some (.builtin "object.__setattr__")))))
noncomputable def Dm (C:Addr)(x:Str):Bool:=(findIn K (.ref C) x).any (noGet K)&&takerIn K C x==some none
noncomputable def qR (C:Addr)(x:Str)(f:Addr):Bool:=findIn K (.ref C) x==some (some (.ref f))&&(isFn K (.ref f)&&keepIn K (.ref f))
def Hh (p:Nat×CI):Bool:=Dj K p.1&&(p.2.fl.all (Dm K p.1)&&(p.2.ini.all (fun f=>qR K p.1 "__init__" f&&(makesIn K p.1&&keepIn K (.ref p.1)))&&p.2.ms.all fun q=>!fJ p.2.fl q.1&&qR K p.1 q.1 q.2))
variable {K}
theorem Do {C:Addr}{x:Str}(h:Dj K C=true)(g:Dm K C x=true):ya K C x:=by
 have h1:=an1 h;have h:=an2 h;have h2:=an1 h;have h:=an2 h;have h3:=an1 h;have h4:=an2 h;have g1:=an1 g;have g2:=an2 g;refine aj (any_some g1) fun a a1 a2=>?_;exact ⟨h1,h2,⟨a,a1,a2⟩,beq_iff_eq.mp g2,h3,beq_iff_eq.mp h4⟩
theorem nV {C:Addr}{x:Str}{f:Addr}(h:qR K C x f=true):findIn K (.ref C) x=some (some (.ref f))/\isFn K (.ref f)=true/\keepIn K (.ref f)=true:=by
 have h1:=an1 h;have h:=an2 h;have h2:=an1 h;have h3:=an2 h;exact ⟨beq_iff_eq.mp h1,h2,h3⟩
theorem nW {p:Nat×CI}(h:Hh K p=true):Dj K p.1=true/\(∀x∈p.2.fl,Dm K p.1 x=true)/\(∀f,p.2.ini=some f->qR K p.1 "__init__" f=true/\makesIn K p.1=true/\keepIn K (.ref p.1)=true)/\∀q∈p.2.ms,q.1 ∉ p.2.fl/\qR K p.1 q.1 q.2=true:=by
 have h1:=an1 h;have h:=an2 h;have h2:=an1 h;have h:=an2 h;have h3:=an1 h;have h4:=an2 h;refine ⟨h1,fun x m=>aD h2 m,fun f e=>?_,fun q m=>?_⟩
 ·rw[e]at h3;have a:=an1 h3;have b:=an2 h3;exact ⟨a,cL b⟩
 ·have a:=an1 ((aD h4 m));have b:=an2 ((aD h4 m));refine ⟨fun i=>?_,b⟩;rw[ku i]at a;exact ak a
end
end
section
set_option maxRecDepth 1000000
set_option maxHeartbeats 0
set_option genInjectivity true
set_option genSizeOfSpec true
noncomputable def kA:List Nat:=[nat_lit 40,nat_lit 62,nat_lit 82,nat_lit 120,nat_lit 140,nat_lit 161,nat_lit 181,nat_lit 201,nat_lit 228,nat_lit 256,nat_lit 524,nat_lit 544,nat_lit 952,nat_lit 39,nat_lit 61,nat_lit 81,nat_lit 119,nat_lit 139,nat_lit 160,nat_lit 180,nat_lit 200,nat_lit 227,nat_lit 255,nat_lit 523,nat_lit 543,nat_lit 951,nat_lit 3,nat_lit 2,
 nat_lit 52,nat_lit 72,nat_lit 130,nat_lit 151,nat_lit 171,nat_lit 191,nat_lit 211,nat_lit 238,nat_lit 246,nat_lit 282,nat_lit 361,nat_lit 514,nat_lit 705,nat_lit 767]++(qu.map (·.1)++(tE.map (·.1)++(jJ.map (·.1)++jJ.map fun p=>Nat.pred p.1)))
def trN (P:Params):BT:=(nU P default).tree
def KN (P:Params):Frag:=kA.map fun a=>(a,((trN P).get a).getD default)
theorem yV (P:Params):kA.all (fun a=>Nat.blt a (nat_lit 1021)&&((trN P).get a).any fun o=>(alive o).isSome)=true:=by kernel_rfl
theorem fR {f:Nat->Obj}{a:Nat}{o:Obj}:∀{l:List Nat},(l.map fun a=>(a,f a)).lookup a=some o->a∈l/\f a=o
 |[]=>fun h=>nomatch h
 |b::r=>fun h=>by
  rw[List.map_cons,List.lookup_cons]at h;by_cases q:a=b
  ·subst q;rw[beq_self_eq_true]at h;exact ⟨.head _,soo h⟩
  ·rw[beq_eq_false_iff_ne.mpr q]at h;exact let ⟨x,y⟩:=fR h;⟨.tail _ x,y⟩
theorem u6 {o:Obj}(h:(alive o).isSome=true):alive o=some o:=by
 obtain ⟨c,d,dt,sl⟩:=o
 induction dt using Data.casesOn<;>first|exact ak h|rfl
theorem Hi {P:Params}{a:Addr}{o:Obj}(e:(KN P).lookup a=some o):(HN P).get? a=some o:=by
 refine ay (fR e) fun m e=>?_;have h1:=an1 ((aD (yV P) m));have h2:=an2 ((aD (yV P) m));refine aj (any_some h2) fun o' h3 h4=>?_;rw[h3]at e;obtain rfl:o'=o:=e;show (absHeap (trN P) (nat_lit 1021) {}).get? a=_;rw[abs_get (Nat.le_of_ble_eq_true h1) h3,u6 h4]
theorem u8 {P:Params}{h:Heap}(k:∀b o,(HN P).get? b=some o->h.get? b=some o):(KN P).In h:=fun a o e=>k a o (Hi e)
theorem Dp (P:Params):EZ.all (Hh (KN P))=true:=by kernel_rfl
end
section
set_option maxRecDepth 1000000
set_option maxHeartbeats 0
set_option genInjectivity true
set_option genSizeOfSpec true
def Hj (K:Frag) (a:Addr):Value:=match K.lookup a with
 |some ⟨_,_,.func fd,_⟩=>fd.defaults
 |_=>.none
def Jr (K:Frag) (a:Addr):Value:=match K.lookup a with
 |some ⟨_,_,.func fd,_⟩=>fd.pyModule
 |_=>.none
def pQ (K:Frag) (a:Addr):List Value:=match Hj K a with
 |.ref t=>(match K.lookup t with|some ⟨_,_,.seq xs _,_⟩=>xs.toList|_=>[])
 |_=>[]
def fdO (K:Frag) (a:Addr) (fi:FI):FuncData:=fnOf fi.name fi.qual fi.params fi.body fi.scope (Hj K a) .none .none (Jr K a) none (.ref (Nat.pred a)) .none
theorem Dq (P:Params):jJ.map (fun p=>(KN P).lookup p.1)=jJ.map fun p=>some ⟨.type "function",none,.func (fdO (KN P) p.1 p.2),⟨[]⟩⟩:=by kernel_rfl
theorem Dr (P:Params)(S:Setting)(f:Nat->Value):jJ.map (fun p=>(List.range (p.2.df.length+1)).map fun k=>peek (KN P) S (bindArgs (fdO (KN P) p.1 p.2) ⟨(List.range (p.2.ps.length - k)).map f,[]⟩)) =
  jJ.map fun p=>(List.range (p.2.df.length+1)).map fun k=>some (p.2.ps.zip ((List.range (p.2.ps.length - k)).map f++(pQ (KN P) p.1).drop (p.2.df.length - k))):=by kernel_rfl
noncomputable def Js (fi:FI):Bool:=fi.ps.all (fun x=>fi.scope.names.lookup x==some .local||(fi.scope.names.lookup x==some .cell&&((cellsFrom 0 fi.scope.names []).lookup x).isSome))&&(decide ((cellsFrom 0 fi.scope.names []).map (·.1)).Nodup&&(cellsFrom 0 fi.scope.names []).all fun p=>fi.scope.names.lookup p.1==some .cell)
def fnB (K:Frag) (p:Nat×FI):Bool:=codeIn K (.ref (Nat.pred p.1)) p.2.qual&&(keepIn K (.ref p.1)&&(isFn K (.ref p.1)&&(!p.2.scope.isCoroutine&&(!p.2.scope.isGenerator&&(p.2.scope.kind==.function&&(pP p.2.df (pQ K p.1)&&Js p.2))))))
theorem Hk (P:Params):jJ.all (fnB (KN P))=true:=by kernel_rfl
theorem qS {α:Type}(d:α):∀l:List α,(List.range l.length).map (fun i=>l.getD i d)=l:=fun l=>by
 refine List.ext_getElem (by rw[List.length_map,List.length_range]) fun i h1 h2=>?_;rw[List.getElem_map,List.getElem_range,List.getD_eq_getElem?_getD,List.getElem?_eq_getElem h2];rfl
theorem Hl (P:Params){a:Addr}{fi:FI}(h:aa jJ a=some fi):FnOk (KN P) a fi:=by
 have m:=aO h;have b1:=an1 ((aD (Hk P) m));have b:=an2 ((aD (Hk P) m));have b2:=an1 b;have b:=an2 b;have b3:=an1 b;have b:=an2 b;have b4:=an1 b;have b:=an2 b;have b5:=an1 b;have b:=an2 b;have b6:=an1 b;have b:=an2 b;have b7:=an1 b;have b8:=an2 b;have c1:=an1 b8;have c:=an2 b8;have c2:=an1 c;have c3:=an2 c;have hl:(pQ (KN P) a).length=fi.df.length:=(gD (V:=⟨fun zz=>none,fun zz=>none,fun zz=>0,fun zz=>none⟩) b7).length;refine ⟨⟨_,_,_,_,_,_,_,_,_,_,pQ (KN P) a,aq (Dq P) _ m,b1,fun V=>gD b7,fun s us X h1 h2=>kp_binds X fun S=>?_⟩,b2,b3,by simpa using b4,by simpa using b5,by simpa using b6,fun x hx=>?_,of_decide_eq_true c2,fun x i e=>?_⟩
 ·have q:=aq (aq (Dr P S fun i=>us.getD i .none) _ m) (fi.ps.length - us.length) (eo (Nat.lt_succ_of_le (Nat.sub_le_iff_le_add'.mpr (hl▸h2))));dsimp only at q;rw[Nat.sub_sub_self h1,qS]at q;rw[hl,Nat.add_comm,<-Nat.sub_sub_right _ h1];exact q
 ·have q:=aD c1 hx;simpa using q
 ·exact by simpa using aD c3 (mem_of_lookup e)
end
section
set_option maxRecDepth 1000000
set_option maxHeartbeats 0
set_option genInjectivity true
set_option genSizeOfSpec true
def Hm (K:Frag) (p:Str×AV):Bool:=!(p.1==("__debug__" : Str))&&match nsIn K mainGlobals p.1 with
 |some (some u)=>u5 p.2 u
 |some none=>!(p.1==("__name__" : Str))&&(bootBuiltins p.1).any (u5 p.2)
 |none=>false
theorem yW (P:Params):tD.all (Hm (KN P))=true:=by kernel_rfl
noncomputable def Jt (K:Frag)(C:Addr)(q:Str×Addr):Bool:=specialIn K (.ref C) "__getattribute__" == some (some (.builtin "type.__getattribute__"))&&(((typeIn K (.ref C)).any fun mc=>readsIn K C mc&&match findCls K (.ref C) mc q.1 with|some (.val v)=>v==.ref q.2|_=>false)&&keepIn K (.ref q.2))
theorem Hn (P:Params):E0.all (fun p=>p.2.all (Jt (KN P) p.1))=true:=by kernel_rfl
def Ju (K:Frag) (p:Nat×(Addr×List Str)):Bool:=jF K p.1&&(jH K p.1&&(vw K p.1&&(qR K p.1 "__init__" p.2.1&&(keepIn K (.ref p.1)&&p.2.2.all fun x=>takerIn K p.1 x==some none&&findIn K (.ref p.1) x==some none))))
theorem Ho (P:Params):E5.all (Ju (KN P))=true:=by kernel_rfl
noncomputable def Ds (K:Frag)(D:Addr):Bool:=plainGet K D ⟨#[]⟩&&(hasDictIn K D&&(findIn K (.ref D) "__class__" == some (some (.builtin "object.__class__"))&&(specialIn K (.builtin "object.__class__") "__get__" == some (some (.builtin "getset_descriptor.__get__"))&&(takesIn K (.builtin "object.__class__")==some true&&mroIn K D (.type "object")==some true))))
def Dt (K:Frag) (t:Nat) (q:Nat×Bool):Bool:=match Nat.blt q.1 1000 with
 |true=>kitOne K (hF t) (.type (tnm q.1))==some q.2
 |false=>kitOne K (hF t) (.ref (q.1 - 1000))==some q.2
theorem Du (P:Params):E6.all (fun p=>p.2.all (Dt (KN P) p.1)&&(Nat.blt p.1 1000||Ds (KN P) (p.1 - 1000)))=true:=by kernel_rfl
noncomputable def Hp (K:Frag)(a:Addr):List DictEntry:=match K.lookup a with
 |some ⟨_,_,.dict es _,_⟩=>es.toList
 |_=>[]
noncomputable def Jv (K:Frag)(a:Addr):Nat:=match K.lookup a with
 |some ⟨_,_,.dict _ n,_⟩=>n
 |_=>0
noncomputable def Hq (K:Frag)(a:Addr):List Value:=match K.lookup a with
 |some ⟨_,_,.seq es _,_⟩=>es.toList
 |_=>[]
noncomputable def reE (P:Params)(e:DictEntry):DictEntry:=match e.key with
 |.str x t=>⟨PyData.keyHash P x,.str x t,e.val⟩
 |_=>e
def zsB:List (Str×AV)->List DictEntry->Bool
 |[],l=>l.isEmpty
 |a::r,l=>match l with
  |e::s=>(match e.key with|.str x _=>sq a.1 x|_=>false)&&(u5 a.2 e.val&&zsB r s)
  |[]=>false
theorem Jw (P:Params):qu.map (fun p=>(KN P).lookup p.1)=qu.map fun p=>some ⟨.type "dict",none,.dict ⟨(Hp (KN P) p.1).map (reE P)⟩ (Jv (KN P) p.1),⟨[]⟩⟩:=by kernel_rfl
theorem Hr (P:Params):qu.all (fun p=>zsB p.2 (Hp (KN P) p.1)&&(!(p.1==sysModules)&&decide (p.2.map (·.1)).Nodup))=true:=by kernel_rfl
theorem Jx (P:Params):tE.map (fun p=>(KN P).lookup p.1)=tE.map fun p=>some { cls:=.type "tuple",data:=.seq ⟨Hq (KN P) p.1⟩ 0 }:=by kernel_rfl
theorem Jy (P:Params):tE.all (fun p=>pP p.2 (Hq (KN P) p.1))=true:=by kernel_rfl
theorem Hs (P:Params):(KN P).lookup (nat_lit 986)=some (cod (nat_lit 1737) (fiA (nat_lit 987)).name (fiA (nat_lit 987)).qual (nat_lit 710) (fiA (nat_lit 987)).ps.length (nat_lit 3) true (nat_lit 983) .none .none (.ref (nat_lit 985)) (nat_lit 1740)):=by kernel_rfl
theorem Ht (P:Params):(KN P).lookup (nat_lit 993)=some (cod (nat_lit 1743) (fiA (nat_lit 994)).name (fiA (nat_lit 994)).qual (nat_lit 744) (fiA (nat_lit 994)).ps.length (nat_lit 3) true (nat_lit 988) (.ref (nat_lit 990)) (.ref (nat_lit 991)) (.ref (nat_lit 992)) (nat_lit 1754)):=by kernel_rfl
end
section
set_option maxRecDepth 1000000
set_option maxHeartbeats 0
set_option genInjectivity true
set_option genSizeOfSpec true
set_option tactic.hygienic true in
theorem xV {K:Frag}{w:World}{es:List DictEntry}:∀{kvs:List (Str×AV)},zsB kvs es=true->∃us:List (Str×Value),us.map (·.1)=kvs.map (·.1)/\(∀prog,KeysOf (strKind prog w) ⟨es.map (reE w.params)⟩/\Pairs (strKind prog w) (es.map (reE w.params)) us)/\∀V,Zs V kvs us:=by
 induction es with
 |nil=>
  intro kvs h
  induction kvs using aV with
  |nil=>exact ⟨[],rfl,fun prog=>⟨fun e m=>absurd m (by simp),.nil⟩,fun V=>trivial⟩
  |cons=>exact ak h
 |cons e r ih=>
  intro kvs h
  induction kvs using aV with
  |nil=>exact ak h
  |cons a q=>
   have h1:=an1 h;have h2:=an2 h;have h3:=an2 h2;have h2:=an1 h2;refine cq (ih h3) fun us u1 u2 u3=>?_;obtain ⟨hh,ky,vl⟩:=e
   induction ky using Value.casesOn<;>first|exact ak h1|skip
   rename_i x t _;obtain rfl:=bh.mp h1;refine ⟨(a.1,vl)::us,by rw[List.map_cons,List.map_cons,u1],fun prog=>⟨fun e m=>?_,.cons (strKind_is prog w _ t) rfl (u2 prog).2⟩,fun V=>⟨rfl,iQ h2,u3 V⟩⟩;have m:=Array.mem_def.mp m;cases m with
   |head=>exact ⟨a.1,strKind_is prog w _ t,rfl⟩
   |tail _ m=>exact (u2 prog).1 e (Array.mem_def.mpr m)
theorem u9 {h:Heap}{cc t ln ac fl a te:Nat}{nm qn:Str}{nw:Bool}{v c f:Value}(e:h.get? cc=some (cod t nm qn ln ac fl nw a v c f te))(ne:cc≠a+1):CodeHd h cc (a+1):=
 ⟨cod t nm qn ln ac fl nw a v c f te,#[.str nm t,.str qn (t+1),.str pL (t+2),iz ln,iz ac,iz 0,iz 0,iz fl,.ref a,.bool nw,iz 181,.ref (a+1),.none,v,c,f,iz te,iz ln,.str pL (te+1)],_,_,_,_,_,_,_,e,rfl,rfl,rfl,rfl,rfl,rfl,rfl,rfl,ne⟩
set_option tactic.hygienic true in
theorem yX (w:World)(pi:World->Vl->OpP->List (Addr×Obj)->Prop):dB w (KN w.params) (tbP pi) where
 fld C x hx:=by
  unfold Tb.fld at hx;generalize h:(aa (tbP pi).cls C)=x';induction x' using aF with
  |none=>rw[h]at hx;exact absurd hx bI
  |some c=>
   rw[h]at hx;have q:=nW (aD (Dp w.params) (aO h));exact Do q.1 (q.2.1 x hx)
 glob x v h:=by
  have h1:=an1 ((aD (yW w.params) (aU h)));have h2:=an2 ((aD (yW w.params) (aU h)));refine ⟨by simpa using h1,?_⟩;dsimp only at h2;generalize hn:(nsIn (KN w.params) mainGlobals x)=x';induction x' using aF with
  |none=>rw[hn]at h2;exact ak h2
  |some o=>
   rw[hn]at h2
   induction o using aF with
   |some u=>exact ⟨u,fun V=>iQ h2,.inl rfl⟩
   |none=>
    have h3:=an1 h2;have h4:=an2 h2;refine aj (any_some h4) fun u h5 h6=>?_;exact ⟨u,fun V=>iQ h6,.inr ⟨rfl,h5,by simpa using h3⟩⟩
 ini C c fI h e:=by
  refine mU (nW (aD (Dp w.params) (aO h))) fun zy zy h3 zy=>?_;refine bU (h3 fI e) fun h4 h5 h6=>?_;refine bU (nV h4) fun h7 h8 zy=>?_;exact ⟨h5,h7,h8,h6⟩
 ms C c x fI h e:=by
  refine mU (nW (aD (Dp w.params) (aO h))) fun h1 zy zy h4=>?_;refine ay (h4 _ (aU e)) fun h5 h6=>?_;refine bU (nV h6) fun h7 h8 h9=>?_;exact ⟨h5,(cL h1).1,h7,h8,h9⟩
 fn a fi h:=Hl w.params h
 sat C l x fI h e:=by
  have h1:=an1 ((aD (aD (Hn w.params) (aO h)) (aU e)));have h2:=an2 ((aD (aD (Hn w.params) (aO h)) (aU e)));have h3:=an2 h2;have h2:=an1 h2;refine aj (any_some h2) fun mc h4 h5=>?_;have h6:=an2 h5;have h5:=an1 h5;refine ⟨beq_iff_eq.mp h1,⟨mc,h4,h5,?_⟩,h3⟩;dsimp only at h6
  split at h6
  ·rename_i v hv;rw[hv,beq_iff_eq.mp h6]
  ·exact ak h6
 lam g t P q h:=by
  have m:=aO h;rcases m with _|⟨_,_|⟨_,m⟩⟩
  ·exact ⟨_,_,_,_,nat_lit 986,aq (Dq w.params) (nat_lit 987,fiA (nat_lit 987)) (aO (by kernel_rfl)),rfl,by kernel_rfl,fun h X=>u9 (X _ _ (Hs w.params)) (by decide)⟩
  ·exact ⟨_,_,_,_,nat_lit 993,aq (Dq w.params) (nat_lit 994,fiA (nat_lit 994)) (aO (by kernel_rfl)),rfl,by kernel_rfl,fun h X=>u9 (X _ _ (Ht w.params)) (by decide)⟩
  ·exact nomatch m
 exs:=⟨fun C fI l h=>by
  have h1:=an1 ((aD (Ho w.params) (aO h)));have h2:=an2 ((aD (Ho w.params) (aO h)));have h3:=an2 h2;have h2:=an1 h2;have h4:=an2 h3;have h3:=an1 h3;have h5:=an2 h4;have h4:=an1 h4;have h6:=an2 h5;have h5:=an1 h5;refine bU (nV h4) fun h7 h8 zy=>?_;exact ⟨h1,h2,h3,h7,h8,h5,fun x m=>let ⟨a,b⟩:=cL (aD h6 m);⟨beq_iff_eq.mp a,beq_iff_eq.mp b⟩⟩⟩
 dcs a kvs h:=by
  have m:=aO h;have h1:=an1 ((aD (Hr w.params) m));have h2:=an2 ((aD (Hr w.params) m));have h3:=an2 h2;have h2:=an1 h2;refine cq (xV (K:=KN w.params) (w:=w) h1) fun us u1 u2 u3=>?_;exact ⟨by simpa using h2,_,us,aq (Jw w.params) _ m,fun prog=>⟨_,_,⟨rfl,rfl,rfl⟩,rfl,(u2 prog).1,(u2 prog).2,u1▸of_decide_eq_true h3⟩,u3⟩
 ti:={
  ty:=fun t l n b h e hn=>by
   have q:=aD (cL (aD (Du w.params) (aO h))).1 (aO e);unfold Dt at q;rw[show Nat.blt n 1000=true from Nat.ble_eq_true_of_le hn]at q;exact beq_iff_eq.mp q
  cl:=fun t l n b h e=>by
   have q:=aD (cL (aD (Du w.params) (aO h))).1 (aO e);unfold Dt at q;have:Nat.blt (n+1000) 1000=false:=by
    generalize h:(Nat.blt (n+1000) 1000)=x';induction x' using aH with
    |false=>rfl
    |true=>have:=az h;omega
   rw[this]at q;have q:=beq_iff_eq.mp q;rwa [Nat.add_sub_cancel]at q
  own:=fun D l h=>by
   have q:=(cL (aD (Du w.params) (aO h))).2;have:Nat.blt (D+1000) 1000=false:=by
    generalize h:(Nat.blt (D+1000) 1000)=x';induction x' using aH with
    |false=>rfl
    |true=>have:=az h;omega
   dsimp only at q;rw[this,Nat.add_sub_cancel]at q;have h1:=an1 ((show Ds (KN w.params) D=true from q));have h2:=an2 ((show Ds (KN w.params) D=true from q));have h3:=an2 h2;have h2:=an1 h2;have h4:=an2 h3;have h3:=an1 h3;have h5:=an2 h4;have h4:=an1 h4;have h6:=an2 h5;have h5:=an1 h5;exact ⟨h1,h2,beq_iff_eq.mp h3,beq_iff_eq.mp h4,beq_iff_eq.mp h5,beq_iff_eq.mp h6⟩ }
 tps a es h:=by
  have m:=aO h;exact ⟨_,_,aq (Jx w.params) _ m,fun V=>gD (aD (Jy w.params) m)⟩
end
section
set_option maxRecDepth 1000000
set_option genInjectivity true
set_option genSizeOfSpec true
theorem vb:rwN.most=some 63:=by kernel_rfl
theorem qT:rwN.bound=none:=by kernel_rfl
theorem xW {args:List WData}(h:rwN.row.toRowW.claim.pre args=true):∃xs,args=[.list xs]/\WShape.hasItems [] xs .int=true/\xs.length<=63:=by
 refine ay (pre_splitW h) fun h1 h2=>?_;refine aR (hasAllW_cons h1) fun d r z'2 h3 h4=>?_;obtain rfl:=z'2;obtain rfl:=hasAllW_nil h4;refine aj (hasW_list h3) fun xs z'1 h5=>?_;obtain rfl:=z'1;refine ⟨xs,rfl,h5,?_⟩;change rwN.pre.holds [] { args:=[.list xs] }=true at h2;unfold OpenLaw.pre at h2;rw[vb,qT]at h2;dsimp only at h2;have hv:(WTm.lt (.lit (.int 63)) (.len (.arg 0))).value [] { args:=[.list xs] }=some (.bool (decide ((63:Int) < (xs.length:Int)))):=by
  simp [WTm.value,less?,Num.less?]
 have h3:(WTm.and (.not (.lt (.lit (.int 63)) (.len (.arg 0)))) (.lit (.bool true))).value [] { args:=[.list xs] }=some (.bool (!decide ((63:Int) < (xs.length:Int)))):=by
  unfold WTm.value;unfold WTm.value;rw[hv];cases decide ((63:Int) < (xs.length:Int))<;>rfl
 have h4:=(holdsW_of_value h3).symm.trans h2;have h5:¬(63:Int) < (xs.length:Int):=fun q=>by rw[decide_eq_true q]at h4;exact eA h4
 omega
theorem xX {cl:Str->Option Addr}{h:Heap}:∀{xs:List WData} {vs:List Value} {as:List Addr},WShape.hasItems [] xs .int=true->ReadsAllW [] cl h vs xs as->(∀v∈vs,∃i t,v=Value.int i t)/\vs.length=xs.length:=fun {xs}=>by
 induction xs with
 |nil=>intro vs as _ r;cases r;exact ⟨fun v hv=>absurd hv bI,rfl⟩
 |cons x xs ih=>
  intro vs as hi r;have h1:=an1 ((show (WShape.has [] x .int&&WShape.hasItems [] xs .int)=true from hi));have h2:=an2 ((show (WShape.has [] x .int&&WShape.hasItems [] xs .int)=true from hi));cases r with
  |cons a r=>
   refine av (hasW_int h1) fun i z'1=>?_;obtain rfl:=z'1;refine aj (readsW_int_inv a) fun t z'1 zy=>?_;obtain rfl:=z'1;refine ay (ih h2 r) fun g1 g2=>?_;refine ⟨fun v hv=>?_,by rw[List.length_cons,List.length_cons,g2]⟩;rcases aG hv with rfl|hv
   ·exact ⟨i,t,rfl⟩
   ·exact g1 v hv
theorem vc {cl:Str->Option Addr}{h:Heap}{args:List WData}{vals:List Value}{as:List Addr}(hp:rwN.row.toRowW.claim.pre args=true)(r:ReadsAllW [] cl h vals args as) :
  ∃xs ob vs k,vals=[.ref xs]/\h.get? xs=some ob/\ob.cls=.type "list"/\ob.data=.seq (List.toArray vs) k/\(∀v∈vs,∃i t,v=Value.int i t)/\vs.length<=63:=by
 refine cq (xW hp) fun xs z'1 hi hl=>?_;obtain rfl:=z'1;cases r with
 |cons a r=>
  cases r;refine HC (readsW_list_open a) fun l o its n ai z'5 h1 h2 h3 h4 zy=>?_;obtain rfl:=z'5;refine ay (xX hi h4) fun g1 g2=>?_;exact ⟨l,o,its.toList,n,rfl,h1,h2,by rw[h3,Array.toArray_toList],g1,by omega⟩
end
section
set_option maxRecDepth 1000000
set_option genInjectivity true
set_option genSizeOfSpec true
theorem Dv (P:Params):[nat_lit 984,nat_lit 989].map (fun a=>((trN P).get a).bind alive)=[nat_lit 984,nat_lit 989].map fun zz=>some (tabObj #[]):=by kernel_rfl
theorem pR (P:Params):kA.all (fun a=>!(Nat.beq a (nat_lit 984))&&!(Nat.beq a (nat_lit 989)))=true:=by kernel_rfl
noncomputable def Dy (o:Obj):Bool:=match o.cls with
 |.type x=>!(x == "list")
 |_=>true
theorem Dz (P:Params):kA.all (fun a=>match (trN P).get a with|some o=>Dy o|none=>false)=true:=by kernel_rfl
theorem DA (P:Params):nsIn (KN P) mainGlobals rwN.name=some (some (.ref 1020)):=by kernel_rfl
theorem eU {P:Params}{a:Addr}(h:a=984\/a=989):(HN P).get? a=some (tabObj #[]):=by
 have key:∀a,Nat.blt a (nat_lit 1021)=true->((trN P).get a).bind alive=some (tabObj #[])->(HN P).get? a=some (tabObj #[]):=fun a hl e=>by
  generalize h3:((trN P).get a)=x';induction x' using aF with
  |none=>rw[h3]at e;exact ag e
  |some o=>
   rw[h3]at e;show (absHeap (trN P) (nat_lit 1021) {}).get? a=_;rw[abs_get (Nat.le_of_ble_eq_true hl) h3];exact e
 have t:=Dv P;injection t with t1 t2
 injection t2 with t2 _
 rcases h with rfl|rfl
 ·exact key _ rfl t1
 ·exact key _ rfl t2
end
section
set_option genInjectivity true
set_option genSizeOfSpec true
def Hid (h:Heap) (S:List Addr):Prop:=∀b∈S,∃o,h.get? b=some o/\(o.cls=.none\/o.cls=.type "list")/\∀es n,o.data≠.dict es n
section
variable {h:Heap}{S:List Addr}{p:Program}{loose:List Str}{mean:ExcName->Option Value}{mg mb:Str->Option Value}
theorem xY (H:Hid h S){b:Addr}{o:Obj}(e:h.get? b=some o)(h1:o.cls≠.none)(h2:o.cls≠.type "list"):(hideAll h S).get? b=some o:=hideAll_get _ e fun m=>by
 refine cq (H b m) fun o' e' q zy=>?_;obtain rfl:=soo (e.symm.trans e');exact q.elim h1 h2
theorem vd (H:Hid h S){b:Addr}{o:Obj}{es:Array DictEntry}{n:Nat}(e:h.get? b=some o)(hd:o.data=.dict es n):(hideAll h S).get? b=some o:=hideAll_get _ e fun m=>by
 refine cq (H b m) fun o' e' zy q=>?_;obtain rfl:=soo (e.symm.trans e');exact q _ _ hd
theorem lE (H:Hid h S){a:Addr}{m:Str->Option Value}(x:h.Ns a m):(hideAll h S).Ns a m:=let ⟨o,es,ep,e,hd,r⟩:=x;⟨o,es,ep,vd H e hd,hd,r⟩
theorem xZ (H:Hid h S)(T:Top p loose mean mg mb h):Top topProg (loose++(recsOf p).map (·.name)++(litsOf p).map (·.1)++(clssOf p loose).map (·.name)) mean mg mb (hideAll h S):=by
 refine vj T.bmain fun bm ob a1 a2 a3 a4 r=>?_;exact {
  g:=lE H T.g
  b:=lE H T.b
  nolimit:=let ⟨mc,a,r⟩:=T.nolimit;⟨mc,lE H a,r⟩
  nodigits:=let ⟨mc,a,r⟩:=T.nodigits;⟨mc,lE H a,r⟩
  fn:=fun d hd=>nomatch hd
  own:=fun o ho=>nomatch ho
  const:=fun x d e=>ag e
  free:=fun x h1 h2 zz zz zz=>by
   simp only[List.mem_append,not_or]at h2;exact T.free x h1 h2.1.1.1 h2.1.1.2 h2.1.2 h2.2
  builtins:=T.builtins
  tab:=fun d hd=>nomatch hd
  bmain:=⟨bm,ob,a1,a2,xY H a3 (by rw[a4];nofun) (by rw[a4];decide),a4,r⟩
  seer:=fun e=>ak e }
end
end
section
set_option genInjectivity true
set_option genSizeOfSpec true
theorem x8:aa tbT.fns 1020=some (fiA 1020):=by kernel_rfl
theorem qU (n:Nat):cellsFrom n lwS.names []=[(dnW,n+1),(dnB,n)]:=by kernel_rfl
theorem nX:(fiA 1020).ps=[nS]:=by kernel_rfl
theorem DC:(fiA 1020).df=[]:=by kernel_rfl
theorem DD:aw lwS.names nS=some .local/\aw lwS.names dnW=some .cell/\aw lwS.names dnB=some .cell:=⟨by kernel_rfl,by kernel_rfl,by kernel_rfl⟩
theorem ve:lwS.names.lookup nS=some .local:=(aQ ..).symm.trans DD.1
noncomputable def vlS (xs L:Addr):Vl:=⟨fun c=>if c=31 then some xs else if c=32 then some (L+2) else if c=33 then some (L+1) else none,fun zz=>none,fun zz=>1,fun zz=>none⟩
theorem Hu {xs L:Addr}:Vx (vlS xs L) 100:=⟨fun i hi=>⟨by show (if i=31 then some xs else if i=32 then some (L+2) else if i=33 then some (L+1) else none)=none;rw[if_neg (by omega),if_neg (by omega),if_neg (by omega)],rfl,rfl⟩,⟨fun zz zz=>Int.le_refl _,fun zz zz=>⟨by show (-1:Int)<=1;decide,by show (1:Int) < 5;decide⟩,fun zz zz zz=>Int.le_refl _⟩,fun zz zz h=>ag h⟩
theorem yY {w:World}{V:Vl}{fl:FL}{i:Nat}{P:Addr}{q:Str}:Is w V fl i (.ctb P q []) [(P,tabObj #[])]:=⟨#[],[],⟨trivial,fun pos cv h=>ag h⟩,fun j hj=>absurd hj bI,rfl⟩
structure Start (w:World) (h:Heap) (xs:Addr) (ob:Obj) (vs:List Value):Prop where
 Y:∀b o,(HN w.params).get? b=some o->h.get? b=some o
 hx:h.get? xs=some ob
 c:ob.cls=.type "list"
 d:∃k,ob.data=.seq vs.toArray k
 v:∀v∈vs,∃i t,v=Value.int i t
 n:vs.length<=63
section
variable {w:World}{s:Shared}{xs:Addr}{ob:Obj}{vs:List Value}
theorem Start.hid (H:Start w s.heap xs ob vs):Hid s.heap [984,989,xs]:=fun b hb=>by
 simp only[List.mem_cons,List.not_mem_nil,or_false]at hb;rcases hb with rfl|rfl|rfl
 ·exact ⟨_,H.Y _ _ (eU (.inl rfl)),.inl rfl,fun es n=>by nofun⟩
 ·exact ⟨_,H.Y _ _ (eU (.inr rfl)),.inl rfl,fun es n=>by nofun⟩
 ·exact ⟨ob,H.hx,.inr H.c,fun es n q=>by refine av H.d fun k e=>?_;rw[e]at q;cases q⟩
theorem Start.K (H:Start w s.heap xs ob vs):(KN w.params).In (hideAll s.heap [984,989,xs]):=fun a o e=>by
 have X:=u8 H.Y a o e;refine ay (fR e) fun m e2=>?_;refine hideAll_get _ X fun hb=>?_;have q1:=an1 ((aD (pR w.params) m));have q2:=an2 ((aD (pR w.params) m));simp only[List.mem_cons,List.not_mem_nil,or_false]at hb;rcases hb with rfl|rfl|rfl
 ·exact ak q1
 ·exact ak q2
 ·have q3:=aD (Dz w.params) m;generalize h3:((trN w.params).get a)=x';induction x' using aF with
  |none=>rw[h3]at q3;exact ak q3
  |some o'=>
   rw[h3]at q3 e2;obtain rfl:o'=o:=e2;obtain rfl:=soo (H.hx.symm.trans X);have q3:Dy ob=true:=q3;unfold Dy at q3;rw[H.c]at q3;exact ak q3
theorem Start.ne (H:Start w s.heap xs ob vs):xs≠984/\xs≠989:=by
 constructor<;>intro e
 ·have:=H.hx;rw[e,H.Y _ _ (eU (.inl rfl))]at this;have c:=H.c;rw[<-soo this]at c;cases c
 ·have:=H.hx;rw[e,H.Y _ _ (eU (.inr rfl))]at this;have c:=H.c;rw[<-soo this]at c;cases c
theorem vf {prog:Program}{p:Program}{loose:List Str}{mean:ExcName->Option Value}{mg mb:Str->Option Value}(T:Top p loose mean mg mb s.heap)(H:Start w s.heap xs ob vs){R:Result->Shared->Prop}
  (P:∀h tk ps qs,(∀b o,b ∉ [984,989,xs]->s.heap.get? b=some o->h.get? b=some o)->h.get? 984=some (tabObj ps)->h.get? 989=some (tabObj qs)->h.get? xs=some ob->R (.ok (.ret (.bool true))) (Shared.to s h tk)) :
  codeAny (model prog w) callerA (.call (.ref 1020) ⟨[.ref xs],[]⟩) R s:=by
 have TB:=yX w piL;have X:(KN w.params).In s.heap:=u8 H.Y;have FO:=TB.fn 1020 (fiA 1020) x8;refine FO.k fun oc od dV kV doc pm an cdv ct osl dvs hK hcd hdf hbind=>?_;have hdv:dvs=[]:=by
  have:=(hdf (vlS 0 0)).length;rw[DC]at this;exact List.eq_nil_of_length_eq_zero this
 subst hdv;have hb:=hbind s [.ref xs] X (by rw[nX];exact aP _) (by rw[nX];exact aP _);rw[nX]at hb;have hb:BindsTo s (fnOf (fiA 1020).name (fiA 1020).qual (fiA 1020).params (fiA 1020).body (fiA 1020).scope dV kV doc pm an cdv ct) ⟨[.ref xs],[]⟩ [(nS,.ref xs)]:=hb;refine codeAny_call_function (by decide) (X _ _ hK) rfl FO.co FO.gen rfl (codeRec_of X hcd) (hb _ _ _ _ ?_);refine wpAny_newFunctionEnv_cells FO.kind (fun x hx=>.inl ?_) fun env' he s' x=>?_
 ·rw[List.mem_singleton.mp hx];exact ve
 subst he;refine ⟨T.nolimit.keeps x.toInCall.keep,codeAny_func ?_⟩;refine aI x.done fun h₁ tk z'2 zy=>?_;obtain rfl:=z'2;have hk₁:=x.toInCall.keep;have L' :∃L,L=s.heap.objs.size:=⟨_,rfl⟩
 refine av L' fun L hL=>?_;clear L';have hcs:cellsFrom (s.heap.objs.size+1) (fiA 1020).scope.names []=[(dnW,L+2),(dnB,L+1)]:=by rw[<-hL];exact qU (L+1)
 have kn:∀(e:Env),e.scope=(fiA 1020).scope->e.kindOf nS=some .local:=fun e h=>by show e.scope.names.lookup nS=_;rw[h];exact ve
 have hbc:∀(e:Env),e.scope=(fiA 1020).scope->bindC e.kindOf [(nS,Value.ref xs)] (fun zz=>none)=fun zz=>none:=fun e h=>by
  unfold bindC;rw[if_pos (kn e h)];rfl
 have hbl:∀(e:Env),e.scope=(fiA 1020).scope->bindL e.kindOf [(nS,Value.ref xs)] (fun zz=>none) nS=some (.ref xs):=fun e h=>by
  rw[iW (kn e h)];show (List.lookup nS [(nS,Value.ref xs)]).or none=_;rw[List.lookup_cons,beq_self_eq_true];rfl
 have lk:aw [(dnW,L+2),(dnB,L+1)] dnW=some (L+2)/\aw [(dnW,L+2),(dnB,L+1)] dnB=some (L+1):=⟨by kernel_rfl,by kernel_rfl⟩
 have cW:=x.cell dnW (L+2) (by show List.lookup dnW (cellsFrom _ _ _)=_;rw[hcs,<-aQ];exact lk.1);have cB:=x.cell dnB (L+1) (by show List.lookup dnB (cellsFrom _ _ _)=_;rw[hcs,<-aQ];exact lk.2);rw[hbc _ rfl]at cW cB;refine aj cW fun oW w1 w2=>?_;clear cW;refine aj cB fun oB b1 b2=>?_;clear cB;have TH:=xZ H.hid T;have XH:=H.K;have G:Gd ⟨prog,w,KN w.params,topProg,loose++(recsOf p).map (·.name)++(litsOf p).map (·.1)++(clssOf p loose).map (·.name),mean,mg,mb,tbL,callerA.deeper (envX (fiA 1020).qual (fiA 1020).scope s.heap.objs.size 1020 cdv (cellsFrom (s.heap.objs.size+1) (fiA 1020).scope.names [])),hideAll s.heap [984,989,xs],[],⟨(fiA 1020).qual,(fiA 1020).scope,s.heap.objs.size,1020,cdv,cellsFrom (s.heap.objs.size+1) (fiA 1020).scope.names [],none⟩,hideAll s.heap [984,989,xs],[]⟩:=
  ⟨TB,rfl,rfl,XH,TH,⟨by show callerA.depth+1+3*230 < recursionLimit;decide,by show callerA.units+3+10*230+10 < cLine;decide⟩⟩
 refine ay H.ne fun n1 n2=>?_;have sz:∀{b:Addr} {o:Obj},s.heap.get? b=some o->b < L:=fun e=>hL▸Heap.lt_size e;have g4:=H.Y _ _ (eU (P:=w.params) (.inl rfl:(984:Nat)=984\/(984:Nat)=989));have g9:=H.Y _ _ (eU (P:=w.params) (.inr rfl:(989:Nat)=984\/(989:Nat)=989));have i4:=sz g4;have i9:=sz g9;have ix:=sz H.hx;have fresh:∀b,L<=b->(hideAll s.heap [984,989,xs]).get? b=none:=fun b hb=>by
  generalize q:((hideAll s.heap [984,989,xs]).get? b)=x';induction x' using aF with
  |none=>rfl
  |some o=>exact absurd (sz (of_hideAll _ q)) (Nat.not_lt.mpr hb)
 refine De G (V:=vlS xs L) (xs:=xs) (ob:=ob) (pre:=vs) (s:=Shared.to s h₁ tk) ?_ rfl fun h₂ tk₂ m' news' l20 l21 l29 F N c20 c21 c29 hz=>?_
 rotate_left
 ·refine aR (c20 (vlS 0 0) tbT.flds) fun ps cs zy zy z'4=>?_;obtain rfl:=z'4;refine aR (c21 (vlS 0 0) tbT.flds) fun qs cs' zy zy z'4=>?_;obtain rfl:=z'4;refine gE (c29 (vlS xs L) tbT.flds 31 rfl) fun x' hx' zy zy z'4=>?_;obtain rfl:=z'4;obtain rfl:xs=x':=soo hx';exact P h₂ tk₂ ps qs (fun b o hb e=>F.keep b o (hideAll_get _ e hb)) (N (984,tabObj ps) (hz _ (.head _))).1 (N (989,tabObj qs) (hz _ (a9 _ (bS _ (.head _))))).1 (N (xs,ob) (hz _ (a9 _ (a9 _ (.head _))))).1
 show At (Dx.L0 ⟨prog,w,KN w.params,topProg,loose++(recsOf p).map (·.name)++(litsOf p).map (·.1)++(clssOf p loose).map (·.name),mean,mg,mb,tbL,callerA.deeper (envX (fiA 1020).qual (fiA 1020).scope s.heap.objs.size 1020 cdv (cellsFrom (s.heap.objs.size+1) (fiA 1020).scope.names [])),hideAll s.heap [984,989,xs],[],⟨(fiA 1020).qual,(fiA 1020).scope,s.heap.objs.size,1020,cdv,cellsFrom (s.heap.objs.size+1) (fiA 1020).scope.names [],none⟩,hideAll s.heap [984,989,xs],[]⟩) (vlS xs L) fA (sA ob vs) (Shared.to s h₁ tk);refine ⟨⟨TB,⟨callerA,below_caller _⟩,rfl,rfl,rfl,FO.kind,FO.kind,TH,XH⟩,⟨trivial,trivial,rfl,fun y i hy=>by
   show∃c,_/\List.lookup y (cellsFrom (s.heap.objs.size+1) (fiA 1020).scope.names [])=some c;rw[hcs,<-aQ];rcases fp hy with ⟨rfl,rfl⟩|⟨rfl,rfl⟩
   ·exact ⟨L+1,rfl,lk.2⟩
   ·exact ⟨L+2,rfl,lk.1⟩⟩,Hu,_,[(xs,ob)]++([(984,tabObj #[])]++([(989,tabObj #[])]++([(L+2,oW)]++([(L+1,oB)]++[])))),
   ⟨x.toInCall.ns,fun b o e=>hk₁ b o (of_hideAll _ e),Nat.le_of_eq (hideAll_size _ _)⟩,fun z hz=>?_,?_,?_,fun y v hy=>?_⟩
 ·rcases bn hz with hz|hz
  ·obtain rfl:=bg hz;exact ⟨hk₁ _ _ H.hx,hL▸bJ ix,hideAll_none _ (.tail _ (.tail _ (.head _)))⟩
  rcases bn hz with hz|hz
  ·obtain rfl:=bg hz;exact ⟨hk₁ _ _ g4,hL▸bJ i4,hideAll_none _ (.head _)⟩
  rcases bn hz with hz|hz
  ·obtain rfl:=bg hz;exact ⟨hk₁ _ _ g9,hL▸bJ i9,hideAll_none _ (.tail _ (.head _))⟩
  rcases bn hz with hz|hz
  ·obtain rfl:=bg hz;exact ⟨w1,by show L+2≠s.heap.objs.size;omega,fresh _ (by omega)⟩
  rcases bn hz with hz|hz
  ·obtain rfl:=bg hz;exact ⟨b1,by show L+1≠s.heap.objs.size;omega,fresh _ (by omega)⟩
  ·exact absurd hz bI
 ·refine .cons ⟨xs,rfl,⟨H.c,H.d⟩,⟨H.n,H.v⟩,rfl⟩ (.cons yY (.cons yY (.cons ⟨L+2,oW,rfl,w2,rfl⟩ (.cons ⟨L+1,oB,rfl,b2,rfl⟩ .nil))))
 ·show [xs,984,989,L+2,L+1].Nodup;have t1:xs ∉ [984,989,L+2,L+1]:=fun h=>by
   simp only[List.mem_cons,List.not_mem_nil,or_false]at h;rcases h with h|h|h|h
   ·exact n1 h
   ·exact n2 h
   ·exact absurd ix (by rw[h];exact Nat.not_lt.mpr (Nat.le_add_right _ _))
   ·exact absurd ix (by rw[h];exact Nat.not_lt.mpr (Nat.le_add_right _ _))
  have t2:984 ∉ [989,L+2,L+1]:=fun h=>by
   simp only[List.mem_cons,List.not_mem_nil,or_false]at h;rcases h with h|h|h
   ·exact absurd h (by decide)
   ·exact absurd i4 (by rw[h];exact Nat.not_lt.mpr (Nat.le_add_right _ _))
   ·exact absurd i4 (by rw[h];exact Nat.not_lt.mpr (Nat.le_add_right _ _))
  have t3:989 ∉ [L+2,L+1]:=fun h=>by
   simp only[List.mem_cons,List.not_mem_nil,or_false]at h;rcases h with h|h
   ·exact absurd i9 (by rw[h];exact Nat.not_lt.mpr (Nat.le_add_right _ _))
   ·exact absurd i9 (by rw[h];exact Nat.not_lt.mpr (Nat.le_add_right _ _))
  have t4:L+2 ∉ [L+1]:=fun h=>by simp at h
  exact List.nodup_cons.mpr ⟨t1,List.nodup_cons.mpr ⟨t2,List.nodup_cons.mpr ⟨t3,List.nodup_cons.mpr ⟨t4,List.nodup_cons.mpr ⟨bI,List.nodup_nil⟩⟩⟩⟩⟩
 ·have hm:=aU hy;change (y,v)∈[(nS,AV.obj 31)]at hm;refine ay (bo (bg hm)) fun z'0 z'1=>?_;obtain rfl:=z'0;obtain rfl:=z'1;exact ⟨_,hbl _ rfl,xs,rfl,rfl⟩
end
end
section
set_option genInjectivity true
set_option genSizeOfSpec true
theorem vg {args:List WData}:rwN.row.toRowW.claim.post args (.bool true) args=true:=by
 show (WShape.has [] (.bool true) .bool&&WTm.holds [] (.eq .res (.lit (.bool true))) { args:=args,res:=some (.bool true),after:=args })=true
 first|rfl|kernel_rfl
def YN (w:World) (h:Heap):Prop:=∀b o,(HN w.params).get? b=some o->h.get? b=some o
theorem DG:aa tbT.lam 987=some (20,984,lq 987):=by kernel_rfl
theorem DH:aa tbT.lam 994=some (21,989,lq 994):=by kernel_rfl
theorem Jz:WalkO qN qQ (fun zz zz=>True) YN rwN.row.toRowW lD.1 lD.2 fun f vs=>PySem.call f vs:=by
 intro w s₀ s₁ mg mb G Y a o pm cd doc dV kV h1 h2 hcr hdf hm hg args vals as hpre hlay hread hwell hlow;have X:=u8 (h:=s₁.heap) Y;have hn:lD.1.name=rwN.name:=defOf_name Hg;have e1:=mg_of X G.T.g (DA w.params);rw[hn,e1]at hm;obtain rfl:1020=a:=by injection soo hm
 refine Hz (vc hpre hread) fun xs ob vs k z'4 g1 g2 g3 g4 g5=>?_;obtain rfl:=z'4;refine wpAny_call (vf G.T (⟨Y,g1,g2,⟨k,g3⟩,g4,g5⟩:Start w s₁.heap xs ob vs) fun h tk ps qs keep t1 t2 t3=>?_);have CH:∀{g:Addr} {t:Nat} {P:Addr} {q:Str},aa tbT.lam g=some (t,P,q)->∃c,CodeHd s₁.heap c P:=fun hl=>by
  refine vm ((yX w piL).lam _ _ _ _ hl) fun zy zy zy zy c zy zy zy hc=>?_;exact ⟨c,hc _ X⟩
 refine av (CH DG) fun c1 k1=>?_;refine av (CH DH) fun c2 k2=>?_;have g984:=Y _ _ (eU (.inl rfl));have g989:=Y _ _ (eU (.inr rfl));refine ⟨.inl ⟨.bool true,.bool true,[],rfl,fun cls=>rfl,.bool true,vg,fun zz=>⟨List.nodup_nil,fun a ha=>absurd ha bI⟩⟩,⟨fun b o e=>?_,fun b o e=>?_⟩,rfl,.of_eq hg⟩
 ·by_cases hb:b∈[984,989,xs]
  ·simp only[List.mem_cons,List.not_mem_nil,or_false]at hb;rcases hb with rfl|rfl|rfl
   ·obtain rfl:=soo (g984.symm.trans e);exact .inr (.inl ⟨(k1.tab g984).isCodeTable,rfl,#[],ps,rfl,by rw[Array.empty_append];exact t1⟩)
   ·obtain rfl:=soo (g989.symm.trans e);exact .inr (.inl ⟨(k2.tab g989).isCodeTable,rfl,#[],qs,rfl,by rw[Array.empty_append];exact t2⟩)
   ·obtain rfl:=soo (g1.symm.trans e);exact .inl t3
  ·exact .inl (keep b o hb e)
 ·by_cases hb:b∈[984,989,xs]
  ·simp only[List.mem_cons,List.not_mem_nil,or_false]at hb;rcases hb with rfl|rfl|rfl
   ·exact ⟨_,t1⟩
   ·exact ⟨_,t2⟩
   ·exact ⟨_,t3⟩
  ·exact ⟨o,keep b o hb e⟩
theorem Hv:rwN.Holds:=Di (YP:=YN) (fun w b o e=>e) (fun w h h' k q b o e=>q b o (k b o e)) Jz
end
end
end Nu.Internal
theorem PySem.Challenge.cw_nu0294_01_holds : PySem.Challenge.rw_nu0294_01.Holds :=
 Nu.Internal.Hv
