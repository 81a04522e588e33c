import PyProof.Rows.All
import PySem.Syntax
import PySem.Eval
import OpenK.AllK
import PyProof.DictItems
import PyProof.EnumStmt
import PyProof.EnumMake
import PyProof.WalksEnum
import PyProof.RangeFor
import KE.KRevIter
import PyProof.MinMaxWalk
import PyProof.ConsumeWalk
import PyProof.ListCopy
import PyProof.TupleOfSeq
import PyProof.Rows.RuleN_isinstance
import PyProof.IsInstanceH
import PyProof.IsiPairs
import PyProof.Rows.MaxTwoN
import PyProof.Rows.SumAny
import PyProof.CallStr
import KE.LcSums
import PyProof.Rows.SortShell
import PyProof.Rows.SortWalk
import PyProof.Rows.SortStr
import PyProof.DictWalks
import PyProof.CollectIter
import KE.KDictOf
import PyProof.AttrMissHeap
import PyProof.RaisesMany
import PyProof.PureInt
import PyProof.AutoIntOps
import PyProof.AutoSeq1
import PyProof.MeetsSeq
import PyProof.AutoListH
import PyProof.MeetsDictList
import PyProof.Cells
import KE.KLam
import PyProof.ExcInit
import PyProof.InstStoreFacts
import PyProof.ExcBaseAll.Exception
import PyProof.AssignAttr
import OpenK.KMore
import PyProof.ExcArgs
import PyProof.RulesDel
import KE.KItemsList
import KE.KSortTup
import Lean
import PySem.Challenge.RW_pf0068_01
open PySem renaming wpAny_pure→IP,wpAny_bind→IQ,wpAny_holding→IS,wpAny_loadPart'→IT,wpAny_call_entry→IU,wpAny_standAt→IV,wpAny_load→IW,wpAny_mono→IX,Shared→IY,Value→IZ,Around→I0,Addr→I1,DictEntry→I2,Comprehension→I3,mainGlobals→I4,builtinsNs→I5,mem_of_lookup→I6,excClassObj→I7,letOwnedTupleGo→I8,codeAny_builtin→I9,typeLookup_type→Ja,Operator→Jb,Scope→Jc
open Option.some renaming inj→Jd,injEq→Je
open PySem.Str renaming ofString→Jf
open PySem.Heap renaming get?_push_of_some→Jg,get?_push_size→Jh,get?_update_self→Ji,lt_size→Jj,SameBut→Jk,SameBut.update→Jl
open Exists renaming elim→Jm
open Bool renaming and_eq_true→Jn,false_eq_true→Jo,rec→Jp,true→af,false→ag
open List renaming rec→Jq,mem_cons_of_mem→Jr,mem_cons_self→Js,getElem?_eq_getElem→Jt,size_toArray→Ju,length_map→Jv,getElem?_eq_some_iff→Jw,mem_cons→Jx
open Nat renaming rec→Jy,ne_of_lt→Jz,le_of_lt→JA,lt_irrefl→JB,zero_le→JC,lt_of_lt_of_le→JD,lt_of_le_of_lt→JE,le_trans→JF,add_le_add_left→JG
open Int renaming ofNat_eq_natCast→JH
open Option renaming some→aa,none→ae
set_option autoImplicit false
set_option maxRecDepth 100000
set_option maxHeartbeats 0
set_option Elab.async false
set_option tactic.hygienic false
set_option bootstrap.genMatcherCode false
set_option genSizeOf false
set_option genInjectivity false
set_option backward.linearNoConfusionType false
set_option linter.all false
set_option genCtorIdx false
namespace Mine.Internal
section
end
section
theorem nS{α:Type}{a:α}{P:Prop}(h:ae=aa a):P:=by cases h
theorem sN{α:Type}{a:α}{P:Prop}(h:aa a=ae):P:=by cases h
theorem tF{P:Prop}(h:af=ag):P:=by cases h
theorem fT{P:Prop}(h:ag=af):P:=by cases h
theorem bU{α β:Type}{a b:α}{c d:β}(h:aa (a,c)=aa (b,d)):a=b/\c=d:=by cases h;exact⟨rfl,rfl⟩
theorem ao  {p0 p1:Prop} {g:Prop} (h:p0/\p1) (k:(p0)->(p1)->g):g:=k h.1 h.2
theorem bM  {p0 p1 p2:Prop} {g:Prop} (h:p0/\p1/\p2) (k:(p0)->(p1)->(p2)->g):g:=k h.1 h.2.1 h.2.2
theorem fo  {p0 p1 p2 p3:Prop} {g:Prop} (h:p0/\p1/\p2/\p3) (k:(p0)->(p1)->(p2)->(p3)->g):g:=k h.1 h.2.1 h.2.2.1 h.2.2.2
theorem Hx  {p0 p1 p2 p3 p4:Prop} {g:Prop} (h:p0/\p1/\p2/\p3/\p4) (k:(p0)->(p1)->(p2)->(p3)->(p4)->g):g:=k h.1 h.2.1 h.2.2.1 h.2.2.2.1 h.2.2.2.2
theorem yj  {p0 p1 p2 p3 p4 p5:Prop} {g:Prop} (h:p0/\p1/\p2/\p3/\p4/\p5) (k:(p0)->(p1)->(p2)->(p3)->(p4)->(p5)->g):g:=k h.1 h.2.1 h.2.2.1 h.2.2.2.1 h.2.2.2.2.1 h.2.2.2.2.2
theorem CK  {p0 p1 p2 p3 p4 p5 p6:Prop} {g:Prop} (h:p0/\p1/\p2/\p3/\p4/\p5/\p6) (k:(p0)->(p1)->(p2)->(p3)->(p4)->(p5)->(p6)->g):g:=k h.1 h.2.1 h.2.2.1 h.2.2.2.1 h.2.2.2.2.1 h.2.2.2.2.2.1 h.2.2.2.2.2.2
theorem CJ  {p0 p1 p2 p3 p4 p5 p6 p7:Prop} {g:Prop} (h:p0/\p1/\p2/\p3/\p4/\p5/\p6/\p7) (k:(p0)->(p1)->(p2)->(p3)->(p4)->(p5)->(p6)->(p7)->g):g:=k h.1 h.2.1 h.2.2.1 h.2.2.2.1 h.2.2.2.2.1 h.2.2.2.2.2.1 h.2.2.2.2.2.2.1 h.2.2.2.2.2.2.2
theorem aw{α0:Sort _}{p0:α0->Prop}{g:Prop}(h:∃x0,p0 x0)(k:∀x0,(p0 x0)->g):g:=Jm h λx0 h=>k x0 h
theorem aj{α0:Sort _}{p0 p1:α0->Prop}{g:Prop}(h:∃x0,p0 x0/\p1 x0)(k:∀x0,(p0 x0)->(p1 x0)->g):g:=Jm h λx0 h=>k x0 h.1 h.2
theorem aQ{α0:Sort _}{p0 p1 p2:α0->Prop}{g:Prop}(h:∃x0,p0 x0/\p1 x0/\p2 x0)(k:∀x0,(p0 x0)->(p1 x0)->(p2 x0)->g):g:=Jm h λx0 h=>k x0 h.1 h.2.1 h.2.2
theorem de{α0:Sort _}{p0 p1 p2 p3:α0->Prop}{g:Prop}(h:∃x0,p0 x0/\p1 x0/\p2 x0/\p3 x0)(k:∀x0,(p0 x0)->(p1 x0)->(p2 x0)->(p3 x0)->g):g:=Jm h λx0 h=>k x0 h.1 h.2.1 h.2.2.1 h.2.2.2
theorem mw{α0:Sort _}{p0 p1 p2 p3 p4:α0->Prop}{g:Prop}(h:∃x0,p0 x0/\p1 x0/\p2 x0/\p3 x0/\p4 x0)(k:∀x0,(p0 x0)->(p1 x0)->(p2 x0)->(p3 x0)->(p4 x0)->g):g:=Jm h λx0 h=>k x0 h.1 h.2.1 h.2.2.1 h.2.2.2.1 h.2.2.2.2
theorem jI{α0:Sort _}{p0 p1 p2 p3 p4 p5:α0->Prop}{g:Prop}(h:∃x0,p0 x0/\p1 x0/\p2 x0/\p3 x0/\p4 x0/\p5 x0)(k:∀x0,(p0 x0)->(p1 x0)->(p2 x0)->(p3 x0)->(p4 x0)->(p5 x0)->g):g:=Jm h λx0 h=>k x0 h.1 h.2.1 h.2.2.1 h.2.2.2.1 h.2.2.2.2.1 h.2.2.2.2.2
theorem sf{α0:Sort _}{p0 p1 p2 p3 p4 p5 p6:α0->Prop}{g:Prop}(h:∃x0,p0 x0/\p1 x0/\p2 x0/\p3 x0/\p4 x0/\p5 x0/\p6 x0)(k:∀x0,(p0 x0)->(p1 x0)->(p2 x0)->(p3 x0)->(p4 x0)->(p5 x0)->(p6 x0)->g):g:=Jm h λx0 h=>k x0 h.1 h.2.1 h.2.2.1 h.2.2.2.1 h.2.2.2.2.1 h.2.2.2.2.2.1 h.2.2.2.2.2.2
theorem kD{α0:Sort _}{p0 p1 p2 p3 p4 p5 p6 p7:α0->Prop}{g:Prop}(h:∃x0,p0 x0/\p1 x0/\p2 x0/\p3 x0/\p4 x0/\p5 x0/\p6 x0/\p7 x0)(k:∀x0,(p0 x0)->(p1 x0)->(p2 x0)->(p3 x0)->(p4 x0)->(p5 x0)->(p6 x0)->(p7 x0)->g):g:=Jm h λx0 h=>k x0 h.1 h.2.1 h.2.2.1 h.2.2.2.1 h.2.2.2.2.1 h.2.2.2.2.2.1 h.2.2.2.2.2.2.1 h.2.2.2.2.2.2.2
theorem dX{α0:Sort _}{α1:Sort _}{p0:α0->α1->Prop}{g:Prop}(h:∃x0 x1,p0 x0 x1)(k:∀x0 x1,(p0 x0 x1)->g):g:=Jm h λx0 h=>Jm h λx1 h=>k x0 x1 h
theorem bY{α0:Sort _}{α1:Sort _}{p0 p1:α0->α1->Prop}{g:Prop}(h:∃x0 x1,p0 x0 x1/\p1 x0 x1)(k:∀x0 x1,(p0 x0 x1)->(p1 x0 x1)->g):g:=Jm h λx0 h=>Jm h λx1 h=>k x0 x1 h.1 h.2
theorem aW{α0:Sort _}{α1:Sort _}{p0 p1 p2:α0->α1->Prop}{g:Prop}(h:∃x0 x1,p0 x0 x1/\p1 x0 x1/\p2 x0 x1)(k:∀x0 x1,(p0 x0 x1)->(p1 x0 x1)->(p2 x0 x1)->g):g:=Jm h λx0 h=>Jm h λx1 h=>k x0 x1 h.1 h.2.1 h.2.2
theorem dO{α0:Sort _}{α1:Sort _}{p0 p1 p2 p3:α0->α1->Prop}{g:Prop}(h:∃x0 x1,p0 x0 x1/\p1 x0 x1/\p2 x0 x1/\p3 x0 x1)(k:∀x0 x1,(p0 x0 x1)->(p1 x0 x1)->(p2 x0 x1)->(p3 x0 x1)->g):g:=Jm h λx0 h=>Jm h λx1 h=>k x0 x1 h.1 h.2.1 h.2.2.1 h.2.2.2
theorem lB{α0:Sort _}{α1:Sort _}{p0 p1 p2 p3 p4:α0->α1->Prop}{g:Prop}(h:∃x0 x1,p0 x0 x1/\p1 x0 x1/\p2 x0 x1/\p3 x0 x1/\p4 x0 x1)(k:∀x0 x1,(p0 x0 x1)->(p1 x0 x1)->(p2 x0 x1)->(p3 x0 x1)->(p4 x0 x1)->g):g:=Jm h λx0 h=>Jm h λx1 h=>k x0 x1 h.1 h.2.1 h.2.2.1 h.2.2.2.1 h.2.2.2.2
theorem jH{α0:Sort _}{α1:Sort _}{p0 p1 p2 p3 p4 p5:α0->α1->Prop}{g:Prop}(h:∃x0 x1,p0 x0 x1/\p1 x0 x1/\p2 x0 x1/\p3 x0 x1/\p4 x0 x1/\p5 x0 x1)(k:∀x0 x1,(p0 x0 x1)->(p1 x0 x1)->(p2 x0 x1)->(p3 x0 x1)->(p4 x0 x1)->(p5 x0 x1)->g):g:=Jm h λx0 h=>Jm h λx1 h=>k x0 x1 h.1 h.2.1 h.2.2.1 h.2.2.2.1 h.2.2.2.2.1 h.2.2.2.2.2
theorem yi{α0:Sort _}{α1:Sort _}{p0 p1 p2 p3 p4 p5 p6:α0->α1->Prop}{g:Prop}(h:∃x0 x1,p0 x0 x1/\p1 x0 x1/\p2 x0 x1/\p3 x0 x1/\p4 x0 x1/\p5 x0 x1/\p6 x0 x1)(k:∀x0 x1,(p0 x0 x1)->(p1 x0 x1)->(p2 x0 x1)->(p3 x0 x1)->(p4 x0 x1)->(p5 x0 x1)->(p6 x0 x1)->g):g:=Jm h λx0 h=>Jm h λx1 h=>k x0 x1 h.1 h.2.1 h.2.2.1 h.2.2.2.1 h.2.2.2.2.1 h.2.2.2.2.2.1 h.2.2.2.2.2.2
theorem Hw{α0:Sort _}{α1:Sort _}{p0 p1 p2 p3 p4 p5 p6 p7:α0->α1->Prop}{g:Prop}(h:∃x0 x1,p0 x0 x1/\p1 x0 x1/\p2 x0 x1/\p3 x0 x1/\p4 x0 x1/\p5 x0 x1/\p6 x0 x1/\p7 x0 x1)(k:∀x0 x1,(p0 x0 x1)->(p1 x0 x1)->(p2 x0 x1)->(p3 x0 x1)->(p4 x0 x1)->(p5 x0 x1)->(p6 x0 x1)->(p7 x0 x1)->g):g:=Jm h λx0 h=>Jm h λx1 h=>k x0 x1 h.1 h.2.1 h.2.2.1 h.2.2.2.1 h.2.2.2.2.1 h.2.2.2.2.2.1 h.2.2.2.2.2.2.1 h.2.2.2.2.2.2.2
theorem Hv{α0:Sort _}{α1:Sort _}{α2:Sort _}{p0:α0->α1->α2->Prop}{g:Prop}(h:∃x0 x1 x2,p0 x0 x1 x2)(k:∀x0 x1 x2,(p0 x0 x1 x2)->g):g:=Jm h λx0 h=>Jm h λx1 h=>Jm h λx2 h=>k x0 x1 x2 h
theorem lA{α0:Sort _}{α1:Sort _}{α2:Sort _}{p0 p1:α0->α1->α2->Prop}{g:Prop}(h:∃x0 x1 x2,p0 x0 x1 x2/\p1 x0 x1 x2)(k:∀x0 x1 x2,(p0 x0 x1 x2)->(p1 x0 x1 x2)->g):g:=Jm h λx0 h=>Jm h λx1 h=>Jm h λx2 h=>k x0 x1 x2 h.1 h.2
theorem dz{α0:Sort _}{α1:Sort _}{α2:Sort _}{p0 p1 p2:α0->α1->α2->Prop}{g:Prop}(h:∃x0 x1 x2,p0 x0 x1 x2/\p1 x0 x1 x2/\p2 x0 x1 x2)(k:∀x0 x1 x2,(p0 x0 x1 x2)->(p1 x0 x1 x2)->(p2 x0 x1 x2)->g):g:=Jm h λx0 h=>Jm h λx1 h=>Jm h λx2 h=>k x0 x1 x2 h.1 h.2.1 h.2.2
theorem d9{α0:Sort _}{α1:Sort _}{α2:Sort _}{p0 p1 p2 p3:α0->α1->α2->Prop}{g:Prop}(h:∃x0 x1 x2,p0 x0 x1 x2/\p1 x0 x1 x2/\p2 x0 x1 x2/\p3 x0 x1 x2)(k:∀x0 x1 x2,(p0 x0 x1 x2)->(p1 x0 x1 x2)->(p2 x0 x1 x2)->(p3 x0 x1 x2)->g):g:=Jm h λx0 h=>Jm h λx1 h=>Jm h λx2 h=>k x0 x1 x2 h.1 h.2.1 h.2.2.1 h.2.2.2
theorem qj{α0:Sort _}{α1:Sort _}{α2:Sort _}{p0 p1 p2 p3 p4:α0->α1->α2->Prop}{g:Prop}(h:∃x0 x1 x2,p0 x0 x1 x2/\p1 x0 x1 x2/\p2 x0 x1 x2/\p3 x0 x1 x2/\p4 x0 x1 x2)(k:∀x0 x1 x2,(p0 x0 x1 x2)->(p1 x0 x1 x2)->(p2 x0 x1 x2)->(p3 x0 x1 x2)->(p4 x0 x1 x2)->g):g:=Jm h λx0 h=>Jm h λx1 h=>Jm h λx2 h=>k x0 x1 x2 h.1 h.2.1 h.2.2.1 h.2.2.2.1 h.2.2.2.2
theorem oC{α0:Sort _}{α1:Sort _}{α2:Sort _}{p0 p1 p2 p3 p4 p5:α0->α1->α2->Prop}{g:Prop}(h:∃x0 x1 x2,p0 x0 x1 x2/\p1 x0 x1 x2/\p2 x0 x1 x2/\p3 x0 x1 x2/\p4 x0 x1 x2/\p5 x0 x1 x2)(k:∀x0 x1 x2,(p0 x0 x1 x2)->(p1 x0 x1 x2)->(p2 x0 x1 x2)->(p3 x0 x1 x2)->(p4 x0 x1 x2)->(p5 x0 x1 x2)->g):g:=Jm h λx0 h=>Jm h λx1 h=>Jm h λx2 h=>k x0 x1 x2 h.1 h.2.1 h.2.2.1 h.2.2.2.1 h.2.2.2.2.1 h.2.2.2.2.2
theorem yh{α0:Sort _}{α1:Sort _}{α2:Sort _}{α3:Sort _}{p0:α0->α1->α2->α3->Prop}{g:Prop}(h:∃x0 x1 x2 x3,p0 x0 x1 x2 x3)(k:∀x0 x1 x2 x3,(p0 x0 x1 x2 x3)->g):g:=Jm h λx0 h=>Jm h λx1 h=>Jm h λx2 h=>Jm h λx3 h=>k x0 x1 x2 x3 h
theorem Hu{α0:Sort _}{α1:Sort _}{α2:Sort _}{α3:Sort _}{p0 p1:α0->α1->α2->α3->Prop}{g:Prop}(h:∃x0 x1 x2 x3,p0 x0 x1 x2 x3/\p1 x0 x1 x2 x3)(k:∀x0 x1 x2 x3,(p0 x0 x1 x2 x3)->(p1 x0 x1 x2 x3)->g):g:=Jm h λx0 h=>Jm h λx1 h=>Jm h λx2 h=>Jm h λx3 h=>k x0 x1 x2 x3 h.1 h.2
theorem lz{α0:Sort _}{α1:Sort _}{α2:Sort _}{α3:Sort _}{p0 p1 p2:α0->α1->α2->α3->Prop}{g:Prop}(h:∃x0 x1 x2 x3,p0 x0 x1 x2 x3/\p1 x0 x1 x2 x3/\p2 x0 x1 x2 x3)(k:∀x0 x1 x2 x3,(p0 x0 x1 x2 x3)->(p1 x0 x1 x2 x3)->(p2 x0 x1 x2 x3)->g):g:=Jm h λx0 h=>Jm h λx1 h=>Jm h λx2 h=>Jm h λx3 h=>k x0 x1 x2 x3 h.1 h.2.1 h.2.2
theorem oB{α0:Sort _}{α1:Sort _}{α2:Sort _}{α3:Sort _}{p0 p1 p2 p3:α0->α1->α2->α3->Prop}{g:Prop}(h:∃x0 x1 x2 x3,p0 x0 x1 x2 x3/\p1 x0 x1 x2 x3/\p2 x0 x1 x2 x3/\p3 x0 x1 x2 x3)(k:∀x0 x1 x2 x3,(p0 x0 x1 x2 x3)->(p1 x0 x1 x2 x3)->(p2 x0 x1 x2 x3)->(p3 x0 x1 x2 x3)->g):g:=Jm h λx0 h=>Jm h λx1 h=>Jm h λx2 h=>Jm h λx3 h=>k x0 x1 x2 x3 h.1 h.2.1 h.2.2.1 h.2.2.2
theorem Ht{α0:Sort _}{α1:Sort _}{α2:Sort _}{α3:Sort _}{p0 p1 p2 p3 p4 p5 p6:α0->α1->α2->α3->Prop}{g:Prop}(h:∃x0 x1 x2 x3,p0 x0 x1 x2 x3/\p1 x0 x1 x2 x3/\p2 x0 x1 x2 x3/\p3 x0 x1 x2 x3/\p4 x0 x1 x2 x3/\p5 x0 x1 x2 x3/\p6 x0 x1 x2 x3)(k:∀x0 x1 x2 x3,(p0 x0 x1 x2 x3)->(p1 x0 x1 x2 x3)->(p2 x0 x1 x2 x3)->(p3 x0 x1 x2 x3)->(p4 x0 x1 x2 x3)->(p5 x0 x1 x2 x3)->(p6 x0 x1 x2 x3)->g):g:=Jm h λx0 h=>Jm h λx1 h=>Jm h λx2 h=>Jm h λx3 h=>k x0 x1 x2 x3 h.1 h.2.1 h.2.2.1 h.2.2.2.1 h.2.2.2.2.1 h.2.2.2.2.2.1 h.2.2.2.2.2.2
theorem Hs{α0:Sort _}{α1:Sort _}{α2:Sort _}{α3:Sort _}{α4:Sort _}{p0:α0->α1->α2->α3->α4->Prop}{g:Prop}(h:∃x0 x1 x2 x3 x4,p0 x0 x1 x2 x3 x4)(k:∀x0 x1 x2 x3 x4,(p0 x0 x1 x2 x3 x4)->g):g:=Jm h λx0 h=>Jm h λx1 h=>Jm h λx2 h=>Jm h λx3 h=>Jm h λx4 h=>k x0 x1 x2 x3 x4 h
theorem Hr{α0:Sort _}{α1:Sort _}{α2:Sort _}{α3:Sort _}{α4:Sort _}{p0 p1 p2 p3 p4 p5:α0->α1->α2->α3->α4->Prop}{g:Prop}(h:∃x0 x1 x2 x3 x4,p0 x0 x1 x2 x3 x4/\p1 x0 x1 x2 x3 x4/\p2 x0 x1 x2 x3 x4/\p3 x0 x1 x2 x3 x4/\p4 x0 x1 x2 x3 x4/\p5 x0 x1 x2 x3 x4)(k:∀x0 x1 x2 x3 x4,(p0 x0 x1 x2 x3 x4)->(p1 x0 x1 x2 x3 x4)->(p2 x0 x1 x2 x3 x4)->(p3 x0 x1 x2 x3 x4)->(p4 x0 x1 x2 x3 x4)->(p5 x0 x1 x2 x3 x4)->g):g:=Jm h λx0 h=>Jm h λx1 h=>Jm h λx2 h=>Jm h λx3 h=>Jm h λx4 h=>k x0 x1 x2 x3 x4 h.1 h.2.1 h.2.2.1 h.2.2.2.1 h.2.2.2.2.1 h.2.2.2.2.2
theorem jG{α0:Sort _}{α1:Sort _}{α2:Sort _}{α3:Sort _}{α4:Sort _}{α5:Sort _}{p0:α0->α1->α2->α3->α4->α5->Prop}{g:Prop}(h:∃x0 x1 x2 x3 x4 x5,p0 x0 x1 x2 x3 x4 x5)(k:∀x0 x1 x2 x3 x4 x5,(p0 x0 x1 x2 x3 x4 x5)->g):g:=Jm h λx0 h=>Jm h λx1 h=>Jm h λx2 h=>Jm h λx3 h=>Jm h λx4 h=>Jm h λx5 h=>k x0 x1 x2 x3 x4 x5 h
theorem Hq{α0:Sort _}{α1:Sort _}{α2:Sort _}{α3:Sort _}{α4:Sort _}{α5:Sort _}{p0 p1 p2 p3 p4 p5 p6 p7:α0->α1->α2->α3->α4->α5->Prop}{g:Prop}(h:∃x0 x1 x2 x3 x4 x5,p0 x0 x1 x2 x3 x4 x5/\p1 x0 x1 x2 x3 x4 x5/\p2 x0 x1 x2 x3 x4 x5/\p3 x0 x1 x2 x3 x4 x5/\p4 x0 x1 x2 x3 x4 x5/\p5 x0 x1 x2 x3 x4 x5/\p6 x0 x1 x2 x3 x4 x5/\p7 x0 x1 x2 x3 x4 x5)(k:∀x0 x1 x2 x3 x4 x5,(p0 x0 x1 x2 x3 x4 x5)->(p1 x0 x1 x2 x3 x4 x5)->(p2 x0 x1 x2 x3 x4 x5)->(p3 x0 x1 x2 x3 x4 x5)->(p4 x0 x1 x2 x3 x4 x5)->(p5 x0 x1 x2 x3 x4 x5)->(p6 x0 x1 x2 x3 x4 x5)->(p7 x0 x1 x2 x3 x4 x5)->g):g:=Jm h λx0 h=>Jm h λx1 h=>Jm h λx2 h=>Jm h λx3 h=>Jm h λx4 h=>Jm h λx5 h=>k x0 x1 x2 x3 x4 x5 h.1 h.2.1 h.2.2.1 h.2.2.2.1 h.2.2.2.2.1 h.2.2.2.2.2.1 h.2.2.2.2.2.2.1 h.2.2.2.2.2.2.2
theorem au{α0:Sort _}{p0 p1:α0->Prop}(x0:α0)(h0:p0 x0)(h1:p1 x0):∃x0,p0 x0/\p1 x0:=⟨x0,h0,h1⟩
theorem aU{α0:Sort _}{p0 p1 p2:α0->Prop}(x0:α0)(h0:p0 x0)(h1:p1 x0)(h2:p2 x0):∃x0,p0 x0/\p1 x0/\p2 x0:=⟨x0,h0,h1,h2⟩
theorem fm{α0:Sort _}{p0 p1 p2 p3:α0->Prop}(x0:α0)(h0:p0 x0)(h1:p1 x0)(h2:p2 x0)(h3:p3 x0):∃x0,p0 x0/\p1 x0/\p2 x0/\p3 x0:=⟨x0,h0,h1,h2,h3⟩
theorem qi{α0:Sort _}{p0 p1 p2 p3 p4:α0->Prop}(x0:α0)(h0:p0 x0)(h1:p1 x0)(h2:p2 x0)(h3:p3 x0)(h4:p4 x0):∃x0,p0 x0/\p1 x0/\p2 x0/\p3 x0/\p4 x0:=⟨x0,h0,h1,h2,h3,h4⟩
theorem CI{α0:Sort _}{p0 p1 p2 p3 p4 p5:α0->Prop}(x0:α0)(h0:p0 x0)(h1:p1 x0)(h2:p2 x0)(h3:p3 x0)(h4:p4 x0)(h5:p5 x0):∃x0,p0 x0/\p1 x0/\p2 x0/\p3 x0/\p4 x0/\p5 x0:=⟨x0,h0,h1,h2,h3,h4,h5⟩
theorem yg{α0:Sort _}{p0 p1 p2 p3 p4 p5 p6:α0->Prop}(x0:α0)(h0:p0 x0)(h1:p1 x0)(h2:p2 x0)(h3:p3 x0)(h4:p4 x0)(h5:p5 x0)(h6:p6 x0):∃x0,p0 x0/\p1 x0/\p2 x0/\p3 x0/\p4 x0/\p5 x0/\p6 x0:=⟨x0,h0,h1,h2,h3,h4,h5,h6⟩
theorem fU{α0:Sort _}{α1:Sort _}{p0:α0->α1->Prop}(x0:α0)(x1:α1)(h0:p0 x0 x1):∃x0 x1,p0 x0 x1:=⟨x0,x1,h0⟩
theorem gw{α0:Sort _}{α1:Sort _}{p0 p1:α0->α1->Prop}(x0:α0)(x1:α1)(h0:p0 x0 x1)(h1:p1 x0 x1):∃x0 x1,p0 x0 x1/\p1 x0 x1:=⟨x0,x1,h0,h1⟩
theorem bX{α0:Sort _}{α1:Sort _}{p0 p1 p2:α0->α1->Prop}(x0:α0)(x1:α1)(h0:p0 x0 x1)(h1:p1 x0 x1)(h2:p2 x0 x1):∃x0 x1,p0 x0 x1/\p1 x0 x1/\p2 x0 x1:=⟨x0,x1,h0,h1,h2⟩
theorem d8{α0:Sort _}{α1:Sort _}{p0 p1 p2 p3:α0->α1->Prop}(x0:α0)(x1:α1)(h0:p0 x0 x1)(h1:p1 x0 x1)(h2:p2 x0 x1)(h3:p3 x0 x1):∃x0 x1,p0 x0 x1/\p1 x0 x1/\p2 x0 x1/\p3 x0 x1:=⟨x0,x1,h0,h1,h2,h3⟩
theorem gv{α0:Sort _}{α1:Sort _}{p0 p1 p2 p3 p4:α0->α1->Prop}(x0:α0)(x1:α1)(h0:p0 x0 x1)(h1:p1 x0 x1)(h2:p2 x0 x1)(h3:p3 x0 x1)(h4:p4 x0 x1):∃x0 x1,p0 x0 x1/\p1 x0 x1/\p2 x0 x1/\p3 x0 x1/\p4 x0 x1:=⟨x0,x1,h0,h1,h2,h3,h4⟩
theorem qh{α0:Sort _}{α1:Sort _}{p0 p1 p2 p3 p4 p5:α0->α1->Prop}(x0:α0)(x1:α1)(h0:p0 x0 x1)(h1:p1 x0 x1)(h2:p2 x0 x1)(h3:p3 x0 x1)(h4:p4 x0 x1)(h5:p5 x0 x1):∃x0 x1,p0 x0 x1/\p1 x0 x1/\p2 x0 x1/\p3 x0 x1/\p4 x0 x1/\p5 x0 x1:=⟨x0,x1,h0,h1,h2,h3,h4,h5⟩
theorem CH{α0:Sort _}{α1:Sort _}{p0 p1 p2 p3 p4 p5 p6:α0->α1->Prop}(x0:α0)(x1:α1)(h0:p0 x0 x1)(h1:p1 x0 x1)(h2:p2 x0 x1)(h3:p3 x0 x1)(h4:p4 x0 x1)(h5:p5 x0 x1)(h6:p6 x0 x1):∃x0 x1,p0 x0 x1/\p1 x0 x1/\p2 x0 x1/\p3 x0 x1/\p4 x0 x1/\p5 x0 x1/\p6 x0 x1:=⟨x0,x1,h0,h1,h2,h3,h4,h5,h6⟩
theorem Hp{α0:Sort _}{α1:Sort _}{α2:Sort _}{p0 p1:α0->α1->α2->Prop}(x0:α0)(x1:α1)(x2:α2)(h0:p0 x0 x1 x2)(h1:p1 x0 x1 x2):∃x0 x1 x2,p0 x0 x1 x2/\p1 x0 x1 x2:=⟨x0,x1,x2,h0,h1⟩
theorem iG{α0:Sort _}{α1:Sort _}{α2:Sort _}{p0 p1 p2:α0->α1->α2->Prop}(x0:α0)(x1:α1)(x2:α2)(h0:p0 x0 x1 x2)(h1:p1 x0 x1 x2)(h2:p2 x0 x1 x2):∃x0 x1 x2,p0 x0 x1 x2/\p1 x0 x1 x2/\p2 x0 x1 x2:=⟨x0,x1,x2,h0,h1,h2⟩
theorem kC{α0:Sort _}{α1:Sort _}{α2:Sort _}{p0 p1 p2 p3:α0->α1->α2->Prop}(x0:α0)(x1:α1)(x2:α2)(h0:p0 x0 x1 x2)(h1:p1 x0 x1 x2)(h2:p2 x0 x1 x2)(h3:p3 x0 x1 x2):∃x0 x1 x2,p0 x0 x1 x2/\p1 x0 x1 x2/\p2 x0 x1 x2/\p3 x0 x1 x2:=⟨x0,x1,x2,h0,h1,h2,h3⟩
theorem vH{α0:Sort _}{α1:Sort _}{α2:Sort _}{p0 p1 p2 p3 p4:α0->α1->α2->Prop}(x0:α0)(x1:α1)(x2:α2)(h0:p0 x0 x1 x2)(h1:p1 x0 x1 x2)(h2:p2 x0 x1 x2)(h3:p3 x0 x1 x2)(h4:p4 x0 x1 x2):∃x0 x1 x2,p0 x0 x1 x2/\p1 x0 x1 x2/\p2 x0 x1 x2/\p3 x0 x1 x2/\p4 x0 x1 x2:=⟨x0,x1,x2,h0,h1,h2,h3,h4⟩
theorem se{α0:Sort _}{α1:Sort _}{α2:Sort _}{p0 p1 p2 p3 p4 p5:α0->α1->α2->Prop}(x0:α0)(x1:α1)(x2:α2)(h0:p0 x0 x1 x2)(h1:p1 x0 x1 x2)(h2:p2 x0 x1 x2)(h3:p3 x0 x1 x2)(h4:p4 x0 x1 x2)(h5:p5 x0 x1 x2):∃x0 x1 x2,p0 x0 x1 x2/\p1 x0 x1 x2/\p2 x0 x1 x2/\p3 x0 x1 x2/\p4 x0 x1 x2/\p5 x0 x1 x2:=⟨x0,x1,x2,h0,h1,h2,h3,h4,h5⟩
theorem vG{α0:Sort _}{α1:Sort _}{α2:Sort _}{p0 p1 p2 p3 p4 p5 p6:α0->α1->α2->Prop}(x0:α0)(x1:α1)(x2:α2)(h0:p0 x0 x1 x2)(h1:p1 x0 x1 x2)(h2:p2 x0 x1 x2)(h3:p3 x0 x1 x2)(h4:p4 x0 x1 x2)(h5:p5 x0 x1 x2)(h6:p6 x0 x1 x2):∃x0 x1 x2,p0 x0 x1 x2/\p1 x0 x1 x2/\p2 x0 x1 x2/\p3 x0 x1 x2/\p4 x0 x1 x2/\p5 x0 x1 x2/\p6 x0 x1 x2:=⟨x0,x1,x2,h0,h1,h2,h3,h4,h5,h6⟩
theorem vF{α0:Sort _}{α1:Sort _}{α2:Sort _}{α3:Sort _}{p0 p1 p2 p3:α0->α1->α2->α3->Prop}(x0:α0)(x1:α1)(x2:α2)(x3:α3)(h0:p0 x0 x1 x2 x3)(h1:p1 x0 x1 x2 x3)(h2:p2 x0 x1 x2 x3)(h3:p3 x0 x1 x2 x3):∃x0 x1 x2 x3,p0 x0 x1 x2 x3/\p1 x0 x1 x2 x3/\p2 x0 x1 x2 x3/\p3 x0 x1 x2 x3:=⟨x0,x1,x2,x3,h0,h1,h2,h3⟩
theorem yf{α0:Sort _}{α1:Sort _}{α2:Sort _}{α3:Sort _}{p0 p1 p2 p3 p4:α0->α1->α2->α3->Prop}(x0:α0)(x1:α1)(x2:α2)(x3:α3)(h0:p0 x0 x1 x2 x3)(h1:p1 x0 x1 x2 x3)(h2:p2 x0 x1 x2 x3)(h3:p3 x0 x1 x2 x3)(h4:p4 x0 x1 x2 x3):∃x0 x1 x2 x3,p0 x0 x1 x2 x3/\p1 x0 x1 x2 x3/\p2 x0 x1 x2 x3/\p3 x0 x1 x2 x3/\p4 x0 x1 x2 x3:=⟨x0,x1,x2,x3,h0,h1,h2,h3,h4⟩
theorem H3{α:Type}{l:List α}(h:l.length=1):∃a,l=[a]:=List.length_eq_one_iff.mp h
theorem gk{P:Prop}(h:∀G:Prop,(P->G)->G):P:=h P id
@[elab_as_elim] theorem rwl{α:Sort _}{a b:α}{p:α->Prop}(e:a=b)(h:p b):p a:=e▸h
end
section
theorem jQ{a b c:Nat}(h:a-b=c+1):b<a:=Nat.lt_of_not_le λq=>by rw[Nat.sub_eq_zero_of_le q]at h;exact nomatch h
theorem j9(n:Nat):¬(n:Int)<0:=Int.not_lt.mpr (Int.natCast_nonneg n)
theorem Af(n:Nat):((n+1:Nat):Int)-1=n:=by lia
end
section
theorem oc{α:Type}{g:Prop}(o:Option α)(h0:o=ae->g)(h1:∀v,o=aa v->g):g:=Option.rec (motive:=λt=>o=t->g) h0 (λv=>h1 v) o rfl
theorem n7{α:Type}{g:Prop}(o:Option α)(h1:∀v,o=aa v->g)(h0:o=ae->g):g:=oc o h0 h1
theorem uW{g:Prop}(b:Bool)(h1:b=af->g)(h0:b=ag->g):g:=Jp (motive:=λt=>b=t->g) h0 h1 b rfl
theorem kY{g:Prop}(b:Bool)(h0:b=ag->g)(h1:b=af->g):g:=uW b h1 h0
end
section
@[elab_as_elim] theorem xs11{α0:Type}{β:Type}{f:α0->β}{P:β->Prop}(a:β)(h:∃x0,a=f x0)(k:∀x0,P (f x0)):P a:=aw h λx0 e  => e▸k x0
@[elab_as_elim] theorem xs12{α0:Type}{β:Type}{f:α0->β}{p1:α0->Prop}{P:β->Prop}(a:β)(h:∃x0,a=f x0/\p1 x0)(k:∀x0,p1 x0->P (f x0)):P a:=aj h λx0 e q1=>e▸k x0 q1
@[elab_as_elim] theorem xs13{α0:Type}{β:Type}{f:α0->β}{p1 p2:α0->Prop}{P:β->Prop}(a:β)(h:∃x0,a=f x0/\p1 x0/\p2 x0)(k:∀x0,p1 x0->p2 x0->P (f x0)):P a:=aQ h λx0 e q1 q2=>e▸k x0 q1 q2
@[elab_as_elim] theorem xs21{α0:Type}{α1:Type}{β:Type}{f:α0->α1->β}{P:β->Prop}(a:β)(h:∃x0 x1,a=f x0 x1)(k:∀x0 x1,P (f x0 x1)):P a:=dX h λx0 x1 e  => e▸k x0 x1
@[elab_as_elim] theorem xs22{α0:Type}{α1:Type}{β:Type}{f:α0->α1->β}{p1:α0->α1->Prop}{P:β->Prop}(a:β)(h:∃x0 x1,a=f x0 x1/\p1 x0 x1)(k:∀x0 x1,p1 x0 x1->P (f x0 x1)):P a:=bY h λx0 x1 e q1=>e▸k x0 x1 q1
@[elab_as_elim] theorem xs23{α0:Type}{α1:Type}{β:Type}{f:α0->α1->β}{p1 p2:α0->α1->Prop}{P:β->Prop}(a:β)(h:∃x0 x1,a=f x0 x1/\p1 x0 x1/\p2 x0 x1)(k:∀x0 x1,p1 x0 x1->p2 x0 x1->P (f x0 x1)):P a:=aW h λx0 x1 e q1 q2=>e▸k x0 x1 q1 q2
@[elab_as_elim] theorem xs32{α0:Type}{α1:Type}{α2:Type}{β:Type}{f:α0->α1->α2->β}{p1:α0->α1->α2->Prop}{P:β->Prop}(a:β)(h:∃x0 x1 x2,a=f x0 x1 x2/\p1 x0 x1 x2)(k:∀x0 x1 x2,p1 x0 x1 x2->P (f x0 x1 x2)):P a:=lA h λx0 x1 x2 e q1=>e▸k x0 x1 x2 q1
@[elab_as_elim] theorem xs33{α0:Type}{α1:Type}{α2:Type}{β:Type}{f:α0->α1->α2->β}{p1 p2:α0->α1->α2->Prop}{P:β->Prop}(a:β)(h:∃x0 x1 x2,a=f x0 x1 x2/\p1 x0 x1 x2/\p2 x0 x1 x2)(k:∀x0 x1 x2,p1 x0 x1 x2->p2 x0 x1 x2->P (f x0 x1 x2)):P a:=dz h λx0 x1 x2 e q1 q2=>e▸k x0 x1 x2 q1 q2
end
section
open PySem PySem.Calls PyProof.Rows
abbrev II{α β:Type}(M:Model)(A:I0)(f:α->Sem β)(Q:β->IY->Prop)(E:IZ->IY->Prop)(a:α)(s:IY):Prop:=wpAny M A (f a) Q E s
theorem az{α β:Type}{M:Model}{A:I0}{m:Sem α}{f:α->Sem β}{Q:β->IY->Prop}{E:IZ->IY->Prop}{s:IY}(h:wpAny M A m (II M A f Q E) E s):wpAny M A (m >>= f) Q E s:=IQ h
structure oz(h:Heap)(fd:FuncData)(body:FuncBody)(names:List Str)(sc:List (Str×NameKind)):Prop where
 clo:fd.closure=[]
 bd:fd.body=body
 co:fd.scope.isCoroutine=ag
 ge:fd.scope.isGenerator=ag
 ki:fd.scope.kind=.function
 gl:fd.globals=I4
 bi:fd.builtins=I5
 cd:h.CodeRec fd.code fd.qualname
 po:fd.params.posonlyargs=[]
 ar:fd.params.args.map (·.arg)=names
 ko:fd.params.kwonlyargs=[]
 va:fd.params.vararg=ae
 kw:fd.params.kwarg=ae
 df:fd.defaults=.none
 sc:fd.scope.names=sc
theorem oz.keeps{h h':Heap}{fd:FuncData}{b:FuncBody}{n:List Str}{sc:List (Str×NameKind)}(D:oz h fd b n sc)(k:∀b o,h.get? b=aa o->h'.get? b=aa o):oz h' fd b n sc:={ D with cd:=D.cd.keeps k }
theorem eU{β:Type}{M:Model}{A:I0}{E:IZ->IY->Prop}{s:IY}{c:Prop}{i:Decidable c}{x y:Sem β}{Q:β->IY->Prop}(q:¬c)(h:wpAny M A y Q E s):wpAny M A (if c then x else y) Q E s:=by refine rwl (if_neg q) ?_;exact h
theorem pe{β:Type}{M:Model}{A:I0}{E:IZ->IY->Prop}{s:IY}{c:Prop}{i:Decidable c}{x y:Sem β}{Q:β->IY->Prop}(q:c)(h:wpAny M A x Q E s):wpAny M A (if c then x else y) Q E s:=by rw[if_pos q];exact h
end
section
open PySem
set_option genInjectivity true in
inductive V where
 | none
 | bool (b:Bool)
 | int (i:Int)
 | str (s:List Nat)
 | tup (l:List V)
 | lst (l:List V)
 | bh (ks vs:List V)
 | clo (f:Nat) (caps:List V)
noncomputable def V.ctorIdx(x:V):Nat:=V.casesOn x 0 (λJ=>1) (λJ=>2) (λJ=>3) (λJ=>4) (λJ=>5) (λJ J=>6) (λJ J=>7)
section
variable{α:Type}
noncomputable abbrev vN(d:α)(f:α)(v:V):α:=@V.rec (λJ=>α) (λJ=>Unit) (f) (λJ=>d) (λJ=>d) (λJ=>d) (λJ J=>d) (λJ J=>d) (λJ J J J=>d) (λJ J J=>d) () (λJ J J J=>()) v
noncomputable abbrev vB(d:α)(f:Bool->α)(v:V):α:=@V.rec (λJ=>α) (λJ=>Unit) (d) (f) (λJ=>d) (λJ=>d) (λJ J=>d) (λJ J=>d) (λJ J J J=>d) (λJ J J=>d) () (λJ J J J=>()) v
noncomputable abbrev vI(d:α)(f:Int->α)(v:V):α:=@V.rec (λJ=>α) (λJ=>Unit) (d) (λJ=>d) (f) (λJ=>d) (λJ J=>d) (λJ J=>d) (λJ J J J=>d) (λJ J J=>d) () (λJ J J J=>()) v
noncomputable abbrev vS(d:α)(f:List Nat->α)(v:V):α:=@V.rec (λJ=>α) (λJ=>Unit) (d) (λJ=>d) (λJ=>d) (f) (λJ J=>d) (λJ J=>d) (λJ J J J=>d) (λJ J J=>d) () (λJ J J J=>()) v
noncomputable abbrev vT(d:α)(f:List V->α)(v:V):α:=@V.rec (λJ=>α) (λJ=>Unit) (d) (λJ=>d) (λJ=>d) (λJ=>d) (λl J=>f l) (λJ J=>d) (λJ J J J=>d) (λJ J J=>d) () (λJ J J J=>()) v
noncomputable abbrev vL(d:α)(f:List V->α)(v:V):α:=@V.rec (λJ=>α) (λJ=>Unit) (d) (λJ=>d) (λJ=>d) (λJ=>d) (λJ J=>d) (λl J=>f l) (λJ J J J=>d) (λJ J J=>d) () (λJ J J J=>()) v
noncomputable abbrev vD(d:α)(f:List V->List V->α)(v:V):α:=@V.rec (λJ=>α) (λJ=>Unit) (d) (λJ=>d) (λJ=>d) (λJ=>d) (λJ J=>d) (λJ J=>d) (λk x J J=>f k x) (λJ J J=>d) () (λJ J J J=>()) v
noncomputable abbrev vC(d:α)(f:Nat->List V->α)(v:V):α:=@V.rec (λJ=>α) (λJ=>Unit) (d) (λJ=>d) (λJ=>d) (λJ=>d) (λJ J=>d) (λJ J=>d) (λJ J J J=>d) (λn l J=>f n l) () (λJ J J J=>()) v
end
section
variable{α:Type}{v:V}{r:α}
theorem zZ{d:Option α}{f:Bool->Option α}(h:vB d f v=aa r):(∃b,v=.bool b/\f b=aa r)\/d=aa r:=by induction v using V.casesOn<;>first|exact .inl ⟨_,rfl,h⟩|exact .inr h
theorem zY{d:Option α}{f:Int->Option α}(h:vI d f v=aa r):(∃i,v=.int i/\f i=aa r)\/d=aa r:=by induction v using V.casesOn<;>first|exact .inl ⟨_,rfl,h⟩|exact .inr h
theorem zW{d:Option α}{f:List Nat->Option α}(h:vS d f v=aa r):(∃x,v=.str x/\f x=aa r)\/d=aa r:=by induction v using V.casesOn<;>first|exact .inl ⟨_,rfl,h⟩|exact .inr h
theorem zU{d:Option α}{f:List V->Option α}(h:vT d f v=aa r):(∃l,v=.tup l/\f l=aa r)\/d=aa r:=by induction v using V.casesOn<;>first|exact .inl ⟨_,rfl,h⟩|exact .inr h
theorem zX{d:Option α}{f:List V->Option α}(h:vL d f v=aa r):(∃l,v=.lst l/\f l=aa r)\/d=aa r:=by induction v using V.casesOn<;>first|exact .inl ⟨_,rfl,h⟩|exact .inr h
theorem z4{f:Bool->Option α}(h:vB ae f v=aa r):∃b,v=.bool b/\f b=aa r:=(zZ h).elim id nS
theorem jv{f:Int->Option α}(h:vI ae f v=aa r):∃i,v=.int i/\f i=aa r:=(zY h).elim id nS
theorem F8{f:List Nat->Option α}(h:vS ae f v=aa r):∃x,v=.str x/\f x=aa r:=(zW h).elim id nS
theorem zV{f:List V->Option α}(h:vT ae f v=aa r):∃l,v=.tup l/\f l=aa r:=(zU h).elim id nS
theorem j6{f:List V->Option α}(h:vL ae f v=aa r):∃l,v=.lst l/\f l=aa r:=(zX h).elim id nS
end
set_option genInjectivity true in
inductive Slot where
 | undef
 | val (v:V)
 | own (v:V)
 | aE
noncomputable def Slot.ctorIdx(x:Slot):Nat:=Slot.casesOn x 0 (λJ=>1) (λJ=>2) 3
inductive Res where
 | stuck
 | ok (v:V) (p:List V)
 | exc (k:List Nat) (p:List V)
noncomputable def Res.ctorIdx(x:Res):Nat:=Res.casesOn x 0 (λJ J=>1) (λJ J=>2)
inductive aI where
 | stuck
 | ok (l:List V) (p:List V)
 | exc (k:List Nat) (p:List V)
noncomputable def aI.ctorIdx(x:aI):Nat:=aI.casesOn x 0 (λJ J=>1) (λJ J=>2)
inductive aV where
 | stuck
 | ok (l:List Slot) (p:List V)
 | exc (k:List Nat) (p:List V)
structure Fr where
 s0:Slot
 s1:Slot
 s2:Slot
 s3:Slot
 s4:Slot
 s5:Slot
 s6:Slot
 s7:Slot
 s8:Slot
 s9:Slot
 s10:Slot
 s11:Slot
 s12:Slot
 s13:Slot
 s14:Slot
 s15:Slot
inductive ai where
 | stuck
 | next (ρ:Fr) (p:List V)
 | brk (ρ:Fr) (p:List V)
 | cont (ρ:Fr) (p:List V)
 | ret (v:V) (ρ:Fr) (p:List V)
 | exc (k:List Nat) (ρ:Fr) (p:List V)
noncomputable def ai.ctorIdx(x:ai):Nat:=ai.casesOn x 0 (λJ J=>1) (λJ J=>2) (λJ J=>3) (λJ J J=>4) (λJ J J=>5)
noncomputable abbrev Call:=Nat->List Slot->List V->Res
noncomputable abbrev aA:=Call->Fr->List V->Res
noncomputable abbrev bj:=Call->Fr->List V->ai
noncomputable abbrev G:=Call->Fr->List V->aI
noncomputable abbrev d6:=Fr->Slot
noncomputable abbrev bT:=Fr->Slot->Fr
noncomputable section
noncomputable def iJ:bT:=λf v=>@Fr.rec (λJ=>Fr) (λJ s1 s2 s3 s4 s5 s6 s7 s8 s9 s10 s11 s12 s13 s14 s15=>Fr.mk v s1 s2 s3 s4 s5 s6 s7 s8 s9 s10 s11 s12 s13 s14 s15) f
noncomputable def a0:bT:=λf v=>@Fr.rec (λJ=>Fr) (λs0 J s2 s3 s4 s5 s6 s7 s8 s9 s10 s11 s12 s13 s14 s15=>Fr.mk s0 v s2 s3 s4 s5 s6 s7 s8 s9 s10 s11 s12 s13 s14 s15) f
noncomputable def aO:bT:=λf v=>@Fr.rec (λJ=>Fr) (λs0 s1 J s3 s4 s5 s6 s7 s8 s9 s10 s11 s12 s13 s14 s15=>Fr.mk s0 s1 v s3 s4 s5 s6 s7 s8 s9 s10 s11 s12 s13 s14 s15) f
noncomputable def aX:bT:=λf v=>@Fr.rec (λJ=>Fr) (λs0 s1 s2 J s4 s5 s6 s7 s8 s9 s10 s11 s12 s13 s14 s15=>Fr.mk s0 s1 s2 v s4 s5 s6 s7 s8 s9 s10 s11 s12 s13 s14 s15) f
noncomputable def bz:bT:=λf v=>@Fr.rec (λJ=>Fr) (λs0 s1 s2 s3 J s5 s6 s7 s8 s9 s10 s11 s12 s13 s14 s15=>Fr.mk s0 s1 s2 s3 v s5 s6 s7 s8 s9 s10 s11 s12 s13 s14 s15) f
noncomputable def bR:bT:=λf v=>@Fr.rec (λJ=>Fr) (λs0 s1 s2 s3 s4 J s6 s7 s8 s9 s10 s11 s12 s13 s14 s15=>Fr.mk s0 s1 s2 s3 s4 v s6 s7 s8 s9 s10 s11 s12 s13 s14 s15) f
noncomputable def dc:bT:=λf v=>@Fr.rec (λJ=>Fr) (λs0 s1 s2 s3 s4 s5 J s7 s8 s9 s10 s11 s12 s13 s14 s15=>Fr.mk s0 s1 s2 s3 s4 s5 v s7 s8 s9 s10 s11 s12 s13 s14 s15) f
noncomputable def gx:bT:=λf v=>@Fr.rec (λJ=>Fr) (λs0 s1 s2 s3 s4 s5 s6 J s8 s9 s10 s11 s12 s13 s14 s15=>Fr.mk s0 s1 s2 s3 s4 s5 s6 v s8 s9 s10 s11 s12 s13 s14 s15) f
noncomputable def kG:bT:=λf v=>@Fr.rec (λJ=>Fr) (λs0 s1 s2 s3 s4 s5 s6 s7 J s9 s10 s11 s12 s13 s14 s15=>Fr.mk s0 s1 s2 s3 s4 s5 s6 s7 v s9 s10 s11 s12 s13 s14 s15) f
noncomputable def qn:bT:=λf v=>@Fr.rec (λJ=>Fr) (λs0 s1 s2 s3 s4 s5 s6 s7 s8 J s10 s11 s12 s13 s14 s15=>Fr.mk s0 s1 s2 s3 s4 s5 s6 s7 s8 v s10 s11 s12 s13 s14 s15) f
noncomputable def rO:bT:=λf v=>@Fr.rec (λJ=>Fr) (λs0 s1 s2 s3 s4 s5 s6 s7 s8 s9 J s11 s12 s13 s14 s15=>Fr.mk s0 s1 s2 s3 s4 s5 s6 s7 s8 s9 v s11 s12 s13 s14 s15) f
noncomputable def vZ:bT:=λf v=>@Fr.rec (λJ=>Fr) (λs0 s1 s2 s3 s4 s5 s6 s7 s8 s9 s10 J s12 s13 s14 s15=>Fr.mk s0 s1 s2 s3 s4 s5 s6 s7 s8 s9 s10 v s12 s13 s14 s15) f
noncomputable def Gh:bT:=λf v=>@Fr.rec (λJ=>Fr) (λs0 s1 s2 s3 s4 s5 s6 s7 s8 s9 s10 s11 J s13 s14 s15=>Fr.mk s0 s1 s2 s3 s4 s5 s6 s7 s8 s9 s10 s11 v s13 s14 s15) f
noncomputable def Gg:bT:=λf v=>@Fr.rec (λJ=>Fr) (λs0 s1 s2 s3 s4 s5 s6 s7 s8 s9 s10 s11 s12 J s14 s15=>Fr.mk s0 s1 s2 s3 s4 s5 s6 s7 s8 s9 s10 s11 s12 v s14 s15) f
noncomputable def Gf:bT:=λf v=>@Fr.rec (λJ=>Fr) (λs0 s1 s2 s3 s4 s5 s6 s7 s8 s9 s10 s11 s12 s13 J s15=>Fr.mk s0 s1 s2 s3 s4 s5 s6 s7 s8 s9 s10 s11 s12 s13 v s15) f
noncomputable def Ge:bT:=λf v=>@Fr.rec (λJ=>Fr) (λs0 s1 s2 s3 s4 s5 s6 s7 s8 s9 s10 s11 s12 s13 s14 J=>Fr.mk s0 s1 s2 s3 s4 s5 s6 s7 s8 s9 s10 s11 s12 s13 s14 v) f
noncomputable def aJ:Nat->d6
 | 0=>Fr.s0
 | 1=>Fr.s1
 | 2=>Fr.s2
 | 3=>Fr.s3
 | 4=>Fr.s4
 | 5=>Fr.s5
 | 6=>Fr.s6
 | 7=>Fr.s7
 | 8=>Fr.s8
 | 9=>Fr.s9
 | 10=>Fr.s10
 | 11=>Fr.s11
 | 12=>Fr.s12
 | 13=>Fr.s13
 | 14=>Fr.s14
 | 15=>Fr.s15
 | _=>λJ=>.undef
noncomputable def sets:Nat->bT
 | 0=>iJ
 | 1=>a0
 | 2=>aO
 | 3=>aX
 | 4=>bz
 | 5=>bR
 | 6=>dc
 | 7=>gx
 | 8=>kG
 | 9=>qn
 | 10=>rO
 | 11=>vZ
 | 12=>Gh
 | 13=>Gg
 | 14=>Gf
 | 15=>Ge
 | _=>λρ J=>ρ
noncomputable def eY{α:Type}(l:List α):Nat->Option α:=
 @Jq α (λJ=>Nat->Option α) (λJ=>ae) (λa J ih=>λn=>(@Jy (λJ=>Option α) (aa a) (λm J=>ih m) n)) l
noncomputable def setAt{α:Type}(l:List α):Nat->α->List α:=
 @Jq α (λJ=>Nat->α->List α) (λJ J=>[]) (λa r ih=>λn x=>(@Jy (λJ=>List α) (x::r) (λm J=>a::ih m x) n)) l
noncomputable def dA{α:Type}(l:List α):Nat:=
 @Jq α (λJ=>Nat) (0) (λJ J ih=>Nat.succ ih) l
noncomputable def app{α:Type}(l m:List α):List α:=
 @Jq α (λJ=>List α) (m) (λa J ih=>a::ih) l
noncomputable def short{α:Type}(n:Nat)(l:List α):Bool:=
 @Jq α (λJ=>Nat->Bool) (λJ=>af) (λJ J ih=>λn=>(@Jy (λJ=>Bool) (ag) (λm J=>ih m) n)) l n
noncomputable abbrev lid:Nat:=3000
noncomputable def fN{α:Type}(n:Nat)(k:Nat->α):α:=
 @Jy (λJ=>α) (k 0) (λm J=>@Jy (λJ=>α) (k 1) (λm J=>@Jy (λJ=>α) (k 2) (λm J=>k (Nat.succ (Nat.succ (Nat.succ m)))) m) m) n
noncomputable def fI{α:Type}(i:Int)(k:Int->α):α:=
 @Int.rec (λJ=>α) (λn=>fN n λn=>k (.ofNat n)) (λn=>fN n λn=>k (.negSucc n)) i
noncomputable def fB{α:Type}(b:Bool)(k:Bool->α):α:=
 @Jp (λJ=>α) (k ag) (k af) b
noncomputable def fL{α:Type}(l:List V):(List V->α)->α:=
 @Jq V (λJ=>(List V->α)->α) (λk=>k []) (λa J ih=>λk=>ih λr=>k (a::r)) l
noncomputable def fS{α:Type}(v:V)(k:V->α):α:=
 vI (vT (vS (vL (vB (vD (vC (k .none) (λf l=>k (.clo f l)) v) (λa b=>fL a λa=>fL b λb=>k (.bh a b)) v) (λb=>fB b λb=>k (.bool b)) v) (λl=>fL l λl=>k (.lst l)) v) (λs=>k (.str s)) v) (λl=>fL l λl=>k (.tup l)) v) (λi=>fI i λi=>k (.int i)) v
noncomputable def fV{α:Type}(v:V):(V->α)->α:=
 @V.rec (λJ=>(V->α)->α) (λJ=>(List V->α)->α) (λk=>k .none) (λb k=>fB b λb=>k (.bool b)) (λi k=>fI i λi=>k (.int i)) (λs k=>k (.str s)) (λJ ih k=>ih λl=>k (.tup l)) (λJ ih k=>ih λl=>k (.lst l)) (λl m J J k=>k (.bh l m)) (λf l J k=>k (.clo f l)) (λk=>k []) (λJ J ih jh k=>ih λv=>jh λl=>k (v::l)) v
noncomputable def kK(a:Bool):Bool:=
 (@Jp (λJ=>Bool) (af) (ag) a)
noncomputable def gM(l:List Nat):List Nat->Bool:=
 @Jq Nat (λJ=>List Nat->Bool) (λm=>(@Jq Nat (λJ=>Bool) (af) (λJ J J=>ag) m)) (λa J ih=>λm=>(@Jq Nat (λJ=>Bool) (ag) (λb r J=>(@Jp (λJ=>Bool) (ag) (ih r) (Nat.beq a b))) m)) l
noncomputable def ir(l:List Nat):List Nat->Bool:=
 @Jq Nat (λJ=>List Nat->Bool) (λm=>(@Jq Nat (λJ=>Bool) (ag) (λJ J J=>af) m)) (λa J ih=>λm=>(@Jq Nat (λJ=>Bool) (ag) (λb r J=>(@Jp (λJ=>Bool) ((@Jp (λJ=>Bool) (ag) (ih r) (Nat.beq a b))) (af) (Nat.blt a b))) m)) l
noncomputable def pP(a b:Int):Bool:=
 (@Int.rec (λJ=>Bool) (λm=>(@Int.rec (λJ=>Bool) (λn=>Nat.beq m n) (λJ=>ag) b)) (λm=>(@Int.rec (λJ=>Bool) (λJ=>ag) (λn=>Nat.beq m n) b)) a)
noncomputable def oj(a b:Int):Bool:=
 (@Int.rec (λJ=>Bool) (λm=>(@Int.rec (λJ=>Bool) (λn=>Nat.blt m n) (λJ=>ag) b)) (λm=>(@Int.rec (λJ=>Bool) (λJ=>af) (λn=>Nat.blt n m) b)) a)
noncomputable def xR(a b:Int):Bool:=
 kK (oj b a)
noncomputable def vU(m n:Nat):Int:=
 @Jp (λJ=>Int) (.negSucc (Nat.pred (Nat.sub n m))) (.ofNat (Nat.sub m n)) (Nat.ble n m)
noncomputable def cQ(a b:Int):Int:=
 (@Int.rec (λJ=>Int) (λm=>(@Int.rec (λJ=>Int) (λn=>.ofNat (Nat.add m n)) (λn=>vU m (Nat.succ n)) b)) (λm=>(@Int.rec (λJ=>Int) (λn=>vU n (Nat.succ m)) (λn=>.negSucc (Nat.succ (Nat.add m n))) b)) a)
noncomputable def qy(n:Nat):Int:=
 (@Jy (λJ=>Int) (.ofNat 0) (λm J=>.negSucc m) n)
noncomputable def za(a:Int):Int:=
 (@Int.rec (λJ=>Int) (λm=>qy m) (λm=>.ofNat (Nat.succ m)) a)
noncomputable def eR(a b:Int):Int:=
 cQ a (za b)
noncomputable def gC(a b:Int):Int:=
 (@Int.rec (λJ=>Int) (λm=>(@Int.rec (λJ=>Int) (λn=>.ofNat (Nat.mul m n)) (λn=>qy (Nat.mul m (Nat.succ n))) b)) (λm=>(@Int.rec (λJ=>Int) (λn=>qy (Nat.mul (Nat.succ m) n)) (λn=>.ofNat (Nat.mul (Nat.succ m) (Nat.succ n))) b)) a)
noncomputable def qH(a b:Int):Int:=
 (@Int.rec (λJ=>Int) (λm=>(@Int.rec (λJ=>Int) (λn=>.ofNat (Nat.div m n)) (λn=>(@Jy (λJ=>Int) (.ofNat 0) (λk J=>.negSucc (Nat.div k (Nat.succ n))) m)) b)) (λm=>(@Int.rec (λJ=>Int) (λn=>(@Jy (λJ=>Int) (.ofNat 0) (λk J=>.negSucc (Nat.div m (Nat.succ k))) n)) (λn=>.ofNat (Nat.div (Nat.succ m) (Nat.succ n))) b)) a)
noncomputable def qF(a b:Int):Int:=
 (@Int.rec (λJ=>Int) (λm=>(@Int.rec (λJ=>Int) (λn=>.ofNat (Nat.mod m n)) (λn=>(@Jy (λJ=>Int) (.ofNat 0) (λk J=>cQ (.negSucc n) (.ofNat (Nat.succ (Nat.mod k (Nat.succ n))))) m)) b)) (λm=>(@Int.rec (λJ=>Int) (λn=>eR (.ofNat n) (.ofNat (Nat.succ (Nat.mod m n)))) (λn=>qy (Nat.mod (Nat.succ m) (Nat.succ n))) b)) a)
noncomputable def gI(a:Int):Bool:=
 (@Int.rec (λJ=>Bool) (λn=>Nat.blt n 18446744073709551616) (λn=>Nat.blt n 18446744073709551615) a)
noncomputable def kR(a:Int):Nat:=
 (@Int.rec (λJ=>Nat) (λn=>n) (λJ=>0) a)
noncomputable def En(a:Int):Int:=
 (@Int.rec (λJ=>Int) (λn=>.ofNat n) (λn=>.ofNat (Nat.succ n)) a)
noncomputable def y9(a:Int)(n:Nat):Int:=
 @Jy (λJ=>Int) (.ofNat 1) (λJ ih=>gC ih a) n
noncomputable def lu(f:V->V->Option Bool)(l:List V):List V->Option Bool:=
 @Jq V (λJ=>List V->Option Bool) (λm=>(@Jq V (λJ=>Option Bool) (aa af) (λJ J J=>aa ag) m)) (λx J ih=>λm=>(@Jq V (λJ=>Option Bool) (aa ag) (λy r J=>(@Option.rec Bool (λJ=>Option Bool) (ae) (λb=>(@Jp (λJ=>Option Bool) (aa ag) (ih r) b)) (f x y))) m)) l
noncomputable def dw(n:Nat):V->V->Option Bool:=
 @Jy (λJ=>V->V->Option Bool) (λJ J=>ae) (λJ ih a b=>(vI (vT (vS (vL (vB (vN ae (vT (vN ae (aa af) b) (λJ=>aa ag) b) a) (λx=>(vB ae (λy=>aa (@Jp (λJ=>Bool) (kK y) (y) x)) b)) a) (λx=>(vL ae (λy=>(@Jp (λJ=>Option Bool) (aa ag) (lu ih x y) (Nat.beq (dA x) (dA y)))) b)) a) (λx=>(vS ae (λy=>aa (gM x y)) b)) a) (λx=>(vT (vN ae (aa ag) b) (λy=>lu ih x y) b)) a) (λx=>(vI ae (λy=>aa (pP x y)) b)) a)) n
noncomputable abbrev d7:Nat:=60
noncomputable def dD(l:List V)(x:V):Nat->Option (Option Nat):=
 @Jq V (λJ=>Nat->Option (Option Nat)) (λJ=>aa ae) (λk J ih=>λi=>(@Option.rec Bool (λJ=>Option (Option Nat)) (ae) (λb=>(@Option.rec (Option Nat) (λJ=>Option (Option Nat)) (ae) (λo=>(@Jp (λJ=>Option (Option Nat)) (aa o) ((@Option.rec Nat (λJ=>Option (Option Nat)) (aa (aa i)) (λJ=>ae) o)) b)) (ih (Nat.succ i)))) (dw d7 k x))) l
noncomputable def allB(f:V->Bool)(l:List V):Bool:=
 @Jq V (λJ=>Bool) (af) (λv J ih=>(@Jp (λJ=>Bool) (ag) (ih) (f v))) l
noncomputable def keyOk(n:Nat):V->Bool:=
 @Jy (λJ=>V->Bool) (λJ=>ag) (λJ ih v=>(vI (vT (vS ag (λJ=>af) v) (λl=>allB ih l) v) (λJ=>af) v)) n
noncomputable def bF(a b:V):Option V:=
 (vI (vT (vS (vL ae (λx=>(vL ae (λy=>(@Jp (λJ=>Option V) (ae) ((@Jp (λJ=>Option V) (ae) (aa (.lst (app x y))) (short lid y))) (short lid x))) b)) a) (λx=>(vS ae (λy=>(@Jp (λJ=>Option V) (ae) ((@Jp (λJ=>Option V) (ae) (aa (.str (app x y))) (short lid y))) (short lid x))) b)) a) (λx=>(vT ae (λy=>(@Jp (λJ=>Option V) (ae) ((@Jp (λJ=>Option V) (ae) (aa (.tup (app x y))) (short lid y))) (short lid x))) b)) a) (λx=>(vI ae (λy=>aa (.int (cQ x y))) b)) a)
noncomputable def El(x y:Bool):Int:=
 (@Jp (λJ=>Int) ((@Jp (λJ=>Int) (.ofNat 0) (.negSucc 0) y)) ((@Jp (λJ=>Int) (.ofNat 1) (.ofNat 0) y)) x)
noncomputable def bN(a b:V):Option V:=
 (vI (vB ae (λx=>(vB ae (λy=>aa (.int (El x y))) b)) a) (λx=>(vI ae (λy=>aa (.int (eR x y))) b)) a)
noncomputable def rep{α:Type}(n:Nat)(l:List α):List α:=
 @Jy (λJ=>List α) [] (λJ ih=>app l ih) n
noncomputable def bI(a b:V):Option V:=
 (vI (vL ae (λx=>(vI ae (λy=>(@Jp (λJ=>Option V) (ae) ((@Int.rec (λJ=>Option V) (λn=>(@Jp (λJ=>Option V) (ae) (aa (.lst (rep n x))) (Nat.blt n 300))) (λJ=>ae) y)) (short 8 x))) b)) a) (λx=>(vI ae (λy=>(@Jp (λJ=>Option V) ((@Jp (λJ=>Option V) (ae) (aa (.int (gC x y))) (gI y))) (aa (.int (gC x y))) (gI x))) b)) a)
noncomputable def iQ(f:Int->Int->Int)(a b:V):Option V:=
 (vI ae (λx=>(vI ae (λy=>aa (.int (f x y))) b)) a)
noncomputable def nv(op:Jb):V->V->Option V:=match op with
 | .Add=>iQ cQ
 | .Sub=>iQ eR
 | _=>λJ J=>ae
noncomputable def fw(a b:V):Option V:=
 (vI ae (λx=>(vI ae (λy=>(@Jp (λJ=>Option V) ((@Jp (λJ=>Option V) (ae) (aa (.int (qH x y))) (gI y))) (ae) (pP y (.ofNat 0)))) b)) a)
noncomputable def gA(a b:V):Option V:=
 (vI ae (λx=>(vI ae (λy=>(@Jp (λJ=>Option V) (aa (.int (qF x y))) (ae) (pP y (.ofNat 0)))) b)) a)
noncomputable def lL(a b:V):Option V:=
 (vI ae (λx=>(vI ae (λy=>(@Int.rec (λJ=>Option V) (λn=>(@Jp (λJ=>Option V) (ae) ((@Jp (λJ=>Option V) (ae) (aa (.int (y9 x n))) (Nat.blt n 1000))) (gI x))) (λJ=>ae) y)) b)) a)
noncomputable def Eg(op:Jb):V->V->Option V:=match op with
 | .Add=>bF
 | .Sub=>bN
 | .Mult=>bI
 | .FloorDiv=>fw
 | .Mod=>gA
 | .Pow=>lL
 | _=>λJ J=>ae
noncomputable def nV(o:Option Bool):Option V:=
 (@Option.rec Bool (λJ=>Option V) (ae) (λb=>aa (.bool b)) o)
noncomputable def yP(o:Option Bool):Option Bool:=
 (@Option.rec Bool (λJ=>Option Bool) (ae) (λb=>aa (kK b)) o)
noncomputable def xQ(x:V)(l:List V):Option Bool:=
 @Jq V (λJ=>Option Bool) (aa ag) (λy J ih=>(@Option.rec Bool (λJ=>Option Bool) (ae) (λb=>(@Jp (λJ=>Option Bool) (ih) (aa af) b)) (dw d7 y x))) l
noncomputable def Al(x c:V):Option Bool:=
 (vT (vL (vD ae (λks vs=>(@Jp (λJ=>Option Bool) (ae) ((@Option.rec (Option Nat) (λJ=>Option Bool) (ae) (λo=>(@Option.rec Nat (λJ=>Option Bool) (aa ag) (λJ=>aa af) o)) (dD ks x 0))) (keyOk 8 x))) c) (λl=>xQ x l) c) (λl=>xQ x l) c)
noncomputable def isNone(v:V):Bool:=
 (vN ag af v)
noncomputable def aS(a b:V):Option V:=
 nV (dw d7 a b)
noncomputable def dF(a b:V):Option V:=
 nV (yP (dw d7 a b))
noncomputable def eH(a b:V):Option V:=
 (vI (vS ae (λx=>(vS ae (λy=>aa (.bool (ir x y))) b)) a) (λx=>(vI ae (λy=>aa (.bool (oj x y))) b)) a)
noncomputable def sZ(a b:V):Option V:=
 (vI ae (λx=>(vI ae (λy=>aa (.bool (xR x y))) b)) a)
noncomputable def cR(a b:V):Option V:=
 (vI ae (λx=>(vI ae (λy=>aa (.bool (oj y x))) b)) a)
noncomputable def u9(a b:V):Option V:=
 (vI ae (λx=>(vI ae (λy=>aa (.bool (xR y x))) b)) a)
noncomputable def og(a b:V):Option V:=
 (vN ae (aa (.bool (isNone a))) b)
noncomputable def rS(a b:V):Option V:=
 (vN ae (aa (.bool (kK (isNone a)))) b)
noncomputable def m5(a b:V):Option V:=
 nV (Al a b)
noncomputable def yQ(a b:V):Option V:=
 nV (yP (Al a b))
noncomputable def Ea(op:CmpOp):V->V->Option V:=match op with
 | .Eq=>aS
 | .NotEq=>dF
 | .Lt=>eH
 | .LtE=>sZ
 | .Gt=>cR
 | .GtE=>u9
 | .Is=>og
 | .IsNot=>rS
 | .In=>m5
 | .NotIn=>yQ
noncomputable def pM(l:List V)(i:Int):Option V:=
 (@Int.rec (λJ=>Option V) (λn=>eY l n) (λn=>(@Jp (λJ=>Option V) (ae) (eY l (Nat.pred (Nat.sub (dA l) n))) (Nat.blt n (dA l)))) i)
noncomputable def aD(o i:V):Option V:=
 (vT (vL (vD ae (λks vs=>(@Jp (λJ=>Option V) (ae) ((@Option.rec (Option Nat) (λJ=>Option V) (ae) (λo=>(@Option.rec Nat (λJ=>Option V) (ae) (λn=>eY vs n) o)) (dD ks i 0))) (keyOk 8 i))) o) (λl=>(vI ae (λi=>pM l i) i)) o) (λl=>(vI ae (λi=>pM l i) i)) o)
noncomputable def pn{α:Type}(l:List α):Nat->List α:=
 @Jq α (λJ=>Nat->List α) (λJ=>[]) (λa J ih=>λn=>(@Jy (λJ=>List α) ([]) (λm J=>a::ih m) n)) l
noncomputable def nP{α:Type}(l:List α):Nat->List α:=
 @Jq α (λJ=>Nat->List α) (λJ=>[]) (λa r ih=>λn=>(@Jy (λJ=>List α) (a::r) (λm J=>ih m) n)) l
noncomputable def jZ(n:Nat)(i:Int):Nat:=
 (@Int.rec (λJ=>Nat) (λk=>@Jp (λJ=>Nat) n k (Nat.ble k n)) (λk=>Nat.sub n (Nat.succ k)) i)
noncomputable def mH(l:List V)(lo hi:Option Int):List V:=
 nP (pn l (@Option.rec Int (λJ=>Nat) (dA l) (λi=>jZ (dA l) i) hi)) (@Option.rec Int (λJ=>Nat) (0) (λi=>jZ (dA l) i) lo)
noncomputable def C3(l:List V)(lo hi:Option Int):Option V:=
 (@Option.rec Int (λJ=>Option V) ((@Option.rec Int (λJ=>Option V) (ae) (λi=>(@Int.rec (λJ=>Option V) (λn=>(@Jp (λJ=>Option V) (ae) ((@Jp (λJ=>Option V) (ae) (aa (.tup (nP l n))) (Nat.ble n (dA l)))) (Nat.ble 1 n))) (λJ=>ae) i)) lo)) (λJ=>ae) hi)
noncomputable def mG(o:V)(lo hi:Option Int):Option V:=
 (vT (vL ae (λl=>aa (.lst (mH l lo hi))) o) (λl=>C3 l lo hi) o)
noncomputable def cc(o:V):Option V:=
 (vT (vL (vD ae (λks vs=>aa (.int (.ofNat (dA ks)))) o) (λl=>aa (.int (.ofNat (dA l)))) o) (λl=>aa (.int (.ofNat (dA l)))) o)
noncomputable def iO(a b:Int):Int:=
 (@Jp (λJ=>Int) (a) (b) (oj a b))
noncomputable def DD(a b:Int):Int:=
 (@Jp (λJ=>Int) (a) (b) (oj b a))
noncomputable def allInts:List V->Option (List Int)
 | []=>aa []
 | .int i::r=>match allInts r with
  | some l=>aa (i::l)
  | none=>ae
 | _=>ae
noncomputable def iu:List Int->Int->Int
 | [],m=>m
 | i::r,m=>iu r (iO m i)
noncomputable def lD:List Int->Int->Int
 | [],m=>m
 | i::r,m=>lD r (cQ m i)
noncomputable def oU(x:Int):List Int->List Int
 | []=>[x]
 | y::r=>match oj x y with
  | true=>x::y::r
  | false=>y::oU x r
noncomputable def lI:List Int->List Int
 | []=>[]
 | x::r=>oU x (lI r)
noncomputable def allStrs:List V->Option (List (List Nat))
 | []=>aa []
 | .str i::r=>match allStrs r with
  | some l=>aa (i::l)
  | none=>ae
 | _=>ae
noncomputable def oS(x:List Nat):List (List Nat)->List (List Nat)
 | []=>[x]
 | y::r=>match ir x y with
  | true=>x::y::r
  | false=>y::oS x r
noncomputable def lG:List (List Nat)->List (List Nat)
 | []=>[]
 | x::r=>oS x (lG r)
noncomputable def rN(l:List V):Option (List V):=match short 60 l with
 | false=>ae
 | true=>match allInts l with
  | some is=>aa ((lI is).map .int)
  | none=>match allStrs l with
   | some ss=>aa ((lG ss).map .str)
   | none=>ae
noncomputable def nI:List V->List V->Option (List V)
 | [],_=>aa []
 | [.int a],[v]=>aa [.tup [.int a,v]]
 | [.int a,.int b],[v,w]=>@Jp (λJ=>Option (List V)) (@Jp (λJ=>Option (List V)) ae (aa [.tup [.int b,w],.tup [.int a,v]]) (oj b a)) (aa [.tup [.int a,v],.tup [.int b,w]]) (oj a b)
 | _,_=>ae
noncomputable def vz(ks:List V):List V->List V:=
 @Jq V (λJ=>List V->List V) (λJ=>[]) (λk J ih=>λm=>(@Jq V (λJ=>List V) ([]) (λv r J=>.tup [k,v]::ih r) m)) ks
noncomputable def oX(l:List V):Nat->List V:=
 @Jq V (λJ=>Nat->List V) (λJ=>[]) (λv J ih=>λn=>.tup [.int (.ofNat n),v]::ih (Nat.succ n)) l
noncomputable def cE(n:Nat):Int->List V:=
 @Jy (λJ=>Int->List V) (λJ=>[]) (λJ ih i=>.int i::ih (cQ i (.ofNat 1))) n
noncomputable def eV(ks vs:List V)(k v:V):Option (List V×List V):=
 (@Jp (λJ=>Option (List V×List V)) (ae) ((@Option.rec (Option Nat) (λJ=>Option (List V×List V)) (ae) (λo=>(@Option.rec Nat (λJ=>Option (List V×List V)) ((@Jp (λJ=>Option (List V×List V)) (ae) (aa (app ks [k],app vs [v])) (short lid ks))) (λn=>aa (ks,setAt vs n v)) o)) (dD ks k 0))) (keyOk 8 k))
noncomputable def fD{α:Type}(l:List α):Nat->List α:=
 @Jq α (λJ=>Nat->List α) (λJ=>[]) (λa r ih=>λn=>(@Jy (λJ=>List α) (r) (λm J=>a::ih m) n)) l
noncomputable def lU{α:Type}(l:List α):Nat->α->List α:=
 @Jq α (λJ=>Nat->α->List α) (λJ x=>[x]) (λa r ih=>λn x=>(@Jy (λJ=>List α) (x::a::r) (λm J=>a::ih m x) n)) l
noncomputable def Ae:V->Option (V×V)
 | .tup [k,v]=>aa (k,v)
 | _=>ae
noncomputable def dictOf:List V->List V->List V->Option V
 | [],ks,vs=>aa (.bh ks vs)
 | x::r,ks,vs=>(Ae x).bind λq=>(eV ks vs q.1 q.2).bind λs=>dictOf r s.1 s.2
noncomputable def ny:List V->Option Bool
 | []=>aa ag
 | .bool b::r=>match ny r with
  | some c=>aa (match b with
   | true=>af
   | false=>c)
  | none=>ae
 | _=>ae
noncomputable def digits:Nat->Nat->List Nat->List Nat
 | 0,_,acc=>acc
 | f+1,n,acc=>match Nat.blt n 10 with
  | true=>(48+n)::acc
  | false=>digits f (n / 10) ((48+n % 10)::acc)
noncomputable def itemsOf(v:V):Option (List V):=
 (vT (vL ae (λl=>aa l) v) (λl=>aa l) v)
noncomputable def j3(a:V):Option V:=
 (vI ae (λi=>aa (.int (En i))) a)
noncomputable def d0(a:V):Option V:=
 (@Option.rec (List V) (λJ=>Option V) (ae) (λl=>aa (.lst l)) (itemsOf a))
noncomputable def fW(a:V):Option V:=
 (vL ae (λl=>aa (.tup l)) a)
noncomputable def i4(a:Int):Bool:=
 (@Int.rec (λJ=>Bool) (λn=>Nat.blt n lid) (λn=>Nat.blt n lid) a)
noncomputable def gJ(a:V):Option V:=
 (vI ae (λi=>(@Jp (λJ=>Option V) (ae) (aa (.lst (cE (kR i) (.ofNat 0)))) (i4 i))) a)
noncomputable def kn(a:V):Option V:=
 (vL ae (λl=>aa (.lst (oX l 0))) a)
noncomputable def yD{α:Type}(l:List α):List α->List α:=
 @Jq α (λJ=>List α->List α) (λm=>m) (λa J ih=>λm=>ih (a::m)) l
noncomputable def lK(a:V):Option V:=
 (vL ae (λl=>aa (.lst (yD l []))) a)
noncomputable def i9(a:V):Option V:=
 (vD ae (λks vs=>aa (.lst (vz ks vs))) a)
noncomputable def anyF(a:V):Option V:=vL ae (λl=>nV (ny l)) a
noncomputable def nQ(a:V):Option V:=vL ae (λl=>dictOf l [] []) a
noncomputable def iI(a:V):Option V:=match a with
 | .lst l=>match rN l with
  | some r=>aa (.lst r)
  | none=>ae
 | .bh ks _=>match rN ks with
  | some r=>aa (.lst r)
  | none=>ae
 | _=>ae
set_option backward.eqns.nonrecursive false in
noncomputable def lF(a:V):Option V:=match a with
 | .int (.ofNat n)=>match Nat.blt n 1000 with
  | true=>aa (.str (digits 5 n []))
  | false=>ae
 | _=>ae
set_option backward.eqns.nonrecursive false in
noncomputable def dK(a:V):Option V:=match a with
 | .bh ks vs=>match nI ks vs with
  | some r=>aa (.lst r)
  | none=>ae
 | _=>ae
noncomputable def sumF(a:V):Option V:=vL ae (λl=>match allInts l with
  | some is=>aa (.int (lD is (.ofNat 0)))
  | none=>ae) a
noncomputable def qz(a:V):Option V:=match a with
 | .lst l=>match allInts l with
  | some (i::r)=>aa (.int (iu r i))
  | _=>ae
 | .bh l _=>match allInts l with
  | some (i::r)=>aa (.int (iu r i))
  | _=>ae
 | _=>ae
noncomputable def kg(a b:V):Option V:=
 (vI ae (λx=>(vI ae (λy=>aa (.int (iO x y))) b)) a)
noncomputable def wi(a b:V):Option V:=
 (vI ae (λx=>(vI ae (λy=>aa (.int (DD x y))) b)) a)
noncomputable def fF(a b:V):Option V:=
 (vI ae (λx=>(vI ae (λy=>(@Jp (λJ=>Option V) (ae) ((@Jp (λJ=>Option V) (ae) (aa (.lst (cE (kR (eR y x)) x))) (i4 y))) (i4 x))) b)) a)
noncomputable def cK(v:V):aA:=
 λJ J p=>.ok v p
noncomputable def aC(g:d6):aA:=
 λJ ρ p=>(@Slot.rec (λJ=>Res) (Res.stuck) (λv=>Res.ok v p) (λJ=>Res.stuck) (Res.stuck) (g ρ))
noncomputable def aG(g:d6):aA:=
 λJ ρ p=>(@Slot.rec (λJ=>Res) (Res.stuck) (λv=>Res.ok v p) (λv=>Res.ok v p) (Res.stuck) (g ρ))
noncomputable def c1(f:V->Option V)(x:aA):aA:=
 λc ρ p=>(@Res.rec (λJ=>Res) Res.stuck (λa p=>(@Option.rec V (λJ=>Res) (Res.stuck) (λv=>Res.ok v p) (f a))) Res.exc (x c ρ p))
noncomputable def c2(f:V->V->Option V)(x y:aA):aA:=
 λc ρ p=>(@Res.rec (λJ=>Res) Res.stuck (λa p=>(@Res.rec (λJ=>Res) Res.stuck (λb p=>(@Option.rec V (λJ=>Res) (Res.stuck) (λv=>Res.ok v p) (f a b))) Res.exc (y c ρ p))) Res.exc (x c ρ p))
noncomputable def ba(f:V->Option V)(x:aA):aA:=
 λc ρ p=>(@Res.rec (λJ=>Res) Res.stuck (λa p=>(@Option.rec V (λJ=>Res) (Res.stuck) (λv=>fS v λv=>Res.ok v p) (f a))) Res.exc (x c ρ p))
noncomputable def gh(f:V->Option V)(x:aA):aA:=
 λc ρ p=>(@Res.rec (λJ=>Res) Res.stuck (λa p=>(@Option.rec V (λJ=>Res) (Res.stuck) (λv=>fV v λv=>Res.ok v p) (f a))) Res.exc (x c ρ p))
noncomputable def aK(f:V->V->Option V)(x y:aA):aA:=
 λc ρ p=>(@Res.rec (λJ=>Res) Res.stuck (λa p=>(@Res.rec (λJ=>Res) Res.stuck (λb p=>(@Option.rec V (λJ=>Res) (Res.stuck) (λv=>fS v λv=>Res.ok v p) (f a b))) Res.exc (y c ρ p))) Res.exc (x c ρ p))
noncomputable def cF(x:aA):aA:=
 λc ρ p=>(@Res.rec (λJ=>Res) Res.stuck (λv p=>fS v λv=>Res.ok v p) Res.exc (x c ρ p))
noncomputable def fA(g:d6)(x:aA):aA:=
 λc ρ p=>(@Slot.rec (λJ=>Res) (Res.stuck) (λJ=>Res.stuck) (λJ=>Res.stuck) ((@Res.rec (λJ=>Res) Res.stuck (λi p=>(@Option.rec V (λJ=>Res) (Res.stuck) (λv=>Res.ok v p) (aD (V.lst p) i))) Res.exc (x c ρ p))) (g ρ))
noncomputable def gz(a:V):Option V:=
 (vI ae (λi=>aa (.int (za i))) a)
noncomputable def kJ(a:V):Option V:=
 (vB ae (λb=>aa (.bool (kK b))) a)
noncomputable def bo(t x y:aA):aA:=
 λc ρ p=>(@Res.rec (λJ=>Res) Res.stuck (λv p=>(vB Res.stuck (λq=>(@Jp (λJ=>Res) (y c ρ p) (x c ρ p) q)) v)) Res.exc (t c ρ p))
noncomputable def cC(x y:aA):aA:=
 λc ρ p=>(@Res.rec (λJ=>Res) Res.stuck (λv p=>(vB Res.stuck (λq=>(@Jp (λJ=>Res) (Res.ok (V.bool ag) p) (y c ρ p) q)) v)) Res.exc (x c ρ p))
noncomputable def je(x y:aA):aA:=
 λc ρ p=>(@Res.rec (λJ=>Res) Res.stuck (λv p=>(vB Res.stuck (λq=>(@Jp (λJ=>Res) (y c ρ p) (Res.ok (V.bool af) p) q)) v)) Res.exc (x c ρ p))
noncomputable def bB(xs:List aA):G:=
 @Jq aA (λJ=>G) (λJ J p=>aI.ok [] p) (λx J ih=>λc ρ p=>(@Res.rec (λJ=>aI) aI.stuck (λv p=>(@aI.rec (λJ=>aI) aI.stuck (λl p=>aI.ok (v::l) p) aI.exc (ih c ρ p))) aI.exc (x c ρ p))) xs
noncomputable def aF(xs:List aA):aA:=
 λc ρ p=>(@aI.rec (λJ=>Res) Res.stuck (λl p=>Res.ok (V.tup l) p) Res.exc (bB xs c ρ p))
noncomputable def aH(xs:List aA):aA:=
 λc ρ p=>(@aI.rec (λJ=>Res) Res.stuck (λl p=>Res.ok (V.lst l) p) Res.exc (bB xs c ρ p))
noncomputable def sQ(e:Option aA)(c:Call)(ρ:Fr)(p:List V)(k:Option Int->List V->Res):Res:=
 (@Option.rec aA (λJ=>Res) (k ae p) (λd=>(@Res.rec (λJ=>Res) Res.stuck (λa p=>(vI Res.stuck (λi=>k (aa i) p) a)) Res.exc (d c ρ p))) e)
noncomputable def dp(x:aA)(lo hi:Option aA):aA:=
 λc ρ p=>(@Res.rec (λJ=>Res) Res.stuck (λo p=>sQ lo c ρ p (λj p=>sQ hi c ρ p (λi p=>(@Option.rec V (λJ=>Res) (Res.stuck) (λv=>Res.ok v p) (mG o j i))))) Res.exc (x c ρ p))
noncomputable def m9(o a b:V):Option V:=
 (vD ae (λks vs=>(@Jp (λJ=>Option V) (ae) ((@Option.rec (Option Nat) (λJ=>Option V) (ae) (λq=>(@Option.rec Nat (λJ=>Option V) (aa b) (λn=>eY vs n) q)) (dD ks a 0))) (keyOk 8 a))) o)
noncomputable def kO(x k d:aA):aA:=
 λc ρ p=>(@Res.rec (λJ=>Res) Res.stuck (λo p=>(vD Res.stuck (λks vs=>(@Res.rec (λJ=>Res) Res.stuck (λa p=>(@Res.rec (λJ=>Res) Res.stuck (λb p=>(@Option.rec V (λJ=>Res) (Res.stuck) (λv=>Res.ok v p) (m9 (V.bh ks vs) a b))) Res.exc (d c ρ p))) Res.exc (k c ρ p))) o)) Res.exc (x c ρ p))
noncomputable def gQ(a:V):Option V:=
 (vT (vS (vL ae (λJ=>aa (.bool ag)) a) (λJ=>aa (.bool af)) a) (λJ=>aa (.bool ag)) a)
inductive eN where
 | one (s:bT)
 | two (s t:bT)
noncomputable def d4(t:eN)(v:V)(ρ:Fr):Option Fr:=
 @eN.rec (λJ=>Option Fr) (λs=>aa (s ρ (.val v))) (λs t=>(vT ae (λl=>(@Jq V (λJ=>Option Fr) (ae) (λa r J=>(@Jq V (λJ=>Option Fr) (ae) (λb r J=>(@Jq V (λJ=>Option Fr) (aa (t (s ρ (.val a)) (.val b))) (λJ J J=>ae) r)) r)) l)) v)) t
theorem yV{α β:Type}{f:α->α->β}{l:List α}{r:β}(h:(@Jq α (λJ=>Option β) ae (λa r J=>(@Jq α (λJ=>Option β) ae (λb r J=>(@Jq α (λJ=>Option β) (aa (f a b)) (λJ J J=>ae) r)) r)) l)=aa r):∃u w,l=[u,w]/\r=f u w:=by
 rcases l with _|⟨u,_|⟨w,_|⟨x,l⟩⟩⟩<;>first|exact nS h|exact⟨u,w,rfl,(Jd h).symm⟩
theorem nq{a b:bT}{v:V}{ρ ρ':Fr}(e:d4 (.two a b) v ρ=aa ρ'):∃u w,v=.tup [u,w]/\ρ'=b (a ρ (.val u)) (.val w):=(zV e).elim λl q=>(yV q.2).elim λu q2=>q2.elim λw q3=>⟨u,w,q.1.trans (congrArg V.tup q3.1),q3.2⟩
noncomputable def tests(ts:List aA):aA:=
 @Jq aA (λJ=>aA) (λJ J p=>Res.ok (V.bool af) p) (λt J ih=>λc ρ p=>(@Res.rec (λJ=>Res) Res.stuck (λv p=>(vB Res.stuck (λq=>(@Jp (λJ=>Res) (Res.ok (V.bool ag) p) (ih c ρ p) q)) v)) Res.exc (t c ρ p))) ts
noncomputable def clause(t:eN)(conds:List aA)(inner:G)(c:Call)(ρ:Fr)(l:List V):List V->aI:=
 @Jq V (λJ=>List V->aI) (λp=>aI.ok [] p) (λv J ih=>λp=>(@Option.rec Fr (λJ=>aI) (aI.stuck) (λρ'=>(@Res.rec (λJ=>aI) aI.stuck (λb p=>(vB aI.stuck (λq=>(@Jp (λJ=>aI) (ih p) ((@aI.rec (λJ=>aI) aI.stuck (λl p=>(@aI.rec (λJ=>aI) aI.stuck (λm p=>aI.ok (app l m) p) aI.exc (ih p))) aI.exc (inner c ρ' p))) q)) b)) aI.exc (tests conds c ρ' p))) (d4 t v ρ))) l
noncomputable def cu(x:aA):G:=
 λc ρ p=>(@Res.rec (λJ=>aI) aI.stuck (λv p=>aI.ok [v] p) aI.exc (x c ρ p))
noncomputable def cg(t:eN)(src:aA)(conds:List aA)(inner:G):G:=
 λc ρ p=>(@Res.rec (λJ=>aI) aI.stuck (λv p=>(@Option.rec (List V) (λJ=>aI) (aI.stuck) (λl=>clause t conds inner c ρ l p) (itemsOf v))) aI.exc (src c ρ p))
noncomputable def bQ(g:G):aA:=
 λc ρ p=>(@aI.rec (λJ=>Res) Res.stuck (λl p=>(@Jp (λJ=>Res) (Res.stuck) (Res.ok (V.lst l) p) (short lid l))) (λJ J=>Res.stuck) (g c ρ p))
noncomputable def eX:List V->V->List V->List V->Option V
 | [],_,ks,vs=>aa (.bh ks vs)
 | k::r,v,ks,vs=>match eV ks vs k v with
  | some (ks,vs)=>eX r v ks vs
  | none=>ae
noncomputable def ub(g:G)(v:V):aA:=
 λc ρ p=>(@aI.rec (λJ=>Res) Res.stuck (λl p=>(@Jp (λJ=>Res) (Res.stuck) ((@Option.rec V (λJ=>Res) (Res.stuck) (λv=>Res.ok v p) (eX l v [] []))) (short lid l))) (λJ J=>Res.stuck) (g c ρ p))
noncomputable def gg(gs:List d6)(x:aA):aA:=
 @Jq d6 (λJ=>aA) (x) (λg J ih=>λc ρ p=>(@Slot.rec (λJ=>Res) (ih c ρ p) (λJ=>ih c ρ p) (λJ=>Res.stuck) (ih c ρ p) (g ρ))) gs
inductive bk where
 | slot (g:d6)
 | exp (x:aA)
noncomputable def dq(xs:List bk):Call->Fr->List V->aV:=
 @Jq bk (λJ=>Call->Fr->List V->aV) (λJ J p=>aV.ok [] p) (λx J ih=>λc ρ p=>@bk.rec (λJ=>aV) (λg=>(@Slot.rec (λJ=>aV) (aV.stuck) (λv=>(@aV.rec (λJ=>aV) aV.stuck (λl p=>aV.ok (Slot.val v::l) p) aV.exc (ih c ρ p))) (λJ=>aV.stuck) ((@aV.rec (λJ=>aV) aV.stuck (λl p=>aV.ok (Slot.aE::l) p) aV.exc (ih c ρ p))) (g ρ))) (λx=>(@Res.rec (λJ=>aV) aV.stuck (λv p=>(@aV.rec (λJ=>aV) aV.stuck (λl p=>aV.ok (Slot.val v::l) p) aV.exc (ih c ρ p))) aV.exc (x c ρ p))) x) xs
noncomputable def jL(r:Res)(p:List V):Res:=
 @Res.rec (λJ=>Res) Res.stuck (λv J=>Res.ok v p) (λk J=>Res.exc k p) r
noncomputable def lk(l:List Slot):Bool:=
 @Jq Slot (λJ=>Bool) (ag) (λs J ih=>(@Slot.rec (λJ=>Bool) (ih) (λJ=>ih) (λJ=>ih) (af) s)) l
noncomputable def nT(c:Call)(f:Nat)(l:List Slot)(p:List V):Res:=
 (@Jp (λJ=>Res) (jL (c f l []) p) (c f l p) (lk l))
noncomputable def ah(f:Nat)(xs:List bk):aA:=
 λc ρ p=>(@aV.rec (λJ=>Res) Res.stuck (λl p=>nT c f l p) Res.exc (dq xs c ρ p))
noncomputable def j2:List d6->Fr->Option (List V)
 | [],_=>aa []
 | g::gs,ρ=>match g ρ with
  | .val v=>match j2 gs ρ with
   | some l=>aa (v::l)
   | none=>ae
  | _=>ae
noncomputable def uc(f:Nat)(gs:List d6):aA:=λJ ρ p=>match j2 gs ρ with
 | some l=>.ok (.clo f l) p
 | none=>.stuck
noncomputable def o6(g:d6)(x:aA):aA:=λc ρ p=>match g ρ with
 | .val (.clo f caps)=>match x c ρ p with
  | .ok v p=>jL (c f (.val v::caps.map .val) []) p
  | .stuck=>.stuck
  | .exc e p=>.exc e p
 | _=>.stuck
noncomputable def aN:bj:=
 λJ ρ p=>.next ρ p
noncomputable def ak(a b:bj):bj:=
 λc ρ p=>(@ai.rec (λJ=>ai) ai.stuck (b c) ai.brk ai.cont ai.ret ai.exc (a c ρ p))
noncomputable def v7(x:aA):bj:=
 λc ρ p=>(@Res.rec (λJ=>ai) ai.stuck (λJ p=>ai.next ρ p) (λe p=>ai.exc e ρ p) (x c ρ p))
noncomputable def aM(s:bT)(x:aA):bj:=
 λc ρ p=>(@Res.rec (λJ=>ai) ai.stuck (λv p=>ai.next (s ρ (Slot.val v)) p) (λe p=>ai.exc e ρ p) (x c ρ p))
noncomputable def iK(s:bT)(x:aA):bj:=
 λc ρ p=>(@Res.rec (λJ=>ai) ai.stuck (λv p=>ai.next (s ρ (Slot.own v)) p) (λe p=>ai.exc e ρ p) (x c ρ p))
noncomputable def dP(g:d6)(s:bT):bj:=
 λJ ρ p=>(@Slot.rec (λJ=>ai) (ai.next ρ p) (λJ=>ai.next ρ p) (λv=>ai.next (s ρ (Slot.val v)) p) (ai.next ρ p) (g ρ))
noncomputable def jK(own:Bool)(v:V):Slot:=
 (@Jp (λJ=>Slot) (Slot.val v) (Slot.own v) own)
noncomputable def storeAll(ts:List (bT×Bool)):List V->Fr->Option Fr:=
 @Jq (bT×Bool) (λJ=>List V->Fr->Option Fr) (λl ρ=>(@Jq V (λJ=>Option Fr) (aa ρ) (λJ J J=>ae) l)) (λt J ih=>λl ρ=>(@Jq V (λJ=>Option Fr) (ae) (λv r J=>ih r (t.1 ρ (jK t.2 v))) l)) ts
noncomputable def bO(ts:List (bT×Bool))(xs:List aA):bj:=
 λc ρ p=>(@aI.rec (λJ=>ai) ai.stuck (λl p=>(@Option.rec Fr (λJ=>ai) (ai.stuck) (λρ=>ai.next ρ p) (storeAll ts l ρ))) (λe p=>ai.exc e ρ p) (bB xs c ρ p))
noncomputable def vals(ss:List bT):List (bT×Bool):=
 @Jq bT (λJ=>List (bT×Bool)) ([]) (λs J ih=>(s,ag)::ih) ss
noncomputable def gy(js:List bT)(x:aA):bj:=
 λc ρ p=>(@Res.rec (λJ=>ai) ai.stuck (λv p=>(@Option.rec (List V) (λJ=>ai) (ai.stuck) (λl=>(@Option.rec Fr (λJ=>ai) (ai.stuck) (λρ=>ai.next ρ p) (storeAll (vals js) l ρ))) (itemsOf v))) (λe p=>ai.exc e ρ p) (x c ρ p))
noncomputable def putAt(l:List V)(i:Int)(v:V):Option (List V):=
 (@Int.rec (λJ=>Option (List V)) (λn=>(@Jp (λJ=>Option (List V)) (ae) (aa (setAt l n v)) (Nat.blt n (dA l)))) (λJ=>ae) i)
noncomputable def oO(o i v:V):Option V:=
 (vL (vD ae (λks vs=>(@Option.rec (List V×List V) (λJ=>Option V) (ae) (λq=>aa (.bh q.1 q.2)) (eV ks vs i v))) o) (λl=>(vI ae (λi=>(@Option.rec (List V) (λJ=>Option V) (ae) (λl=>aa (.lst l)) (putAt l i v))) i)) o)
noncomputable def jP(g:d6)(s:bT)(ρ:Fr)(p:List V)(f:V->Option V):ai:=
 (@Slot.rec (λJ=>ai) (ai.stuck) (λJ=>ai.stuck) (λo=>(@Option.rec V (λJ=>ai) (ai.stuck) (λo=>fS o λo=>ai.next (s ρ (Slot.own o)) p) (f o))) ((@Option.rec V (λJ=>ai) (ai.stuck) (λo=>(vL ai.stuck (λp=>ai.next ρ p) o)) (f (V.lst p)))) (g ρ))
noncomputable def hZ(g:d6)(s:bT)(ρ:Fr)(p:List V)(f:V->Option V):ai:=
 (@Slot.rec (λJ=>ai) (ai.stuck) (λJ=>ai.stuck) (λo=>(@Option.rec V (λJ=>ai) (ai.stuck) (λo=>fS o λo=>ai.next (s ρ (Slot.own o)) p) (f o))) (ai.stuck) (g ρ))
noncomputable def fq(g:d6)(s:bT)(i x:aA):bj:=
 λc ρ p=>(@Res.rec (λJ=>ai) ai.stuck (λv p=>(@Slot.rec (λJ=>ai) (ai.stuck) (λJ=>ai.stuck) (λJ=>(@Res.rec (λJ=>ai) ai.stuck (λi p=>jP g s ρ p λo=>oO o i v) (λe p=>ai.exc e ρ p) (i c ρ p))) ((@Res.rec (λJ=>ai) ai.stuck (λi p=>jP g s ρ p λo=>oO o i v) (λe p=>ai.exc e ρ p) (i c ρ p))) (g ρ))) (λe p=>ai.exc e ρ p) (x c ρ p))
noncomputable def zG(v o:V):Option V:=
 (vL ae (λl=>(@Jp (λJ=>Option V) (ae) (aa (.lst (app l [v]))) (short lid l))) o)
noncomputable def wD(v o:V):Option V:=
 (vL ae (λl=>(vL ae (λm=>(@Jp (λJ=>Option V) (ae) ((@Jp (λJ=>Option V) (ae) (aa (.lst (app l m))) (short lid m))) (short lid l))) v)) o)
noncomputable def wt(i v o:V):Option V:=
 (vL ae (λl=>(vI ae (λi=>(@Int.rec (λJ=>Option V) (λn=>(@Jp (λJ=>Option V) (ae) ((@Jp (λJ=>Option V) (ae) (aa (.lst (lU l n v))) (short lid l))) (Nat.blt n 4000))) (λJ=>ae) i)) i)) o)
noncomputable def ee(g:d6)(s:bT)(x:aA):bj:=
 λc ρ p=>(@Slot.rec (λJ=>ai) (ai.stuck) (λJ=>ai.stuck) (λo=>(vL ai.stuck (λJ=>@Res.rec (λJ=>ai) ai.stuck (λv p=>hZ g s ρ p (zG v)) (λe p=>ai.exc e ρ p) (x c ρ p)) o)) (ai.stuck) (g ρ))
noncomputable def qp(g:d6)(s:bT)(x:aA):bj:=
 λc ρ p=>(@Slot.rec (λJ=>ai) (ai.stuck) (λJ=>ai.stuck) (λo=>(vL ai.stuck (λJ=>@Res.rec (λJ=>ai) ai.stuck (λv p=>hZ g s ρ p (wD v)) (λe p=>ai.exc e ρ p) (x c ρ p)) o)) (ai.stuck) (g ρ))
noncomputable def sA(g:d6)(s:bT)(i x:aA):bj:=
 λc ρ p=>(@Slot.rec (λJ=>ai) (ai.stuck) (λJ=>ai.stuck) (λo=>(vL ai.stuck (λJ=>@Res.rec (λJ=>ai) ai.stuck (λi p=>(@Res.rec (λJ=>ai) ai.stuck (λv p=>hZ g s ρ p (wt i v)) (λe p=>ai.exc e ρ p) (x c ρ p))) (λe p=>ai.exc e ρ p) (i c ρ p)) o)) (ai.stuck) (g ρ))
noncomputable def fZ:List V->Option (List V×V)
 | []=>ae
 | [v]=>aa ([],v)
 | v::w::r=>match fZ (w::r)with
  | some (l,x)=>aa (v::l,x)
  | none=>ae
noncomputable def jj(ts:List bT)(g:d6)(s:bT):bj:=λJ ρ p=>match g ρ with
 | .own (.lst l)=>match fZ l with
  | some (l,v)=>match ts with
   | [t]=>.next (t (s ρ (.own (.lst l))) (.val v)) p
   | _=>match itemsOf v with
    | some m=>match storeAll (vals ts) m (s ρ (.own (.lst l)))with
     | some ρ=>.next ρ p
     | none=>.stuck
    | none=>.stuck
  | none=>.stuck
 | _=>.stuck
noncomputable def lJ(t:bT)(g:d6)(s:bT)(k d:aA):bj:=λc ρ p=>match g ρ with
 | .own (.bh ks vs)=>match k c ρ p with
  | .ok k p=>match d c ρ p with
   | .ok d p=>match keyOk 8 k with
    | true=>match dD ks k 0 with
     | some (aa n)=>match eY vs n with
      | some v=>.next (t (s ρ (.own (.bh (fD ks n) (fD vs n)))) (.val v)) p
      | none=>.stuck
     | some ae=>.next (t ρ (.val d)) p
     | none=>.stuck
    | false=>.stuck
   | .stuck=>.stuck
   | .exc e p=>.exc e ρ p
  | .stuck=>.stuck
  | .exc e p=>.exc e ρ p
 | _=>.stuck
noncomputable def aR(t:aA)(a b:bj):bj:=
 λc ρ p=>(@Res.rec (λJ=>ai) ai.stuck (λv p=>(vB ai.stuck (λq=>(@Jp (λJ=>ai) (b c ρ p) (a c ρ p) q)) v)) (λe p=>ai.exc e ρ p) (t c ρ p))
noncomputable def forL(t:eN)(body:bj)(c:Call)(l:List V):Fr->List V->ai:=
 @Jq V (λJ=>Fr->List V->ai) (λρ p=>ai.next ρ p) (λv J ih=>λρ p=>(@Option.rec Fr (λJ=>ai) (ai.stuck) (λρ=>(@ai.rec (λJ=>ai) ai.stuck ih ai.next ih ai.ret ai.exc (body c ρ p))) (d4 t v ρ))) l
noncomputable def cA(t:eN)(x:aA)(body:bj):bj:=
 λc ρ p=>(@Res.rec (λJ=>ai) ai.stuck (λv p=>(@Option.rec (List V) (λJ=>ai) (ai.stuck) (λl=>forL t body c l ρ p) (itemsOf v))) (λe p=>ai.exc e ρ p) (x c ρ p))
noncomputable def ib(t:aA)(body:bj)(c:Call)(n:Nat):Fr->List V->ai:=
 @Jy (λJ=>Fr->List V->ai) (λJ J=>ai.stuck) (λJ ih ρ p=>(@Res.rec (λJ=>ai) ai.stuck (λv p=>(vB ai.stuck (λq=>(@Jp (λJ=>ai) (ai.next ρ p) ((@ai.rec (λJ=>ai) ai.stuck ih ai.next ih ai.ret ai.exc (body c ρ p))) q)) v)) (λe p=>ai.exc e ρ p) (t c ρ p))) n
noncomputable abbrev turns:Nat:=1000
noncomputable def cq(t:aA)(body:bj):bj:=
 λc ρ p=>ib t body c turns ρ p
noncomputable def ax(x:aA):bj:=
 λc ρ p=>(@Res.rec (λJ=>ai) ai.stuck (λv p=>ai.ret v ρ p) (λe p=>ai.exc e ρ p) (x c ρ p))
noncomputable def v8:bj:=
 λJ ρ p=>.cont ρ p
noncomputable def dW(k x:aA):bj:=λc ρ p=>match k c ρ p with
 | .ok k p=>match x c ρ p with
  | .ok t p=>match k with
   | .str k=>match t with
    | .str t=>match short lid k with
     | true=>match short lid t with
      | true=>.exc k ρ p
      | false=>.stuck
     | false=>.stuck
    | _=>.stuck
   | _=>.stuck
  | .stuck=>.stuck
  | .exc e p=>.exc e ρ p
 | .stuck=>.stuck
 | .exc e p=>.exc e ρ p
noncomputable def mR:Fr:=
 (Fr.mk Slot.undef Slot.undef Slot.undef Slot.undef Slot.undef Slot.undef Slot.undef Slot.undef Slot.undef Slot.undef Slot.undef Slot.undef Slot.undef Slot.undef Slot.undef Slot.undef)
noncomputable def rP(x:aA):bj:=
 λc ρ p=>(@Res.rec (λJ=>ai) ai.stuck (λv p=>ai.ret v ρ p) (λk p=>ai.ret (V.str k) mR p) (x c ρ p))
structure aB where
 np:Nat
 body:bj
inductive Tab where
 | nil
 | leaf (d:aB)
 | node (k:Nat) (l r:Tab)
noncomputable def Tab.get(t:Tab):Nat->Option aB:=
 @Tab.rec (λJ=>Nat->Option aB) (λJ=>ae) (λd J=>aa d) (λk J J l r n=>(@Jp (λJ=>Option aB) (r n) (l n) (Nat.blt n k))) t
noncomputable def fill(l:List Slot):Fr:=
 (@Jq Slot (λJ=>Fr) ((Fr.mk Slot.undef Slot.undef Slot.undef Slot.undef Slot.undef Slot.undef Slot.undef Slot.undef Slot.undef Slot.undef Slot.undef Slot.undef Slot.undef Slot.undef Slot.undef Slot.undef)) (λa4 r4 J=>(@Jq Slot (λJ=>Fr) ((Fr.mk a4 Slot.undef Slot.undef Slot.undef Slot.undef Slot.undef Slot.undef Slot.undef Slot.undef Slot.undef Slot.undef Slot.undef Slot.undef Slot.undef Slot.undef Slot.undef)) (λa3 r3 J=>(@Jq Slot (λJ=>Fr) ((Fr.mk a4 a3 Slot.undef Slot.undef Slot.undef Slot.undef Slot.undef Slot.undef Slot.undef Slot.undef Slot.undef Slot.undef Slot.undef Slot.undef Slot.undef Slot.undef)) (λa2 r2 J=>(@Jq Slot (λJ=>Fr) ((Fr.mk a4 a3 a2 Slot.undef Slot.undef Slot.undef Slot.undef Slot.undef Slot.undef Slot.undef Slot.undef Slot.undef Slot.undef Slot.undef Slot.undef Slot.undef)) (λa1 r1 J=>(Fr.mk a4 a3 a2 a1 Slot.undef Slot.undef Slot.undef Slot.undef Slot.undef Slot.undef Slot.undef Slot.undef Slot.undef Slot.undef Slot.undef Slot.undef)) r2)) r3)) r4)) l)
noncomputable def gn(d:aB)(c:Call)(args:List Slot)(p:List V):Res:=
 (@Jp (λJ=>Res) (Res.stuck) (@ai.rec (λJ=>Res) Res.stuck (λJ p=>Res.ok V.none p) (λJ J=>Res.stuck) (λJ J=>Res.stuck) (λv J p=>Res.ok v p) (λk J p=>Res.exc k p) (d.body c (fill args) p)) (Nat.beq (dA args) d.np))
noncomputable abbrev iC:=Nat->Option (Nat->List Slot->Option V)
noncomputable def bw(T:Tab)(o:iC)(n:Nat):Call:=
 @Jy (λJ=>Call) (λJ J J=>Res.stuck) (λn ih f args p=>(@Option.rec (Nat->List Slot->Option V) (λJ=>Res) ((@Option.rec aB (λJ=>Res) (Res.stuck) (λd=>gn d ih args p) (T.get f))) (λg=>(@Option.rec V (λJ=>Res) ((@Option.rec aB (λJ=>Res) (Res.stuck) (λd=>gn d ih args p) (T.get f))) (λv=>Res.ok v p) (g n args))) (o f))) n
end
noncomputable section
structure Cx where
 sc:List (Str×NameKind)
 vars:List (Str×Nat)
 muts:List Str
 fns:List (Str×Nat)
 glb:List (Str×V)
 next:Nat
 lam:Nat
 caps:List Str
noncomputable def Cx.d5(cx:Cx)(x:Str):Bool:=cx.sc.lookup x==aa .globalImplicit
noncomputable def bc (x:Str):Bool:=x !=("__debug__" : Str)&&x !=("__classdict__" : Str)
noncomputable abbrev CE:=Option (aA×List Nat)
noncomputable def vh:List (Str×(V->Option V)):=[("len",cc),("abs",j3),("any",anyF),("dict",nQ),("list",d0),("tuple",fW),("sorted",iI),("str",lF),("sum",sumF),("max",qz)]
noncomputable def vg:List (Str×(V->V->Option V)):=[("max",kg),("min",wi)]
noncomputable def u3:List (Str×(aA->aA)):=[("range",gh gJ),("enumerate",gh kn),("reversed",ba lK)]
inductive HV where
 | name (x:Str)
 | att (o:Expr) (m:Str) (p:Pos)
 | call (f:Expr) (as:List Expr) (ks:List Keyword) (p:Pos)
 | con (c:Const)
 | un (op:UnaryOp) (e:Expr)
 | sli (lo hi st:Option Expr)
 | tup (es:List Expr)
 | sub (o i:Expr)
 | no
noncomputable def HV.ctorIdx(x:HV):Nat:=HV.casesOn x (λJ=>0) (λJ J J=>1) (λJ J J J=>2) (λJ=>3) (λJ J=>4) (λJ J J=>5) (λJ=>6) (λJ J=>7) 8
noncomputable def hv:Expr->HV
 | .Name x _=>.name x
 | .Attribute o m p=>.att o m p
 | .Call f as ks p=>.call f as ks p
 | .Constant c _ _=>.con c
 | .UnaryOp op e _=>.un op e
 | .Slice lo hi st _=>.sli lo hi st
 | .Tuple es _ _=>.tup es
 | .Subscript o i _=>.sub o i
 | _=>.no
noncomputable def gu(e:Expr):Option Str:=match hv e with
 | .name x=>aa x
 | _=>ae
noncomputable def Dy:List CmpOp->List Expr->Option (CmpOp×Expr)
 | [op],[r]=>aa (op,r)
 | _,_=>ae
inductive ya where
 | two (lo hi:Option Expr)
 | rev
 | no
noncomputable def ya.ctorIdx(x:ya):Nat:=ya.casesOn x (λJ J=>0) 1 2
noncomputable def qO(e:Expr):Option Const:=match hv e with
 | .con c=>aa c
 | _=>ae
noncomputable def wh(e:Expr):Bool:=match hv e with
 | .un op e=>match op,qO e with
  | .USub,aa c=>(match c with|.int i=>decide (i=1)|_=>ag)
  | _,_=>ag
 | _=>ag
noncomputable def uH(e:Expr):ya:=match hv e with
 | .sli lo hi st=>match st with
  | none=>.two lo hi
  | some e=>match wh e&&lo.isNone&&hi.isNone with
   | true=>.rev
   | false=>.no
 | _=>.no
noncomputable def wO(e:Expr):Option Bool:=match qO e with
 | some c=>(match c with|.bool v=>aa v|_=>ae)
 | none=>ae
noncomputable def qb(e:Expr):Option (Expr×List Expr×Pos):=match hv e with
 | .call f as ks cp=>match ks with
  | []=>aa (f,as,cp)
  | _=>ae
 | _=>ae
noncomputable def o7(e:Expr):Option (Expr×Str×Pos):=match hv e with
 | .att o m ap=>aa (o,m,ap)
 | _=>ae
noncomputable def gB{α:Type}(b:Bool)(o:Option α):Option α:=match b with
 | true=>o
 | false=>ae
noncomputable def kE(e:Expr):Option (List Expr):=match hv e with
 | .tup es=>aa es
 | _=>ae
noncomputable def Aj(e:Expr):Option (Expr×Str×Pos×Pos):=(qb e).bind λq=>match q.2.1 with
 | []=>(o7 q.1).bind λr=>aa (r.1,r.2.1,r.2.2,q.2.2)
 | _=>ae
noncomputable def Ak:List Expr->Option (Expr×Str×Pos×Pos)
 | [e]=>Aj e
 | _=>ae
noncomputable def mT(e:Expr):Option (Str×List Expr×Pos):=(qb e).bind λq=>(gu q.1).bind λx=>aa (x,q.2)
noncomputable def qc(e:Expr):Option (Str×Str×Pos×List Expr×Pos):=(qb e).bind λq=>(o7 q.1).bind λr=>(gu r.1).bind λx=>aa (x,r.2.1,r.2.2,q.2)
noncomputable def yE:Stmt->Option Expr
 | .Return e _=>e
 | _=>ae
noncomputable def xn(e c:Option Expr):Option (Str×Expr×Expr):=match c with
 | some _=>ae
 | none=>e.bind λe=>(mT e).bind λq=>match q.2.1 with
  | [k,x]=>aa (q.1,k,x)
  | _=>ae
noncomputable def DR:ExceptHandler->Option (Str×Str×Str×Str)
 | .ExceptHandler t n b _=>t.bind λe=>n.bind λn=>match b with
  | [s]=>(gu e).bind λc=>(yE s).bind λv=>(o7 v).bind λr=>(gu r.1).bind λm=>aa (c,n,m,r.2.1)
  | _=>ae
inductive vy where
 | nm (x:Str)
 | tp (ts:List Expr)
 | sub (x:Str) (i:Expr)
 | no
noncomputable def vy.ctorIdx(x:vy):Nat:=vy.casesOn x (λJ=>0) (λJ=>1) (λJ J=>2) 3
noncomputable def sj(e:Expr):vy:=match hv e with
 | .name x=>.nm x
 | .tup ts=>.tp ts
 | .sub o i=>match gu o with
  | some x=>.sub x i
  | none=>.no
 | _=>.no
noncomputable def qW:List Expr->vy
 | [e]=>sj e
 | _=>.no
set_option backward.eqns.nonrecursive false in
noncomputable def sR:Expr->Bool
 | .Call (.Name _ _) [] _ _=>ag
 | _=>af
noncomputable def jS(o:Expr)(apos pos:Pos):Bool:=sR o&&apos.endLine==pos.line
noncomputable def tW:Const->Option V
 | .none=>aa .none
 | .bool b=>aa (.bool b)
 | .int i=>aa (.int i)
 | .str s=>aa (.str s.cps.toList)
 | _=>ae
noncomputable def lC(vars:List (Str×Nat))(e:Expr):Option eN:=match sj e with
 | .nm x=>(vars.lookup x).map λj=>.one (sets j)
 | .tp ts=>match ts with
  | [a,b]=>(gu a).bind λx=>(gu b).bind λy=>(vars.lookup x).bind λj=>(vars.lookup y).map λk=>.two (sets j) (sets k)
  | _=>ae
 | _=>ae
noncomputable def ff(cx:Cx)(sc:Jc):Cx:={ cx with sc:=sc.names,caps:=[],vars:=cx.vars.filter λx=>sc.names.lookup x.1==aa .free }
noncomputable def iY(cx:Cx)(sc:Jc):List Nat:=(cx.muts.filter λx=>sc.names.lookup x==aa .free).filterMap λx=>cx.vars.lookup x
noncomputable def iw(js:List Nat)(d:aA):aA:=match js with
 | []=>d
 | js=>gg (js.map aJ) d
noncomputable def gf(cx:Cx)(x:Str):Bool:=(cx.vars.lookup x).isNone&&cx.sc.lookup x==aa .local&&bc x
noncomputable def CO{α β:Type}(f:α->α->Option β)(l:List α):Option β:=@Jq α (λJ=>Option β) ae (λa r J=>@Jq α (λJ=>Option β) ae (λb r J=>@Jq α (λJ=>Option β) (f a b) (λJ J J=>ae) r) r) l
noncomputable def DC(e:Expr):Option (Str×Str):=(kE e).bind (CO λa b=>(gu a).bind λx=>(gu b).bind λy=>aa (x,y))
noncomputable def bindC(cx:Cx)(e:Expr):Option Cx:=@Option.rec Str (λJ=>Option Cx) ((DC e).bind λq=>gB (gf cx q.1&&gf cx q.2&&q.1 !=q.2) (aa { cx with vars:=(q.2,cx.next+1)::(q.1,cx.next)::cx.vars,next:=cx.next+2 })) (λx=>gB (gf cx x) (aa { cx with vars:=(x,cx.next)::cx.vars,next:=cx.next+1 })) (gu e)
noncomputable def wg:Expr->Bool
 | .Call (.Attribute _ m _) [] [] _=>m==("items" : Str)
 | .Call (.Name f _) [_] [] _=>f==("enumerate" : Str)
 | _=>ag
noncomputable def qk:Expr->Bool->Bool
 | .Name _ _,o=>!o
 | .Tuple _ _ _,_=>af
 | _,_=>ag
noncomputable def freeOf(sc:Jc):List Str:=(sc.names.filter λx=>x.2==.free).map (·.1)
noncomputable def pO(cx:Cx)(x:Str):Bool:=cx.sc.lookup x==aa .cell||cx.sc.lookup x==aa .free
noncomputable def fG(cx:Cx)(sc:Jc):Bool:=sc.kind==.function&&(sc.names.all λx=>x.2 !=.cell&&(x.2 !=.local||sc.names.lookup x.1==aa .local)&&(x.2 !=.free||pO cx x.1))
noncomputable def slotsOf(cx:Cx):List Str->Option (List Nat)
 | []=>aa []
 | x::r=>match cx.vars.lookup x,slotsOf cx r with
  | some j,aa l=>aa (j::l)
  | _,_=>ae
noncomputable def qw(cx:Cx):Expr->Option Nat
 | .Name x _=>match x==("pen" : Str)&&bc x with
  | true=>cx.vars.lookup x
  | false=>ae
 | _=>ae
structure rC where
 e:Cx->Bool->Expr->CE
 i:Cx->Bool->Expr->CE
 o:Cx->Option Expr->Option (Option aA×List Nat)
 bl:Cx->BoolOp->List Expr->CE
 es:Cx->List Expr->Option (List aA×List Nat)
 ar:Cx->List Expr->Option (List bk×List Nat)
 g:Bool->Cx->Cx->Expr->List I3->Option (G×List Nat)
section
variable(F:rC)(cx:Cx)(b:Bool)
noncomputable def e1(f:aA->aA)(x:Expr):CE:=(F.e cx b x).bind λr=>aa (f r.1,r.2)
noncomputable def e2(f:aA->aA->aA)(x y:Expr):CE:=(F.e cx b x).bind λr=>(F.e cx b y).bind λq=>aa (f r.1 q.1,r.2++q.2)
noncomputable def D0(x:Str):CE:=gB (bc x) (match cx.vars.lookup x with
 | some j=>(match b with
  | true=>aa (aG (aJ j),[])
  | false=>aa (aC (aJ j),[j]))
 | none=>gB (cx.d5 x) ((cx.glb.lookup x).bind λv=>aa (cK v,[])))
noncomputable def G5(op:UnaryOp)(x:Expr):CE:=match op with
 | .USub=>e1 F cx af (ba gz) x
 | .Not=>e1 F cx af (c1 kJ) x
 | _=>ae
noncomputable def G7(t x y:Expr):CE:=(F.e cx ag t).bind λt=>(F.e cx ag x).bind λx=>(F.e cx ag y).bind λy=>aa (bo t.1 x.1 y.1,t.2++x.2++y.2)
noncomputable def wG(f:List aA->aA)(xs:List Expr):CE:=(F.es cx xs).bind λr=>gB (Nat.ble xs.length 100) (aa (f r.1,r.2))
noncomputable def Ip(ks:List (Option Expr))(vs:List Expr):CE:=match ks,vs with
 | [],[]=>aa (cK (.bh [] []),[])
 | _,_=>ae
noncomputable def zj(o i:Expr):CE:=match uH i with
 | .two lo hi=>(F.e cx af o).bind λx=>(F.o cx lo).bind λl=>(F.o cx hi).bind λh=>aa (cF (dp x.1 l.1 h.1),x.2++l.2++h.2)
 | .rev=>e1 F cx af (ba lK) o
 | .no=>match qw cx o with
  | some j=>e1 F cx af (fA (aJ j)) i
  | none=>e2 F cx af (c2 aD) o i
noncomputable def G6(f:G->aA)(e:Expr)(gs:List I3)(sc:Jc):CE:=gB (fG cx sc) ((F.g af cx (ff cx sc) e gs).bind λg=>aa (cF (iw (iY cx sc) (f g.1)),g.2++iY cx sc))
noncomputable def wH(sc:Jc):CE:=match freeOf sc,slotsOf cx (freeOf sc)with
 | [x],aa [j]=>gB (cx.caps.contains x&&cx.sc.lookup x==aa .cell) (aa (uc cx.lam [aJ j],[j]))
 | _,_=>ae
noncomputable def zk(o:Expr)(m:Str)(ap:Pos)(args:List Expr)(cp:Pos):CE:=match args with
 | [k,d]=>gB (m==("get" : Str)&&jS o ap cp) ((F.e cx af o).bind λx=>(F.e cx ag k).bind λy=>(F.e cx ag d).bind λz=>aa (kO x.1 y.1 z.1,x.2++y.2++z.2))
 | _=>ae
noncomputable def GK (f:Str) (o:Expr) (m:Str) (ap cp:Pos):CE:=gB (f==("sorted" : Str)&&m==("items" : Str)&&jS o ap cp&&bc f&&cx.d5 f&&(cx.vars.lookup f).isNone&&(cx.fns.lookup f).isNone) (e1 F cx af (gh dK) o)
noncomputable def zi (f:Str) (x y:Expr):CE:=match f==("isinstance" : Str)with
 | true=>(gu y).bind λt=>gB (t==("str" : Str)&&cx.d5 t&&(cx.vars.lookup t).isNone) (e1 F cx af (c1 gQ) x)
 | false=>(vg.lookup f).bind λg=>e2 F cx af (aK g) x y
noncomputable def D3(f:Str)(args:List Expr):CE:=match args with
 | [x]=>(vh.lookup f).bind λg=>e1 F cx af (ba g) x
 | [x,y]=>zi F cx f x y
 | _=>ae
noncomputable def zl(f:Str)(args:List Expr):CE:=match cx.vars.lookup f with
 | some j=>gB (bc f) (match args with
  | [x]=>e1 F cx ag (o6 (aJ j)) x
  | _=>ae)
 | none=>gB (bc f&&cx.d5 f) (match cx.fns.lookup f with
  | some i=>(F.ar cx args).bind λr=>aa (ah i r.1,r.2)
  | none=>D3 F cx f args)
noncomputable def wI(f:Expr)(args:List Expr)(cp:Pos):CE:=match o7 f with
 | some q=>zk F cx q.1 q.2.1 q.2.2 args cp
 | none=>(gu f).bind λx=>match Ak args with
  | some q=>GK F cx x q.1 q.2.1 q.2.2.1 q.2.2.2
  | none=>zl F cx x args
noncomputable def z8:Expr->CE
 | .Constant c _ _=>(tW c).bind λv=>aa (cK v,[])
 | .Name x _=>D0 cx b x
 | .BoolOp op xs _=>F.bl cx op xs
 | .BinOp l op r _=>e2 F cx af (aK (Eg op)) l r
 | .UnaryOp op x _=>G5 F cx op x
 | .IfExp t x y _=>G7 F cx t x y
 | .Compare l ops rs _=>(Dy ops rs).bind λq=>e2 F cx af (c2 (Ea q.1)) l q.2
 | .Tuple xs _ _=>wG F cx aF xs
 | .List xs _=>wG F cx aH xs
 | .Dict ks vs _=>Ip ks vs
 | .Subscript o i _=>zj F cx o i
 | .ListComp e gs sc _=>G6 F cx bQ e gs sc
 | .DictComp k v gs sc _=>(wO v).bind λv=>G6 F cx (λg=>ub g (.bool v)) k gs sc
 | .Lambda _ _ sc _=>wH cx sc
 | .Call f args ks cp=>match ks with
  | []=>wI F cx f args cp
  | _=>ae
 | _=>ae
noncomputable def wu(e:Expr)(f:Str)(as:List Expr):CE:=match as with
 | [x]=>match u3.lookup f with
  | some g=>gB (bc f&&cx.d5 f&&(cx.vars.lookup f).isNone&&(cx.fns.lookup f).isNone) (e1 F cx b g x)
  | none=>F.e cx b e
 | [x,y]=>match f==("range" : Str)with
  | true=>gB (bc f&&cx.d5 f&&(cx.vars.lookup f).isNone&&(cx.fns.lookup f).isNone) (e2 F cx b (aK fF) x y)
  | false=>F.e cx b e
 | _=>F.e cx b e
noncomputable def stepI(e:Expr):CE:=match Aj e with
 | some q=>gB (q.2.1==("items" : Str)&&jS q.1 q.2.2.1 q.2.2.2) (e1 F cx b (gh i9) q.1)
 | none=>match mT e with
  | some q=>wu F cx b e q.1 q.2.1
  | none=>F.e cx b e
noncomputable def z6:Option Expr->Option (Option aA×List Nat)
 | none=>aa (ae,[])
 | some e=>(F.e cx af e).bind λx=>aa (aa x.1,x.2)
noncomputable def w9(op:BoolOp):List Expr->CE
 | []=>ae
 | x::xs=>(F.e cx ag x).bind λr=>match xs with
  | []=>aa r
  | y::ys=>(F.bl cx op (y::ys)).bind λq=>match op with
   | .And=>aa (cC r.1 q.1,r.2++q.2)
   | .Or=>aa (je r.1 q.1,r.2++q.2)
noncomputable def w8:List Expr->Option (List aA×List Nat)
 | []=>aa ([],[])
 | x::xs=>(F.e cx ag x).bind λr=>(F.es cx xs).bind λq=>aa (r.1::q.1,r.2++q.2)
noncomputable def Aw(x:Expr):Option (bk×List Nat):=match (gu x).bind λy=>cx.vars.lookup y with
 | some j=>aa (.slot (aJ j),[j])
 | none=>(F.e cx ag x).bind λr=>aa (.exp r.1,r.2)
noncomputable def xb:List Expr->Option (List bk×List Nat)
 | []=>aa ([],[])
 | x::xs=>(F.ar cx xs).bind λq=>(Aw F cx x).bind λr=>aa (r.1::q.1,r.2++q.2)
noncomputable def z7(ci:Cx)(elt:Expr):List I3->Option (G×List Nat)
 | []=>(match b with
  | false=>(F.e ci ag elt).bind λr=>aa (cu r.1,r.2)
  | true=>ae)
 | ⟨t,src,ifs,as⟩::gs=>(F.i cx b src).bind λs=>(bindC ci t).bind λcx'=>gB (as==0&&qk t (wg src)) ((lC cx'.vars t).bind λtg=>(F.es cx' ifs).bind λcs=>(F.g ag cx' cx' elt gs).bind λg=>aa (cg tg s.1 cs.1 g.1,s.2++cs.2++g.2))
end
noncomputable def dT:Nat->rC
 | 0=>⟨λJ J J=>ae,λJ J J=>ae,λJ J=>ae,λJ J J=>ae,λJ J=>ae,λJ J=>ae,λJ J J J J=>ae⟩
 | n+1=>⟨z8 (dT n),stepI (dT n),z6 (dT n),w9 (dT n),w8 (dT n),xb (dT n),λb cx ci elt gs=>z7 (dT n) cx b ci elt gs⟩
noncomputable abbrev dN(n:Nat):=(dT n).e
noncomputable abbrev GO(n:Nat):=(dT n).i
noncomputable abbrev xY(n:Nat):=(dT n).es
noncomputable abbrev dC:Nat:=60
noncomputable abbrev iW:Nat:=60
noncomputable def Gw:Stmt->List Str
 | .Expr (.Call (.Attribute (.Name x _) m _) _ _ _) _=>match m==("append" : Str)||m==("extend" : Str)||m==("insert" : Str)with
  | true=>[x]
  | false=>[]
 | .Assign [.Subscript (.Name x _) _ _] _ _=>[x]
 | .Assign _ (.Call (.Attribute (.Name x _) m _) _ _ _) _=>match m==("pop" : Str)with
  | true=>[x]
  | false=>[]
 | _=>[]
mutual
noncomputable def Gv:Nat->Stmt->List Str
 | 0,_=>[]
 | n+1,s=>match s with
 | .For _ _ body _ _=>lQ n body
 | .While _ body _ _=>lQ n body
 | .If _ a b _=>lQ n a++lQ n b
 | s=>Gw s
noncomputable def lQ:Nat->List Stmt->List Str
 | 0,_=>[]
 | n+1,l=>match l with
 | []=>[]
 | s::r=>Gv n s++lQ n r
end
noncomputable def wq:Expr->Bool
 | .List _ _=>af
 | _=>ag
noncomputable def isMul:Jb->Bool
 | .Mult=>af
 | _=>ag
noncomputable def lq:Expr->Bool
 | .List _ _=>af
 | .Dict _ _ _=>af
 | .BinOp l op _ _=>isMul op&&wq l
 | _=>ag
noncomputable def cH(cx:Cx)(js:List Nat)(d:bj):bj:=
 (js.eraseDups.filter λj=>cx.muts.any λx=>cx.vars.lookup x==aa j).foldr (λj d=>ak (dP (aJ j) (sets j)) d) d
noncomputable def namesOf:List Expr->Option (List Str)
 | []=>aa []
 | e::r=>(gu e).bind λx=>(namesOf r).bind λl=>aa (x::l)
noncomputable def ip(cx:Cx):List Str->List Expr->List Bool
 | x::xs,e::es=>(cx.muts.contains x&&lq e)::ip cx xs es
 | _,_=>[]
noncomputable def cZ(cx:Cx)(x:Str):Option Nat:=match (cx.sc.lookup x==aa .local||cx.sc.lookup x==aa .cell)&&!cx.caps.contains x&&bc x with
 | true=>cx.vars.lookup x
 | false=>ae
noncomputable def iH(cx:Cx):List Str->Option (List Nat)
 | []=>aa []
 | x::r=>match cZ cx x,iH cx r with
  | some j,aa l=>aa (j::l)
  | _,_=>ae
noncomputable def sh(cx:Cx)(e:Expr):Option eN:=@Option.rec Str (λJ=>Option eN) ((DC e).bind λq=>(cZ cx q.1).bind λj=>(cZ cx q.2).bind λk=>gB (q.1 !=q.2) (aa (.two (sets j) (sets k)))) (λx=>(cZ cx x).bind λj=>aa (.one (sets j))) (gu e)
noncomputable def distinct:List Str->Bool
 | []=>af
 | x::r=>!r.contains x&&distinct r
noncomputable def vR(es:List Expr):Bool:=es.all (foldedForSure 8)||!(es.all (constantsAlone 8))
noncomputable def iN:Expr->Bool
 | .ListComp ..|.SetComp ..|.DictComp ..=>ag
 | _=>af
noncomputable def pC (e:Expr):Option (Str×List Expr):=(qc e).bind λq=>gB (q.2.1==("pop" : Str)&&q.2.2.1.endLine==q.2.2.2.2.line&&bc q.1) (aa (q.1,q.2.2.2.1))
section
variable(cx:Cx)
noncomputable def Ep(x:Str)(j:Nat)(y:Str)(args:List Expr):Option bj:=(cx.vars.lookup y).bind λk=>gB (x !=y) (match args with
 | []=>aa (jj [sets j] (aJ k) (sets k))
 | [a,b]=>(dN dC cx ag a).bind λa=>(dN dC cx ag b).bind λb=>aa (cH cx (a.2++b.2) (lJ (sets j) (aJ k) (sets k) a.1 b.1))
 | _=>ae)
noncomputable def Ha(x:Str)(value:Expr):Option bj:=(cZ cx x).bind λj=>match pC value with
 | some q=>Ep cx x j q.1 q.2
 | none=>(dN dC cx ag value).bind λr=>(match cx.muts.contains x&&lq value with
  | true=>aa (cH cx r.2 (iK (sets j) r.1))
  | false=>aa (cH cx r.2 (aM (sets j) r.1)))
noncomputable def G8(ts:List Expr)(value:Expr):Option bj:=(namesOf ts).bind λns=>gB (distinct ns) ((iH cx ns).bind λjs=>match pC value with
 | some q=>(match q.2 with
  | []=>(cx.vars.lookup q.1).bind λk=>gB (!ns.contains q.1&&ns.length !=1) (aa (jj (js.map sets) (aJ k) (sets k)))
  | _=>ae)
 | none=>match kE value with
  | some es=>(xY dC cx es).bind λr=>gB (vR es&&Nat.ble es.length 100&&es.length==ns.length) (aa (cH cx r.2 (bO ((js.map sets).zip (ip cx ns es)) r.1)))
  | none=>(dN dC cx ag value).bind λr=>aa (cH cx r.2 (gy (js.map sets) r.1)))
noncomputable def aSub(x:Str)(i value:Expr):Option bj:=(cx.vars.lookup x).bind λj=>gB (bc x&&iN value) ((dN dC cx ag value).bind λd=>(dN dC cx af i).bind λi=>aa (cH cx (d.2++i.2) (fq (aJ j) (sets j) i.1 d.1)))
noncomputable def md(targets:List Expr)(value:Expr):Option bj:=match qW targets with
 | .nm x=>Ha cx x value
 | .tp ts=>G8 cx ts value
 | .sub x i=>aSub cx x i value
 | .no=>ae
noncomputable def F6(x m:Str)(ap:Pos)(as:List Expr)(cp:Pos):Option bj:=(cx.vars.lookup x).bind λj=>gB (ap.endLine==cp.line&&bc x) (match as with
 | [a]=>(match m==("append" : Str)with
  | true=>(dN dC cx ag a).bind λr=>aa (cH cx r.2 (ee (aJ j) (sets j) r.1))
  | false=>gB (m==("extend" : Str)) ((dN dC cx af a).bind λr=>aa (cH cx r.2 (qp (aJ j) (sets j) r.1))))
 | [i,a]=>gB (m==("insert" : Str)) ((dN dC cx af i).bind λi=>(dN dC cx ag a).bind λa=>aa (cH cx (i.2++a.2) (sA (aJ j) (sets j) i.1 a.1)))
 | _=>ae)
noncomputable def ng(e:Expr):Option bj:=match qc e with
 | some q=>F6 cx q.1 q.2.1 q.2.2.1 q.2.2.2.1 q.2.2.2.2
 | none=>(mT e).bind λJ=>(dN dC cx ag e).bind λr=>aa (cH cx r.2 (v7 r.1))
noncomputable def Hn(t:Expr)(op:Jb)(e:Expr):Option bj:=(gu t).bind λx=>(cZ cx x).bind λj=>(dN dC cx af e).bind λr=>gB (!cx.muts.contains x) (aa (cH cx r.2 (aM (sets j) (aK (nv op) (aC (aJ j)) r.1))))
noncomputable def Hl(e:Option Expr):Option bj:=e.bind λe=>(dN dC cx ag e).bind λr=>aa (cH cx r.2 (ax r.1))
noncomputable def CD (e c:Option Expr):Option bj:=(xn e c).bind λq=>gB (q.1==("CasFail" : Str)&&cx.d5 q.1&&(cx.vars.lookup q.1).isNone) ((dN dC cx ag q.2.1).bind λk=>(dN dC cx ag q.2.2).bind λx=>aa (cH cx (k.2++x.2) (dW k.1 x.1)))
noncomputable def vA (s:Stmt) (h:ExceptHandler):Option bj:=(yE s).bind λx=>(DR h).bind λq=>gB (q.1==("CasFail" : Str)&&cx.d5 q.1&&q.2.1==q.2.2.1&&q.2.2.2==("kind" : Str)&&(cZ cx q.2.1).isSome&&cx.sc.lookup q.2.1==aa .local) ((dN dC cx ag x).bind λr=>aa (cH cx r.2 (rP r.1)))
noncomputable def ye(b:List Stmt)(hs:List ExceptHandler)(els fin:List Stmt):Option bj:=match b,hs,els,fin with
 | [s],[h],[],[]=>vA cx s h
 | _,_,_,_=>ae
variable(cB:Cx->List Stmt->Option bj)
noncomputable def Hm(t src:Expr)(body els:List Stmt):Option bj:=match els with
 | []=>gB (qk t (wg src)) ((sh cx t).bind λtg=>(GO dC cx ag src).bind λs=>(cB cx body).bind λb=>aa (cH cx s.2 (cA tg s.1 b)))
 | _=>ae
noncomputable def CC(t:Expr)(body els:List Stmt):Option bj:=match els with
 | []=>(dN dC cx af t).bind λt=>(cB cx body).bind λb=>gB (t.2.all λj=>cx.muts.all λx=>cx.vars.lookup x !=aa j) (aa (cq t.1 b))
 | _=>ae
noncomputable def Iw(t:Expr)(x y:List Stmt):Option bj:=(dN dC cx ag t).bind λt=>(cB cx x).bind λx=>(cB cx y).bind λy=>aa (cH cx t.2 (aR t.1 x y))
noncomputable def z5:Stmt->Option bj
 | .Expr e _=>ng cx e
 | .Assign ts v _=>md cx ts v
 | .AugAssign t op e _=>Hn cx t op e
 | .For t src body els _=>Hm cx cB t src body els
 | .While t body els _=>CC cx cB t body els
 | .If t a b _=>Iw cx cB t a b
 | .Return e _=>Hl cx e
 | .Raise e c _=>CD cx e c
 | .Try b hs els fin _=>ye cx b hs els fin
 | .Continue _=>aa v8
 | _=>ae
variable(cS:Cx->Stmt->Option bj)
noncomputable def Aa:List Stmt->Option bj
 | []=>aa aN
 | s::r=>(cS cx s).bind λd=>match r with
  | []=>aa d
  | s'::r'=>(cB cx (s'::r')).bind λe=>aa (ak d e)
end
structure Ax where
 s:Cx->Stmt->Option bj
 b:Cx->List Stmt->Option bj
noncomputable def j0:Nat->Ax
 | 0=>⟨λJ J=>ae,λJ J=>ae⟩
 | n+1=>⟨λcx s=>z5 cx (j0 n).b s,λcx l=>Aa cx (j0 n).b (j0 n).s l⟩
noncomputable abbrev GN(n:Nat):=(j0 n).s
noncomputable abbrev rW(n:Nat):=(j0 n).b
noncomputable def DP:NameKind->Bool
 | .local|.cell|.free=>af
 | _=>ag
noncomputable def numbered(n:Nat):List Str->List (Str×Nat)
 | []=>[]
 | x::r=>(x,n)::numbered (n+1) r
noncomputable def ec(params:List Str)(sc:Jc):List Str:=params++((sc.names.filter λx=>DP x.2&&!params.contains x.1).map (·.1))
noncomputable def nR(fns:List (Str×Nat))(glb:List (Str×V))(lam:Nat)(caps:List Str)(params:List Str)(sc:Jc)(body:List Stmt):Option aB:=
 let vs:=ec params sc
 match rW iW { sc:=sc.names,vars:=numbered 0 vs,muts:=(lQ iW body).eraseDups,fns,glb,next:=vs.length,lam,caps } body with
 | some d=>aa { np:=params.length,body:=d }
 | none=>ae
end
end
section
open PySem PySem.Calls PyProof.Rows PySem.W
noncomputable def eE:List (Str×V):=[("R0",.tup [.int 0,.int 1]),("R1",.tup [.int 1,.int 1]),("T_ZERO",.tup [.str [110,117,109],.int 0,.int 1]),("T_ONE",.tup [.str [110,117,109],.int 1,.int 1]),("T_MINUS",.tup [.str [110,117,109],.int (-1),.int 1]),
 ("RANKS",.bh [.str [115,121,109],.str [99,97,108,108],.str [115,117,109],.str [112,114,111,100],.str [110,117,109],.str [112,111,119],.str [101,113],.str [108,105,115,116]] [.int 0,.int 1,.int 2,.int 3,.int 4,.int 5,.int 6,.int 7]),
 ("ZERO",.tup [.str [110,117,109],.int 0,.int 1]),("ONE",.tup [.str [110,117,109],.int 1,.int 1]),("MINUS_ONE",.tup [.str [110,117,109],.int (-1),.int 1]),("HALF_simp",.tup [.str [110,117,109],.int 1,.int 2]),
 ("EXP_ONE",.tup [.str [99,97,108,108],.str [101,120,112],.tup [.tup [.str [110,117,109],.int 1,.int 1]]]),
 ("MOST_FACTORED",.int 1000000),("MOST_FACTORIAL",.int 200),("ODD_CALLS",.tup [.str [115,105,110],.str [116,97,110],.str [97,116,97,110]]),
 ("F0",.tup [.lst [],.lst [.tup [.int 1,.int 1]]]),("F1",.tup [.lst [.tup [.int 1,.int 1]],.lst [.tup [.int 1,.int 1]]]),("HALF_roots",.tup [.int 1,.int 2])]
noncomputable def defs:List (Str×List Str×Jc×List Stmt):=PySem.Challenge.pw_pf0068_01.main.body.filterMap λ
 | .FunctionDef n a b _ _ _ sc _ _ _=>aa (n,a.args.map (·.arg),sc,b)
 | _=>ae
noncomputable def eF:List (Str×Nat):=defs.zipIdx.map λ(d,i)=>(d.1,i)
noncomputable def gF(i:Nat):List Str:=((defs[i]?).getD default).2.1
noncomputable def lx(i:Nat):Jc:=((defs[i]?).getD default).2.2.1
noncomputable def cD(i:Nat):List Stmt:=((defs[i]?).getD default).2.2.2
noncomputable def gS:Stmt->(List Stmt×List ExceptHandler×Pos)×Expr×Pos
 | .Try b h _ _ p=>((b,h,p),default)
 | .Return e p=>(default,e.getD default,p)
 | _=>default
noncomputable def gH:ExceptHandler->Expr×List Stmt×Pos
 | .ExceptHandler e _ b p=>(e.getD default,b,p)
noncomputable def gE:Expr->(Expr×List Expr×Pos)×Arguments×Expr×Jc×Nat
 | .Call f as _ p=>((f,as,p),default)
 | .Name _ p=>((default,default,p),default)
 | .Attribute e _ p=>((e,default,p),default)
 | .Constant _ n p=>((default,default,p),default,default,default,n)
 | .Lambda a b c p=>((default,default,p),a,b,c,default)
 | _=>default
noncomputable def gP(e:Expr):Pos:=(gE e).1.2.2
noncomputable def tS:=(gS ((cD 135).headD default)).1
noncomputable def tR:=(gS (tS.1.headD default)).2
noncomputable def tC(i:Nat):Expr:=(gE tR.1).1.2.1.getD i default
noncomputable def tH:=gH (tS.2.1.headD default)
noncomputable def tA:=(gS (tH.2.1.headD default)).2
noncomputable def gb:Arguments:=(gE (tC 2)).2.1
noncomputable def ez:Jc:=(gE (tC 2)).2.2.2.1
noncomputable def qC:Expr:=(gE (tC 2)).2.2.1
noncomputable def te:Pos:=gP (tC 2)
noncomputable abbrev AP:=I1->Prop
structure Cfg where
 prog:Program
 w:World
 h₀:Heap
 fa:Nat->I1
 lam:Nat->FuncData->List I1->Prop
 cls:IZ
 pl:I1
 lpos:Pos
 lqual:Str
 isDef:Nat->Bool
 lc:I1
noncomputable def mC(w:World)(s:List Nat):Int:=hashStr w ⟨s.toArray⟩
mutual
noncomputable def dM(w:World):V->Int
 | .int i=>hashInt i
 | .str s=>mC w s
 | .tup l=>reduceHash (Builtin.Tuple.tupleHashOf (bq w l))
 | _=>0
noncomputable def bq(w:World):List V->List Int
 | []=>[]
 | v::r=>dM w v::bq w r
end
open Classical in
noncomputable def hide(h:Heap)(D:AP):Heap:={ h with objs:=h.objs.mapIdx λi o=>if D i then { o with data:=.freed } else o }
noncomputable def KS:List Str:=[Jf "__name__",Jf "__doc__",Jf "__package__",Jf "__loader__",Jf "__spec__",Jf "__annotations__",Jf "__builtins__",Jf "__file__",Jf "__cached__"]
noncomputable def KA:List Str:=[Jf "CasFail",Jf "gcd",Jf "gcd_all",Jf "least_divisor",Jf "prime_factors",Jf "divisors",Jf "R0",Jf "R1",Jf "rat",Jf "radd",Jf "rmul",Jf "rdiv",Jf "rneg",Jf "rinv",Jf "rpower",Jf "rcompare",Jf "rfloor",Jf "T_ZERO",Jf "T_ONE",Jf "T_MINUS",Jf "t_num",Jf "t_sum",Jf "t_prod",Jf "t_pow",Jf "t_minus",Jf "is_num",Jf "num_of",Jf "is_whole_num",Jf "inner_terms",Jf "all_terms",Jf "free_letters",Jf "contains_letter",Jf "RANKS",Jf "sign_between",Jf "compare_values",Jf "bare_factors",Jf "front_value",Jf "base_and_exponent",Jf "compare_rows",Jf "compare_exponents",Jf "compare_bases",Jf "compare_factors",Jf "compare_terms",Jf "merged_terms",Jf "sort_terms",Jf "ZERO",Jf "ONE",Jf "MINUS_ONE",Jf "HALF_simp",Jf "EXP_ONE",Jf "MOST_FACTORED",Jf "MOST_FACTORIAL",Jf "ODD_CALLS",Jf "number_term",Jf "number_and_rest",Jf "with_number",Jf "flat_parts",Jf "gathered_sum",Jf "as_power",Jf "gathered_product",Jf "power_of",Jf "split_power",Jf "number_power",Jf "radical_of",Jf "begins_below",Jf "negated_term",Jf "exp_of",Jf "log_of",Jf "factorial_of",Jf "call_of",Jf "simplify",Jf "sum_parts",Jf "mul_out",Jf "mul_all_out",Jf "power_out",Jf "expand_power",Jf "expand_once",Jf "expand",Jf "ztrim",Jf "zdegree",Jf "zlead",Jf "zadd",Jf "zneg",Jf "zsub",Jf "zscale",Jf "zraise",Jf "zcontent",Jf "zdivided",Jf "zprimitive",Jf "zderive",Jf "qtrim",Jf "qdegree",Jf "qlead",Jf "qadd",Jf "qneg",Jf "qsub",Jf "qscale",Jf "qraise",Jf "qmul",Jf "qdivmod",Jf "qmonic",Jf "qgcd",Jf "to_z",Jf "F0",Jf "F1",Jf "fmake",Jf "fnumber",Jf "fadd",Jf "fmul",Jf "finv",Jf "fpower",Jf "whole_exponent",Jf "from_term",Jf "check_bottom",Jf "zexact",Jf "pseudo",Jf "zpseudo_rest",Jf "next_height",Jf "subresultants",Jf "zgcd",Jf "sign_of",Jf "value_sign",Jf "end_sign",Jf "sign_at",Jf "simple_part",Jf "lessened",Jf "next_of_row",Jf "sturm_row",Jf "changes_at",Jf "count_by_row",Jf "root_bound",Jf "HALF_roots",Jf "middle",Jf "linear_of",Jf "is_inside",Jf "split_roots",Jf "isolate",Jf "kept_off",Jf "sorted_intervals",Jf "halved",Jf "rational_roots",Jf "candidates",Jf "sorted_roots",Jf "power_in",Jf "collect",Jf "as_difference",Jf "two_roots",Jf "plain_roots",Jf "letter_roots",Jf "solve_by",Jf "is_root",Jf "_law_pick",Jf "_law_num"]
noncomputable def KB:List Str:=[Jf "_law_poly",Jf "_law_times",Jf "_law_factor",Jf "_law_whole_right",Jf "_law_edges"]
noncomputable def KL:List Str:=KS++(KA++(("_law_told" : Str)::(KB++[("law" : Str)])))
noncomputable def VL:List (Option (I1 ⊕ Int)):=[ae,ae,ae,ae,ae,aa (.inl 6),aa (.inl 4),ae,ae,aa (.inl 31),aa (.inl 41),aa (.inl 48),aa (.inl 55),aa (.inl 62),aa (.inl 67),aa (.inl 68),aa (.inl 69),aa (.inl 76),aa (.inl 83),aa (.inl 90),aa (.inl 97),aa (.inl 104),aa (.inl 111),aa (.inl 118),aa (.inl 125),aa (.inl 132),aa (.inl 133),aa (.inl 134),aa (.inl 135),aa (.inl 142),aa (.inl 149),aa (.inl 156),aa (.inl 163),aa (.inl 170),aa (.inl 177),aa (.inl 184),aa (.inl 191),aa (.inl 198),aa (.inl 205),aa (.inl 210),aa (.inl 217),aa (.inl 218),aa (.inl 225),aa (.inl 232),aa (.inl 237),aa (.inl 244),aa (.inl 251),aa (.inl 258),aa (.inl 265),aa (.inl 272),aa (.inl 279),aa (.inl 286),aa (.inl 293),aa (.inl 300),aa (.inl 301),aa (.inl 302),aa (.inl 303),aa (.inl 304),aa (.inl 306),aa (.inr 1000000),aa (.inr 200),aa (.inl 307),aa (.inl 314),aa (.inl 321),aa (.inl 328),aa (.inl 335),aa (.inl 340),aa (.inl 347),aa (.inl 354),aa (.inl 359),aa (.inl 366),aa (.inl 373),aa (.inl 380),aa (.inl 387),aa (.inl 392),aa (.inl 399),aa (.inl 406),aa (.inl 413),aa (.inl 420),aa (.inl 425),aa (.inl 432),aa (.inl 437),aa (.inl 444),aa (.inl 451),aa (.inl 458),aa (.inl 463),aa (.inl 470),aa (.inl 477),aa (.inl 484),aa (.inl 491),aa (.inl 496),aa (.inl 501),aa (.inl 508),aa (.inl 513),aa (.inl 520),aa (.inl 527),aa (.inl 532),aa (.inl 539),aa (.inl 544),aa (.inl 551),aa (.inl 558),aa (.inl 565),aa (.inl 570),aa (.inl 575),aa (.inl 582),aa (.inl 587),aa (.inl 594),aa (.inl 601),aa (.inl 608),aa (.inl 615),aa (.inl 622),aa (.inl 627),aa (.inl 630),aa (.inl 633),aa (.inl 640),aa (.inl 647),aa (.inl 654),aa (.inl 661),aa (.inl 668),aa (.inl 675),aa (.inl 682),aa (.inl 689),aa (.inl 696),aa (.inl 703),aa (.inl 710),aa (.inl 717),aa (.inl 724),aa (.inl 731),aa (.inl 738),aa (.inl 745),aa (.inl 752),aa (.inl 759),aa (.inl 766),aa (.inl 773),aa (.inl 778),aa (.inl 785),aa (.inl 792),aa (.inl 797),aa (.inl 804),aa (.inl 809),aa (.inl 810),aa (.inl 817),aa (.inl 824),aa (.inl 831),aa (.inl 838),aa (.inl 843),aa (.inl 848),aa (.inl 855),aa (.inl 862),aa (.inl 869),aa (.inl 876),aa (.inl 883),aa (.inl 890),aa (.inl 895),aa (.inl 902),aa (.inl 909),aa (.inl 916),aa (.inl 923),aa (.inl 930),aa (.inl 935),aa (.inl 942),aa (.inl 949),aa (.inl 956),aa (.inl 961),aa (.inl 968),aa (.inl 975),aa (.inl 980),aa (.inl 987),aa (.inl 994)]
noncomputable def AD:List I1:=[41,48,55,62,67,76,83,90,97,104,111,118,125,132,142,149,156,163,170,177,184,191,198,205,210,217,225,232,237,244,251,258,265,272,279,286,293,300,314,321,328,335,340,347,354,359,366,373,380,387,392,399,406,413,420,425,432,437,444,451,458,463,470,477,484,491,496,501,508,513,520,527,532,539,544,551,558,565,570,575,582,587,594,601,608,615,622,627,640,647,654,661,668,675,682,689,696,703,710,717,724,731,738,745,752,759,766,773,778,785,792,797,804,809,817,824,831,838,843,848,855,862,869,876,883,890,895,902,909,916,923,930,935,942,949,956,961,968,975,980,987,994]
noncomputable def PS:List Nat:=[10,11,12,13,14,17,18,19,20,21,22,23,24,25,29,30,31,32,33,34,35,36,37,38,39,40,42,43,44,45,46,47,48,49,50,51,52,53,62,63,64,65,66,67,68,69,70,71,72,73,74,75,76,77,78,79,80,81,82,83,84,85,86,87,88,89,90,91,92,93,94,95,96,97,98,99,100,101,102,103,104,105,106,107,108,109,110,111,114,115,116,117,118,119,120,121,122,123,124,125,126,127,128,129,130,131,132,133,134,135,136,137,138,139,141,142,143,144,145,146,147,148,149,150,151,152,153,154,155,156,157,158,159,160,161,162,163,164,165,166,167,168]
noncomputable def GP:List Nat:=[15,16,26,27,28,41,54,55,56,57,58,59,60,61,112,113,140]
noncomputable def jw:I1:=218
noncomputable def wa:Nat:=41
noncomputable abbrev l5:List IZ:=[.type "Exception",.type "BaseException",.type "object"]
noncomputable def fl:List (Str×NameKind):=[("self",.local),("kind",.local),("text",.local),("Exception",.globalImplicit)]
noncomputable def jW:List Stmt:=[
 .Expr (.Call (.Attribute (.Name "Exception" ⟨5,8,5,17⟩) "__init__" ⟨5,8,5,26⟩)
  [.Name "self" ⟨5,27,5,31⟩,.BinOp (.BinOp (.Name "kind" ⟨5,33,5,37⟩) .Add (.Constant (.str ": ") 0 ⟨5,40,5,44⟩) ⟨5,33,5,44⟩) .Add (.Name "text" ⟨5,47,5,51⟩) ⟨5,33,5,51⟩] [] ⟨5,8,5,52⟩) ⟨5,8,5,52⟩,
 .Assign [.Attribute (.Name "self" ⟨6,8,6,12⟩) "kind" ⟨6,8,6,17⟩] (.Name "kind" ⟨6,20,6,24⟩) ⟨6,8,6,24⟩,
 .Assign [.Attribute (.Name "self" ⟨7,8,7,12⟩) "text" ⟨7,8,7,17⟩] (.Name "text" ⟨7,20,7,24⟩) ⟨7,8,7,24⟩]
noncomputable def fC{α:Type}(o:Option α)(f:α->Bool):Bool:=@Option.rec α (λJ=>Bool) ag f o
noncomputable def DY(a b:V):Bool:=fC (dw 1 a b) id
noncomputable def qt:IZ->Option I1
 | .ref a=>aa a
 | _=>ae
noncomputable def wQ:IZ->Option V
 | .none=>aa .none
 | .bool b=>aa (.bool b)
 | .int i _=>aa (.int i)
 | .str s _=>aa (.str s.cps.toList)
 | _=>ae
noncomputable def v5(T:String):Obj->Option (List IZ)
 | ⟨.type c,ae,.seq vs _,sl⟩=>@Jp (λJ=>Option (List IZ)) ae (aa vs.toList) (c==T&&sl.size==0&&Nat.ble vs.size 8000)
 | _=>ae
mutual
noncomputable def oK(h:Heap):Nat->V->IZ->Bool
 | 0,_,_=>ag
 | n+1,v,x=>match v with
  | .tup l=>fC (qt x) λa=>fC (h.get? a) λo=>fC (v5 "tuple" o) (ie h n l)
  | .lst l=>fC (qt x) λa=>fC (h.get? a) λo=>fC (v5 "list" o) (ie h n l)
  | .bh ..=>ag
  | .clo ..=>ag
  | v=>fC (wQ x) λy=>DY y v
noncomputable def ie(h:Heap):Nat->List V->List IZ->Bool
 | 0,_,_=>ag
 | n+1,l,vs=>match l,vs with
  | [],[]=>af
  | v::l,x::vs=>oK h n v x&&ie h n l vs
  | _,_=>ag
end
noncomputable def yF(v:Option IZ)(a:I1):Bool:=match v with
 | some (.ref b)=>Nat.beq b a
 | _=>ag
noncomputable def nN(o:Obj):Option FuncData:=match o.data with
 | .func fd=>aa fd
 | _=>ae
noncomputable def qM(o:Obj):Option (Array IZ):=match o.data with
 | .fields vs=>aa vs
 | _=>ae
noncomputable def C0:IZ->Option Str
 | .str x _=>aa x
 | _=>ae
noncomputable def wL(g:I1->Option Obj)(cd:IZ):Option Str:=(qt cd).bind λc=>(g c).bind λo=>(qM o).bind λvs=>vs[1]?.bind C0
noncomputable def codeB(h:Heap)(cd:IZ)(q:Str):Bool:=fC (wL h.get? cd) λx=>decide (x=q)
noncomputable def jN:V:=(eE.lookup ("RANKS" : Str)).getD .none
noncomputable def jO:List V:=match jN with|.bh ks _=>ks|_=>[]
noncomputable def sF:List V:=match jN with|.bh _ xs=>xs|_=>[]
noncomputable def Ar:Obj->Option (List I2)
 | ⟨.type c,ae,.dict es _,sl⟩=>@Jp (λJ=>Option (List I2)) ae (aa es.toList) (c == "dict" && sl.size==0)
 | _=>ae
noncomputable def xl(h:Heap)(v:Option IZ):Bool:=fC v λx=>fC (qt x) λa=>fC (h.get? a) λo=>fC (Ar o) λes=>
 !(a==sysModules)&&Nat.ble es.length 8000&&ie h 20 jO (es.map (·.key))&&ie h 20 sF (es.map (·.val))
noncomputable def mK(h:Heap)(v:Option IZ):List Int:=match v with
 | some (.ref a)=>(match h.get? a with
  | some ⟨_,_,.dict es _,_⟩=>es.toList.map (·.hash)
  | _=>[])
 | _=>[]
noncomputable abbrev uj:=IZ×List (Str×I1)×FuncBody×(Bool×Bool×ScopeKind×List (Str×NameKind))×(I1×I1×Str)×(List Arg×List Str×List Arg×Option Arg×Option Arg)×IZ
noncomputable def tL(o:Obj):Option uj:=(nN o).map λfd=>(o.cls,fd.closure,fd.body,(fd.scope.isCoroutine,fd.scope.isGenerator,fd.scope.kind,fd.scope.names),(fd.globals,fd.builtins,fd.qualname),(fd.params.posonlyargs,fd.params.args.map (·.arg),fd.params.kwonlyargs,fd.params.vararg,fd.params.kwarg),fd.defaults)
noncomputable def Ca(h:Heap)(a:I1)(q:Str):Bool:=fC ((h.get? a).bind nN) λfd=>codeB h fd.code q
noncomputable def oV:uj:=(.type "function",[],.stmts jW,(ag,ag,.function,fl),(I4,I5,"CasFail.__init__"),([],["self","kind","text"],[],ae,ae),.none)
noncomputable def t8:Obj:=I7 "CasFail" "CasFail" 31 30 [.type "Exception"] l5 af [] [] ag ae ae (aa (.ref 15)) ae (aa (.str "CasFail" 189)) (aa (.str "CasFail" 197)) (aa (.bool af)) "Exception.__new__"
noncomputable def iz:List (Str×Arguments×Jc×List Stmt):=PySem.Challenge.pw_pf0068_01.main.body.filterMap λ
 | .FunctionDef n a b _ _ _ sc _ _ _=>aa (n,a,sc,b)
 | _=>ae
noncomputable def jV(e:I2):Option Str:=match e.key with
 | .str n _=>aa n
 | _=>ae
noncomputable def yk(e:I2):Option (I1 ⊕ Int):=match e.val with
 | .ref a=>aa (.inl a)
 | .int i _=>aa (.inr i)
 | _=>ae
noncomputable def eL(h:Heap):List I2:=match h.get? I4 with
 | some o=>(match o.data with
  | .dict es _=>es.toList
  | _=>[])
 | none=>[]
noncomputable abbrev Hb:=List (Str×I1)×FuncBody×Jc×(I1×I1×Str)×Arguments×IZ
noncomputable def DU(o:Obj):Option Hb:=(nN o).map λfd=>(fd.closure,fd.body,fd.scope,(fd.globals,fd.builtins,fd.qualname),fd.params,fd.defaults)
noncomputable def wM(g:I1->Option Obj)(a:I1):Option Str:=((g a).bind nN).bind λfd=>wL g fd.code
noncomputable def wK(h:Heap):I1->Option Str:=wM h.get?
noncomputable def Cn(h:Heap):Bool:=(eE.zip GP).all λp=>match VL[p.2]? with
 | some (aa (.inl a))=>Nat.beq a jw||oK h 20 p.1.2 (.ref a)
 | some (aa (.inr i))=>oK h 20 p.1.2 (.int i 0)
 | _=>ag
noncomputable def nM(h:Heap):Bool:=
 h.isNs I4&&h.isNs sysModules&&h.isNs 30&&yF (h.nsMap 30 "__init__") 28&&
 ((["__setattr__","kind","text","__getattribute__","__getattr__"]:List Str).all λx=>(h.nsMap 30 x).isNone)&&Ca h 28 "CasFail.__init__" &&
 Cn h&&xl h (aa (.ref jw))
noncomputable abbrev rX:=Bool×Option Obj×Option uj×List Int×List (Option Str)×List (Option (I1 ⊕ Int))×List (Option Hb)×List (Option Str)
noncomputable def fs(s:IY):rX:=(nM s.heap,s.heap.get? 31,(s.heap.get? 28).bind tL,mK s.heap (aa (.ref jw)),(eL s.heap).map jV,(eL s.heap).map yk,AD.map (λa=>(s.heap.get? a).bind DU),AD.map (wK s.heap))
noncomputable def eJ(w:World):rX:=(af,aa t8,aa oV,bq w jO,KL.map aa,VL,iz.map (λd=>aa ([],.stmts d.2.2.2,d.2.2.1,(I4,I5,d.1),d.2.1,.none)),iz.map (λd=>aa d.1))
noncomputable def iy(i:Nat):Str:=((defs[i]?).getD default).1
noncomputable abbrev pw:Program:=PySem.Challenge.pw_pf0068_01
noncomputable def qv:Program:=view pw [171,177]
noncomputable def cM:List Str:=KA++KB
noncomputable def ix(mg:Str->Option IZ)(i:Nat):I1:=match mg (iy i)with
 | some (.ref a)=>a
 | _=>0
noncomputable def y4:Str := "_law_told.<locals>.<lambda>"
noncomputable def sS(w:World)(h:Heap)(mg:Str->Option IZ)(pl lc:I1):Cfg where
 prog:=pw
 w:=w
 h₀:=hide h λb=>b=pl
 fa:=ix mg
 lam:=λf fd cs=>f=142/\∃nm cd ct c,fd=kla_fn "<lambda>" y4 gb qC ez [("whole",c)] nm (.ref cd) ct/\cs=[c]
 cls:=.ref 31
 pl:=pl
 lpos:=te
 lqual:=y4
 isDef:=λi=>decide (i<142)
 lc:=lc
noncomputable abbrev fc:OpenLaw:=PySem.Challenge.rw_pf0068_01
def Eu (mg:Str->Option IZ) (h:Heap) (pl lc:I1):Prop:=∃dt:DefRec,dt.name = "_law_told" /\ ∃a o fd,mg dt.name=aa (.ref a)/\h.get? a=aa o/\o.data=.func fd/\fd.code=.ref lc/\h.IsCode lc pl #[]/\h.TableAt lc pl #[]
def yb (c:Cfg):Prop:=∀(d:DefRec) (kwd:List (Str×Expr)),d.name = "law" -> WalkX (α:=Prop×rX) qv cM (λmg h=>∃pl lc,Eu mg h pl lc/\c=sS c.w h mg pl lc) (λs=>(True,fs s)) (λw=>(c.w=w,eJ w)) fc.row.toRowW d kwd λf vs=>PySem.call f vs
theorem Iq:Nonempty Cfg:=⟨sS ⟨λJ J=>0,{ strHash:=λJ=>0,shareClass:=λJ=>0,mergeTok:=λJ=>0,idOf:=λJ=>0,idOfShared:=λJ J=>0,followText:=λJ=>ag,idOfImm:=λJ=>0 }⟩ default (λJ=>ae) 0 0⟩
noncomputable def C:Cfg:=@Classical.epsilon Cfg Iq λc=>¬yb c
theorem BK(h:yb C)(c:Cfg):yb c:=Classical.byContradiction λq=>@Classical.epsilon_spec Cfg (λc=>¬yb c) ⟨c,q⟩ h
end
section
open PySem
noncomputable def HV.is(e:Expr):HV->Prop
 | .name x=>∃p,e=.Name x p
 | .att o m p=>e=.Attribute o m p
 | .call f as ks p=>e=.Call f as ks p
 | .con c=>∃k p,e=.Constant c k p
 | .un op x=>∃p,e=.UnaryOp op x p
 | .sli lo hi st=>∃p,e=.Slice lo hi st p
 | .tup es=>∃c p,e=.Tuple es c p
 | .sub o i=>∃p,e=.Subscript o i p
 | .no=>True
theorem jA(e:Expr):(hv e).is e:=by
 induction e using Expr.casesOn<;>first|exact trivial|exact⟨_,rfl⟩|exact(fU _ _ rfl)|exact rfl
theorem eg{e:Expr}{x:Str}(h:gu e=aa x):∃p,e=.Name x p:=by
 have q:=jA e;unfold gu at h;revert h q;induction hv e using HV.casesOn<;>intro h q<;>first|exact nS h|(cases h;exact q)
theorem nW{e o:Expr}{m:Str}{ap:Pos}(h:o7 e=aa (o,m,ap)):e=.Attribute o m ap:=by
 have q:=jA e;unfold o7 at h;revert h q;induction hv e using HV.casesOn<;>intro h q<;>first|exact nS h|(cases h;exact q)
theorem vn{e:Expr}{c:Const}(h:qO e=aa c):∃k p,e=.Constant c k p:=by
 have q:=jA e;unfold qO at h;revert h q;induction hv e using HV.casesOn<;>intro h q<;>first|exact nS h|(cases h;exact q)
set_option tactic.hygienic true
theorem o5{e f:Expr}{as:List Expr}{cp:Pos}(h:qb e=aa (f,as,cp)):e=.Call f as [] cp:=by
 have q:=jA e;unfold qb at h;revert h q;induction hv e using HV.casesOn<;>intro h q<;>try first|exact nS h|cases h
 rename_i ks _;induction ks using List.casesOn<;>cases h;exact q
set_option tactic.hygienic false
theorem BN{ops:List CmpOp}{rs:List Expr}{op:CmpOp}{r:Expr}(h:Dy ops rs=aa (op,r)):ops=[op]/\rs=[r]:=by
 induction ops using List.casesOn with
 | nil=>exact nS h
 | cons a ops=>
  induction ops using List.casesOn with
  | cons=>exact nS h
  | nil=>
   induction rs using List.casesOn with
   | nil=>exact nS h
   | cons b rs=>
    induction rs using List.casesOn with
    | cons=>exact nS h
    | nil=>refine ao (bU h) λz0 z1=>?_;clear h;subst z0 z1;exact⟨rfl,rfl⟩
theorem uf{e:Expr}{v:Bool}(h:wO e=aa v):∃k p,e=.Constant (.bool v) k p:=by
 unfold wO at h;refine oc (qO e) (λq=>?_) λc q=>?_
 ·rw[q]at h;exact nS h
 ·rw[q]at h;induction c using Const.casesOn<;>cases h;exact vn q
set_option tactic.hygienic true
theorem BQ{e:Expr}(h:wh e=af):∃k p q,e=.UnaryOp .USub (.Constant (.int 1) k p) q:=by
 have q:=jA e;unfold wh at h;revert h q;induction hv e using HV.casesOn<;>intro h q<;>try first|exact nS h|cases h
 rename_i op x;refine xs11 e q λr=>?_;induction op using UnaryOp.casesOn<;>try first|exact nS h|cases h
 revert h;refine oc (qO x) (λhc=>?_) λc hc=>?_
 ·intro h;dsimp only at h;rw[hc]at h;exact fT h
 ·
  intro h;dsimp only at h;rw[hc]at h;refine xs21 x (vn hc) λk p=>?_;induction c using Const.casesOn<;>try first|exact nS h|cases h
  clear hc;obtain rfl:=of_decide_eq_true h;exact⟨_,_,_,rfl⟩
theorem Bw{e:Expr}{lo hi:Option Expr}(h:uH e=.two lo hi):∃p,e=.Slice lo hi ae p:=by
 have q:=jA e;unfold uH at h;revert h q;induction hv e using HV.casesOn<;>intro h q<;>try first|exact nS h|cases h
 rename_i st;induction st using Option.casesOn with
 | none=>cases h;exact q
 | some x=>dsimp only at h;split at h<;>exact(nomatch h)
theorem Bx{e:Expr}(h:uH e=.rev):∃k p q r,e=.Slice ae ae (aa (.UnaryOp .USub (.Constant (.int 1) k p) q)) r:=by
 have q:=jA e;unfold uH at h;revert h q;induction hv e using HV.casesOn<;>intro h q<;>try first|exact nS h|cases h
 rename_i lo hi st;induction st using Option.casesOn with
 | none=>exact(nomatch h)
 | some x=>
  refine kY (wh x&&lo.isNone&&hi.isNone) (λhc=>?_) λhc=>?_
  ·simp only[hc]at h;exact(nomatch h)
  ·
   simp only[Jn,Option.isNone_iff_eq_none]at hc;refine ao hc λz0 z1=>?_;clear hc;obtain⟨h1,rfl⟩:=z0;subst z1;refine Hv (BQ h1) λk p r z0=>?_;clear h1 h;subst z0;refine aw q λs z0=>?_;clear q;subst z0;exact⟨_,_,_,_,rfl⟩
set_option tactic.hygienic false
theorem bV{α:Type}{b:Bool}{o:Option α}{z:α}(h:gB b o=aa z):b=af/\o=aa z:=by
 induction b using Bool.casesOn with
 | true=>exact⟨rfl,h⟩
 | false=>exact nS h
theorem ob{α β:Type}{o:Option α}{f:α->Option β}{z:β}(h:o.bind f=aa z):∃a,o=aa a/\f a=aa z:=by
 induction o using Option.casesOn with
 | none=>exact nS h
 | some a=>exact au a rfl h
theorem uD{e:Expr}{es:List Expr}(h:kE e=aa es):∃c p,e=.Tuple es c p:=by
 have q:=jA e;unfold kE at h;revert h q;induction hv e using HV.casesOn<;>intro h q<;>first|exact nS h|(cases h;exact q)
theorem CN{α β:Type}{f:α->α->Option β}{l:List α}{r:β}(h:CO f l=aa r):∃u w,l=[u,w]/\f u w=aa r:=by
 rcases l with _|⟨u,_|⟨w,_|⟨x,l⟩⟩⟩<;>first|exact nS h|exact gw u w rfl h
theorem xy{e:Expr}{q:Str×Str}(h:DC e=aa q):∃px py c p,e=.Tuple [.Name q.1 px,.Name q.2 py] c p:=by
 refine aj (ob h) λts h1 h2=>?_;refine bY (CN h2) λa b z h3=>?_;refine aj (ob h3) λx h4 h5=>?_;refine aj (ob h5) λy h6 h7=>?_;obtain rfl:=Jd h7;refine aw (eg h4) λpx e1=>?_;refine aw (eg h6) λpy e2=>?_;exact dX (uD h1) λc p e3=>⟨px,py,c,p,by rw[e3,z,e1,e2]⟩
theorem vP{cx:Cx}{t:Expr}{tg:eN}(h:sh cx t=aa tg):(∃x px j,t=.Name x px/\cZ cx x=aa j/\tg=.one (sets j))\/∃x px y py c p j k,t=.Tuple [.Name x px,.Name y py] c p/\cZ cx x=aa j/\cZ cx y=aa k/\(x !=y)=af/\tg=.two (sets j) (sets k):=by
 unfold sh at h;refine oc (gu t) (λh0=>?_) λx h0=>?_
 ·rw[h0]at h;refine aj (ob h) λq h1 h=>?_;refine aj (ob h) λj h2 h=>?_;refine aj (ob h) λk h3 h=>?_;refine ao (bV h) λh4 h=>?_;exact yh (xy h1) λpx py c p e=>.inr ⟨q.1,px,q.2,py,c,p,j,k,e,h2,h3,h4,(Jd h).symm⟩
 ·rw[h0]at h;refine aj (ob h) λj h2 h=>?_;exact aw (eg h0) λpx e=>.inl (iG x px j e h2 ((Jd h).symm))
theorem xO{e o:Expr}{m:Str}{ap cp:Pos}(h:Aj e=aa (o,m,ap,cp)):e=.Call (.Attribute o m ap) [] [] cp:=by
 refine aj (ob h) λz0 h1 h=>?_;obtain⟨f,as,p⟩:=z0;induction as using List.casesOn with
 | cons=>exact nS h
 | nil=>
  refine aj (ob h) λz0 h2 h=>?_;obtain⟨o',m',ap'⟩:=z0;cases h;exact(o5 h1).trans (congrArg (λf=>Expr.Call f [] [] p) (nW h2))
theorem DO{as:List Expr}{o:Expr}{m:Str}{ap cp:Pos}(h:Ak as=aa (o,m,ap,cp)):as=[.Call (.Attribute o m ap) [] [] cp]:=by
 unfold Ak at h;split at h
 ·rw[xO h]
 ·exact nS h
theorem mS{e:Expr}{x:Str}{as:List Expr}{cp:Pos}(h:mT e=aa (x,as,cp)):∃p,e=.Call (.Name x p) as [] cp:=by
 refine aj (ob h) λz0 h1 h=>?_;obtain⟨f,as',p⟩:=z0;refine aj (ob h) λy h2 h=>?_;cases h;refine aw (eg h2) λp z0=>?_;clear h h2;subst z0;exact⟨p,o5 h1⟩
theorem rA{e:Expr}{x m:Str}{ap cp:Pos}{as:List Expr}(h:qc e=aa (x,m,ap,as,cp)):∃p,e=.Call (.Attribute (.Name x p) m ap) as [] cp:=by
 refine aj (ob h) λz0 h1 h=>?_;obtain⟨f,as',p⟩:=z0;refine aj (ob h) λz0 h2 h=>?_;obtain⟨o,m',ap'⟩:=z0;refine aj (ob h) λy h3 h=>?_;cases h;refine aw (eg h3) λq hq=>?_;exact⟨q,(o5 h1).trans (congrArg (λf=>Expr.Call f _ [] _) ((nW h2).trans (congrArg (λo=>Expr.Attribute o _ _) hq)))⟩
theorem uP{s:Stmt}{e:Expr}(h:yE s=aa e):∃p,s=.Return (aa e) p:=by
 induction s using Stmt.casesOn<;>first|exact nS h|(cases h;exact⟨_,rfl⟩)
theorem xm{e c:Option Expr}{x:Str}{a b:Expr}(h:xn e c=aa (x,a,b)):∃p q,e=aa (.Call (.Name x p) [a,b] [] q)/\c=ae:=by
 induction c using Option.casesOn with
 | some=>exact nS h
 | none=>
  refine aj (ob h) λe z0 h=>?_;subst z0;refine aj (ob h) λz0 h1 h=>?_;obtain⟨y,as,q⟩:=z0;dsimp only at h
  split at h
  ·cases h;refine xs11 e (mS h1) λp=>?_;exact gw _ _ rfl rfl
  ·exact nS h
theorem B8{h:ExceptHandler}{c n m a:Str}(q:DR h=aa (c,n,m,a)):∃p1 p2 p3 p4 p5,h=.ExceptHandler (aa (.Name c p1)) (aa n) [.Return (aa (.Attribute (.Name m p2) a p3)) p4] p5:=by
 obtain⟨t,n',b,p⟩:=h;refine xs12 t (ob q) λe q1=>?_;refine aj (ob q1) λn' z0 q2=>?_;subst z0;clear q q1
 split at q2
 ·refine aj (ob q2) λc' h1 q=>?_;refine aj (ob q) λv h2 q=>?_;refine aj (ob q) λz0 h3 q=>?_;obtain⟨o,a',ap⟩:=z0;refine aj (ob q) λm' h4 q=>?_;cases q;refine xs11 e (eg h1) λzz=>?_;refine xs11 s (uP h2) λzz=>?_;refine aw (eg h4) λzz hq=>?_;have h3:=nW h3;dsimp only at h3 hq;clear h4 h2 q2;subst hq h3;exact⟨_,_,_,_,_,rfl⟩
 ·exact nS q2
set_option tactic.hygienic true
theorem si(e:Expr):(∀x,sj e=.nm x->∃p,e=.Name x p)/\(∀ts,sj e=.tp ts->∃c p,e=.Tuple ts c p)/\∀x i,sj e=.sub x i->∃p q,e=.Subscript (.Name x p) i q:=by
 have q:=jA e;unfold sj;revert q;induction hv e using HV.casesOn<;>intro q
 case name=>exact⟨λx h=>by(injection h with h9;subst h9);exact q,(λJ h=>nomatch h),(λJ J h=>nomatch h)⟩
 case tup=>exact⟨(λJ h=>nomatch h),λx h=>by(injection h with h9;subst h9);exact q,(λJ J h=>nomatch h)⟩
 case sub o i=>
  dsimp only;induction ho:gu o using Option.casesOn with
  | none=>exact⟨(λJ h=>nomatch h),(λJ h=>nomatch h),(λJ J h=>nomatch h)⟩
  | some y=>
   refine⟨(λJ h=>nomatch h),(λJ h=>nomatch h),λx j h=>?_⟩;cases h;refine aw (eg ho) λzz z0=>?_;clear ho;subst z0;refine aw q λzz z0=>?_;clear q;subst z0;exact fU _ _ rfl
 all_goals exact⟨(λJ h=>nomatch h),(λJ h=>nomatch h),(λJ J h=>nomatch h)⟩
set_option tactic.hygienic false
theorem ql{l:List Expr}(h:qW l≠.no):∃e,l=[e]/\qW l=sj e:=by
 unfold qW at h ⊢;split at h
 ·exact au _ rfl rfl
 ·exact absurd rfl h
theorem CX{l:List Expr}{x:Str}(h:qW l=.nm x):∃p,l=[.Name x p]:=by
 refine xs12 l (ql (l:=l) (by rw[h];intro q;exact(nomatch q))) λe h2=>?_;refine xs11 e ((si e).1 x (h2.symm.trans h)) λp=>?_;exact⟨p,rfl⟩
theorem CV{l ts:List Expr}(h:qW l=.tp ts):∃c p,l=[.Tuple ts c p]:=by
 refine xs12 l (ql (l:=l) (by rw[h];intro q;exact(nomatch q))) λe h2=>?_;refine xs21 e ((si e).2.1 ts (h2.symm.trans h)) λc p=>?_;exact fU c p rfl
theorem Bm{l:List Expr}{x:Str}{i:Expr}(h:qW l=.sub x i):∃p q,l=[.Subscript (.Name x p) i q]:=by
 refine xs12 l (ql (l:=l) (by rw[h];intro q;exact(nomatch q))) λe h2=>?_;refine xs21 e ((si e).2.2 x i (h2.symm.trans h)) λp q=>?_;exact fU p q rfl
end
section
theorem qG(a b:Int):pP a b=af↔a=b:=by
 induction a using Int.casesOn<;>induction b using Int.casesOn<;>simp only[pP,Nat.beq_eq,Int.ofNat.injEq,Int.negSucc.injEq,Jo,false_iff,reduceCtorEq,not_false_eq_true]
theorem m7(a b:Int):pP a b=(a==b):=by
 rw[Bool.eq_iff_iff,qG];simp
theorem blt_dec(m n:Nat):Nat.blt m n=decide (m<n):=by
 rw[Bool.eq_iff_iff];simp[Nat.blt,Nat.ble_eq];lia
set_option tactic.hygienic true
theorem gT(a b:Int):oj a b=decide (a<b):=by
 induction a using Int.casesOn<;>induction b using Int.casesOn<;>simp only[oj,blt_dec]
 ·rename_i m n;rw[decide_eq_decide];simp
 ·rename_i m n;symm;exact decide_eq_false (by dsimp only[JH];exact j9 _)
 ·rename_i m n;symm;exact decide_eq_true (by have:=Int.negSucc_lt_zero ‹Nat›;simp only[JH];lia)
 ·rename_i m n;rw[decide_eq_decide];lia
theorem kZ(b:Bool):kK b=!b:=by induction b using Bool.casesOn<;>rfl
theorem tB(a b:Int):xR a b=decide (a<=b):=by
 unfold xR;rw[gT,kZ,← decide_not,decide_eq_decide];lia
set_option tactic.hygienic false
theorem Bo(m n:Nat):vU m n=(m:Int)-n:=by
 unfold vU;induction h:Nat.ble n m using Bool.casesOn with
 | true=>have:=Nat.le_of_ble_eq_true h;show Int.ofNat (m-n)=_;dsimp only[JH];omega
 | false=>
  have:¬n<=m:=λq=>by simp only[Nat.ble_eq_true_of_le q]at h;exact tF h
  show Int.negSucc (Nat.pred (n-m))=_;simp only[Int.negSucc_eq];dsimp only[Nat.pred_eq_sub_one];omega
theorem jE(a b:Int):cQ a b=a+b:=by
 induction a using Int.casesOn<;>induction b using Int.casesOn<;>simp only[cQ,Bo,Nat.add_eq,JH,Int.negSucc_eq]<;>exact rfl
theorem qx(n:Nat):qy n=-(n:Int):=by induction n using Nat.casesOn<;>rfl
theorem u1(a:Int):za a=-a:=by
 induction a using Int.casesOn with
 | ofNat m=>exact qx m
 | negSucc m=>rfl
theorem lh(a b:Int):eR a b=a-b:=by unfold eR;simp only[jE,u1];rfl
theorem qE(a b:Int):gC a b=a*b:=by
 induction a using Int.casesOn<;>induction b using Int.casesOn<;>simp only[gC,qx,Nat.mul_eq,JH,Int.negSucc_eq,Int.natCast_mul,Int.natCast_succ]
 ·simp only[Int.mul_neg]
 ·simp only[Int.neg_mul]
 ·simp only[Int.neg_mul_neg]
theorem B7(a b:Int):qH a b=Int.fdiv a b:=by
 induction a using Int.casesOn with
 | ofNat m=>induction b using Int.casesOn with
  | ofNat n=>induction m using Nat.casesOn with
   | zero=>show Int.ofNat (0 / n)=0;rw[Nat.zero_div];rfl
   | succ m=>rfl
  | negSucc n=>induction m using Nat.casesOn<;>rfl
 | negSucc m=>induction b using Int.casesOn with
  | ofNat n=>induction n using Nat.casesOn<;>rfl
  | negSucc n=>rfl
theorem u2(a b:Int):qF a b=Int.fmod a b:=by
 induction a using Int.casesOn with
 | ofNat m=>induction b using Int.casesOn with
  | ofNat n=>induction m using Nat.casesOn with
   | zero=>show Int.ofNat (0 % n)=0;simp only[Nat.zero_mod];rfl
   | succ m=>rfl
  | negSucc n=>induction m using Nat.casesOn with
   | zero=>rfl
   | succ k=>
    show cQ (.negSucc n) (.ofNat (Nat.succ (k % Nat.succ n)))=Int.subNatNat (k % Nat.succ n) n;simp only[jE,Int.subNatNat_eq_coe,Int.negSucc_eq];dsimp only[JH];lia
 | negSucc m=>induction b using Int.casesOn with
  | ofNat n=>
   show eR (.ofNat n) (.ofNat (Nat.succ (m % n)))=Int.subNatNat n (Nat.succ (m % n));simp only[lh,Int.subNatNat_eq_coe];rfl
  | negSucc n=>
   show qy (Nat.succ m % Nat.succ n)=_;simp only[qx];rfl
theorem B6(a:Int)(n:Nat):y9 a n=a^n:=by
 induction n with
 | zero=>exact(Int.pow_zero a).symm
 | succ n ih=>show gC (y9 a n) a=_;simp only[qE,ih,Int.pow_succ]
theorem iT{a:Int}(h:gI a=af):a.natAbs<2^64:=by
 induction a using Int.casesOn with
 | ofNat n=>dsimp only[gI,blt_dec,decide_eq_true_eq]at h;simpa using h
 | negSucc n=>simp only[gI,blt_dec,decide_eq_true_eq]at h;simp only[Int.natAbs_negSucc];exact Nat.lt_succ_of_le h
theorem jz:∀(a b:List Nat),gM a b=af↔a=b
 | [],[]=>by simp[gM]
 | [],_::_=>by simp[gM]
 | _::_,[]=>by simp[gM]
 | a::as,b::bs=>by
  have e:gM (a::as) (b::bs)=@Jp (λJ=>Bool) ag (gM as bs) (Nat.beq a b):=rfl;refine rwl e ?_;induction h:Nat.beq a b using Bool.casesOn with
  | true=>simp only[jz as bs,List.cons.injEq,Nat.eq_of_beq_eq_true h,true_and]
  | false=>simp only[Jo,List.cons.injEq,Nat.ne_of_beq_eq_false h,false_and]
theorem rk(a b:List Nat):gM a b=(a==b):=by rw[Bool.eq_iff_iff,jz];simp
theorem kc:∀(a b:List Nat),ir a b=decide (a<b)
 | [],[]=>by simp[ir]
 | [],_::_=>by simp[ir]
 | _::_,[]=>by simp[ir]
 | a::as,b::bs=>by
  have e:ir (a::as) (b::bs)=@Jp (λJ=>Bool) (@Jp (λJ=>Bool) ag (ir as bs) (Nat.beq a b)) af (Nat.blt a b):=rfl;rw[e,blt_dec];by_cases h:a<b
  ·rw[decide_eq_true h];symm;exact decide_eq_true (List.cons_lt_cons_iff.mpr (.inl h))
  ·rw[decide_eq_false h];induction q:Nat.beq a b using Bool.casesOn with
   | true=>
    have:=Nat.eq_of_beq_eq_true q;clear e h q;subst this;show ir as bs=_;rw[kc as bs,decide_eq_decide,List.cons_lt_cons_iff];simp
   | false=>
    have:=Nat.ne_of_beq_eq_false q;show ag=_;symm;exact decide_eq_false λx=>by
     rcases List.cons_lt_cons_iff.mp x with y|⟨y,_⟩
     ·exact h y
     ·exact this y
theorem gj{α:Type}(l m:List α):app l m=l++m:=by
 induction l with
 | nil=>rfl
 | cons a l ih=>show a::app l m=_;refine rwl ih ?_;rfl
theorem cj{α:Type}(l:List α):dA l=l.length:=by
 induction l with
 | nil=>rfl
 | cons a l ih=>show Nat.succ (dA l)=_;refine rwl ih ?_;rfl
theorem dg{α:Type}:∀{n:Nat}{l:List α},short n l=af->l.length<=n
 | _,[],_=>JC _
 | 0,_::_,h=>by exact fT h
 | n+1,_::l,h=>Nat.succ_le_succ (dg (n:=n) (l:=l) h)
theorem hJ{α:Type}:∀(l:List α)(n:Nat),eY l n=l[n]?
 | [],_=>by simp[eY]
 | a::l,0=>rfl
 | a::l,n+1=>by
  have:=hJ l n;show eY l n=_;simp only[this];simp
theorem oJ{α:Type}:∀(l:List α)(n:Nat)(x:α),setAt l n x=l.set n x
 | [],_,_=>by simp[setAt]
 | a::l,0,x=>rfl
 | a::l,n+1,x=>by show a::setAt l n x=_;refine rwl (oJ l n x) ?_;simp
theorem oH{α:Type}:∀(l:List α)(n:Nat),pn l n=l.take n
 | [],_=>by simp[pn]
 | a::l,0=>rfl
 | a::l,n+1=>by show a::pn l n=_;refine rwl (oH l n) ?_;simp
theorem l9{α:Type}:∀(l:List α)(n:Nat),nP l n=l.drop n
 | [],_=>by simp[nP]
 | a::l,0=>rfl
 | a::l,n+1=>by show nP l n=_;refine rwl (l9 l n) ?_;simp
theorem uO{α:Type}(l m:List α):yD l m=l.reverse++m:=by
 induction l generalizing m with
 | nil=>rfl
 | cons a l ih=>show yD l (a::m)=_;simp only[ih];simp
end
section
open PySem
theorem Ap{α:Type}(n:Nat)(k:Nat->α):fN n k=k n:=by
 match n with
 | 0|1|2|n+3=>rfl
theorem wC{α:Type}(i:Int)(k:Int->α):fI i k=k i:=by
 induction i using Int.casesOn with
 | ofNat n=>exact Ap n λn=>k (.ofNat n)
 | negSucc n=>exact Ap n λn=>k (.negSucc n)
theorem Aq{α:Type}(b:Bool)(k:Bool->α):fB b k=k b:=by induction b using Bool.casesOn<;>rfl
theorem pX{α:Type}:∀(l:List V)(k:List V->α),fL l k=k l
 | [],_=>rfl
 | a::l,k=>pX l λr=>k (a::r)
theorem pW{α:Type}(v:V)(k:V->α):fS v k=k v:=by
 induction v using V.casesOn with
 | bool b=>exact Aq b λb=>k (.bool b)
 | int i=>exact wC i λi=>k (.int i)
 | tup l=>exact pX l λl=>k (.tup l)
 | lst l=>exact pX l λl=>k (.lst l)
 | bh l m=>exact(pX l λl=>fL m λm=>k (.bh l m)).trans (pX m λm=>k (.bh l m))
 | _=>rfl
mutual
theorem Ao{α:Type}:∀(v:V)(k:V->α),fV v k=k v
 | .none,_=>rfl
 | .bool b,k=>Aq b λb=>k (.bool b)
 | .int i,k=>wC i λi=>k (.int i)
 | .str _,_=>rfl
 | .tup l,k=>tN l λl=>k (.tup l)
 | .lst l,k=>tN l λl=>k (.lst l)
 | .bh _ _,_=>rfl
 | .clo _ _,_=>rfl
theorem tN{α:Type}:∀(l:List V)(k:List V->α),@V.rec_1 (λJ=>(V->α)->α) (λJ=>(List V->α)->α) (λk=>k .none) (λb k=>fB b λb=>k (.bool b)) (λi k=>fI i λi=>k (.int i)) (λs k=>k (.str s)) (λJ ih k=>ih λl=>k (.tup l)) (λJ ih k=>ih λl=>k (.lst l)) (λl m J J k=>k (.bh l m)) (λf l J k=>k (.clo f l)) (λk=>k []) (λJ J ih jh k=>ih λv=>jh λl=>k (v::l)) l k=k l
 | [],_=>rfl
 | v::l,k=>(Ao v λv=>_).trans (tN l λl=>k (v::l))
end
theorem fh(f:V->Option V)(x:aA):ba f x=c1 f x:=by funext c ρ p;delta ba c1;simp only[pW]
theorem fi(f:V->Option V)(x:aA):gh f x=c1 f x:=by funext c ρ p;delta gh c1;simp only[Ao]
theorem eM(f:V->V->Option V)(x y:aA):aK f x y=c2 f x y:=by funext c ρ p;delta aK c2;simp only[pW]
theorem fR(x:aA):cF x=x:=by
 funext c ρ p;delta cF;simp only[pW];induction x c ρ p using Res.casesOn<;>rfl
theorem ud(f:Nat)(xs:List bk)(c:Call)(ρ:Fr)(p:List V):ah f xs c ρ p=(@aV.rec (λJ=>Res) Res.stuck (λl p=>nT c f l p) Res.exc (dq xs c ρ p)):=rfl
end
section
open PySem PySem.Calls PyProof.Rows
noncomputable def aY:IZ:=.type "frame"
def Kc(o:Obj):Prop:=o.cls≠aY/\o.cls≠.none
noncomputable def oF (vs:List IZ) (n:Nat):Obj:={ cls:=.type "tuple",dict:=ae,data:=.seq vs.toArray n,slots:=#[] }
noncomputable def dn (vs:List IZ) (n:Nat):Obj:={ cls:=.type "list",dict:=ae,data:=.seq vs.toArray n,slots:=#[] }
noncomputable def dH (es:List I2) (n:Nat):Obj:={ cls:=.type "dict",dict:=ae,data:=.dict es.toArray n,slots:=#[] }
noncomputable abbrev most:Nat:=8000
def TupAt(h:Heap)(a:I1)(vs:List IZ):Prop:=vs.length<=most/\∃n,h.get? a=aa (oF vs n)
def LstAt(h:Heap)(a:I1)(vs:List IZ):Prop:=vs.length<=most/\∃n,h.get? a=aa (dn vs n)
def eO(h:Heap)(a:I1)(es:List I2):Prop:=((a==sysModules)=ag/\es.length<=most)/\∃n,h.get? a=aa (dH es n)
def gW (C:Cfg) (X:AP) (h:Heap) (c:I1):Prop:=¬X c/\∃o vs t,h.get? c=aa o/\o.cls=.type "code" /\ o.data=.fields vs/\vs[1]?=aa (.str C.lqual t)
def rY (C:Cfg) (X:AP) (h:Heap) (f:Nat) (a:I1) (cs:List I1):Prop:=∃o fd c,h.get? a=aa o/\o.cls=.type "function" /\ o.data=.func fd/\C.lam f fd cs/\fd.code=.ref c/\gW C X h c
def du (h:Heap) (c:I1) (v:IZ):Prop:=∃o,h.get? c=aa o/\o.cls=.type "cell" /\ o.data=.cell (aa v)
noncomputable def CellsAre(h:Heap):List I1->List IZ->Prop
 | [],vs=>vs=[]
 | c::cs,vs=>∃v r,vs=v::r/\du h c v/\CellsAre h cs r
def ji(ks:List V):Prop:=∀k∈ks,keyOk 8 k=af
mutual
noncomputable def aq(C:Cfg)(X:AP)(h:Heap):V->IZ->Prop
 | .none,v=>v=.none
 | .bool b,v=>v=.bool b
 | .int i,v=>∃t,v=.int i t
 | .str s,v=>∃x t,v=.str x t/\x.cps.toList=s
 | .tup l,v=>∃a vs,v=.ref a/\¬X a/\TupAt h a vs/\av C X h l vs
 | .lst l,v=>∃a vs,v=.ref a/\¬X a/\LstAt h a vs/\av C X h l vs
 | .bh ks xs,v=>∃a es,v=.ref a/\¬X a/\eO h a es/\av C X h ks (es.map (·.key))/\av C X h xs (es.map (·.val))/\es.map (·.hash)=bq C.w ks/\ji ks
 | .clo f caps,v=>∃a cs vs,v=.ref a/\¬X a/\rY C X h f a cs/\(∀c∈cs,¬X c)/\CellsAre h cs vs/\av C X h caps vs
noncomputable def av(C:Cfg)(X:AP)(h:Heap):List V->List IZ->Prop
 | [],vs=>vs=[]
 | x::xs,vs=>∃v r,vs=v::r/\aq C X h x v/\av C X h xs r
end
variable{X X':AP}{h h':Heap}
def cv (c:IZ):Prop:=c=.type "tuple" \/ c=.type "list" \/ c=.type "dict" \/ (c=.type "function" \/ c=.type "code")\/c=.type "cell"
def Tr(X:AP)(h:Heap)(X':AP)(h':Heap):Prop:=∀a o,h.get? a=aa o->cv o.cls->¬X a->h'.get? a=aa o/\¬X' a
theorem bx {o:Obj} {n:String} (hc:o.cls=.type n) (hn:n ≠ "frame"):Kc o:=by
 unfold Kc;refine rwl hc ?_;exact⟨λe=>by(injection e with h9;clear hc;subst h9);exact hn rfl,λe=>by injection e⟩
theorem cv.ne{o:Obj}(h:cv o.cls):Kc o:=by
 unfold Kc;rcases h with h|h|h|(h|h)|h<;>refine rwl h ?_<;>simp[aY]
theorem TupAt.tr{a:I1}{vs:List IZ}(x:TupAt h a vs)(t:Tr X h X' h')(hx:¬X a):TupAt h' a vs/\¬X' a:=
 let ⟨q,n,ho⟩:=x;⟨⟨q,n,(t a _ ho (.inl rfl) hx).1⟩,(t a _ ho (.inl rfl) hx).2⟩
theorem LstAt.tr{a:I1}{vs:List IZ}(x:LstAt h a vs)(t:Tr X h X' h')(hx:¬X a):LstAt h' a vs/\¬X' a:=
 let ⟨q,n,ho⟩:=x;⟨⟨q,n,(t a _ ho (.inr (.inl rfl)) hx).1⟩,(t a _ ho (.inr (.inl rfl)) hx).2⟩
theorem eO.tr{a:I1}{es:List I2}(x:eO h a es)(t:Tr X h X' h')(hx:¬X a):eO h' a es/\¬X' a:=
 let ⟨q,n,ho⟩:=x;⟨⟨q,n,(t a _ ho (.inr (.inr (.inl rfl))) hx).1⟩,(t a _ ho (.inr (.inr (.inl rfl))) hx).2⟩
theorem gW.tr{c:I1}(x:gW C X h c)(t:Tr X h X' h'):gW C X' h' c:=
 ao x λhx z=>dz z λo vs tk ho hc r=>ao (t c o ho (.inr (.inr (.inr (.inl (.inr hc))))) hx) λq1 q2=>⟨q2,o,vs,tk,q1,hc,r⟩
theorem rY.tr{f:Nat}{a:I1}{cs:List I1}(x:rY C X h f a cs)(t:Tr X h X' h')(hx:¬X a):rY C X' h' f a cs/\¬X' a:=
 oC x λo fd c ho hc hd he hl r=>ao (t a o ho (.inr (.inr (.inr (.inl (.inl hc))))) hx) λq1 q2=>⟨(se o fd c q1 hc hd he hl (r.tr t)),q2⟩
theorem CellsAre.tr(t:Tr X h X' h'){cs:List I1}{vs:List IZ}(x:CellsAre h cs vs)(hX:∀c∈cs,¬X c):CellsAre h' cs vs/\∀c∈cs,¬X' c:=by
 induction cs generalizing vs with
 | nil=>exact⟨x,λJ hc=>nomatch hc⟩
 | cons c cs ih=>
  refine aW x λv r e z y=>?_;refine aQ z λo ho hc hd=>?_;refine ao (ih y λc' hc'=>hX c' (Jr _ hc')) λy' z=>?_;refine ao (t c o ho (.inr (.inr (.inr (.inr hc)))) (hX c Js)) λq1 q2=>?_;exact⟨(bX v r e (aU o q1 hc hd) y'),λc' hc'=>(Jx.mp hc').elim (λe=>e▸q2) (z c')⟩
mutual
theorem aq.tr(t:Tr X h X' h'):∀{v:V}{x:IZ},aq C X h v x->aq C X' h' v x
 | .none,_,r=>by simpa [aq]using r
 | .bool _,_,r=>by simpa [aq]using r
 | .int _,_,r=>by simpa [aq]using r
 | .str _,_,r=>by simpa [aq]using r
 | .tup l,_,r=>by
  simp only[aq]at r ⊢;refine dO r λa vs e hx ht q=>?_;refine ao (ht.tr t hx) λy z=>?_;exact d8 a vs e z y (av.tr t q)
 | .lst l,_,r=>by
  simp only[aq]at r ⊢;refine dO r λa vs e hx ht q=>?_;refine ao (ht.tr t hx) λy z=>?_;exact d8 a vs e z y (av.tr t q)
 | .bh ks xs,_,r=>by
  simp only[aq]at r ⊢;refine jH r λa es e hx ht q1 q2 q3=>?_;refine ao (ht.tr t hx) λy z=>?_;exact qh a es e z y (av.tr t q1) (av.tr t q2) q3
 | .clo f caps,_,r=>by
  simp only[aq]at r ⊢;refine oC r λa cs vs e hx ht hc q1 q2=>?_;refine ao (ht.tr t hx) λy z=>?_;refine ao (CellsAre.tr t q1 hc) λy' z'=>?_;exact se a cs vs e z y z' y' (av.tr t q2)
theorem av.tr(t:Tr X h X' h'):∀{l:List V}{vs:List IZ},av C X h l vs->av C X' h' l vs
 | [],_,r=>by simpa [av]using r
 | x::xs,_,r=>by
  simp only[av]at r ⊢;refine aW r λv rr e q1 q2=>?_;exact bX v rr e (aq.tr t q1) (av.tr t q2)
end
theorem av.length:∀{l:List V}{vs:List IZ},av C X h l vs->vs.length=l.length
 | [],_,r=>by simp only[av]at r;subst r;rfl
 | x::xs,_,r=>by
  simp only[av]at r;refine aW r λv rr z0 zz q2=>?_;clear r;subst z0;simp[av.length q2]
theorem av.nil:av C X h [] []:=by simp[av]
theorem av.cons{x:V}{v:IZ}{xs:List V}{vs:List IZ}(a:aq C X h x v)(b:av C X h xs vs):av C X h (x::xs) (v::vs):=by
 simp only[av];exact bX v vs rfl a b
theorem av.fz{x:V}{v:IZ}{xs:List V}{vs:List IZ}:av C X h (x::xs) (v::vs)↔aq C X h x v/\av C X h xs vs:=by
 simp only[av];constructor
 ·rintro ⟨_,_,e,a,b⟩;injection e with zq1 zq2;(try subst zq1);(try subst zq2);exact⟨a,b⟩
 ·rintro ⟨a,b⟩;exact bX v vs rfl a b
theorem av.append:∀{l m:List V}{vs ws:List IZ},av C X h l vs->av C X h m ws->av C X h (l++m) (vs++ws)
 | [],_,_,_,a,b=>by simp only[av]at a;subst a;simpa using b
 | x::xs,_,_,_,a,b=>by
  simp only[av]at a;refine aW a λv r z0 q1 q2=>?_;clear a;subst z0;exact .cons q1 (av.append q2 b)
theorem av.get:∀{l:List V}{vs:List IZ}{n:Nat}{x:V},av C X h l vs->l[n]?=aa x->∃v,vs[n]?=aa v/\aq C X h x v
 | [],_,_,_,_,e=>by simp at e
 | y::ys,_,0,_,a,e=>by
  simp only[av]at a;refine aW a λv r z0 q1 q2=>?_;clear a;subst z0;simp at e;subst e;exact au v (by simp) q1
 | y::ys,_,n+1,_,a,e=>by
  simp only[av]at a;refine aW a λv r z0 q1 q2=>?_;clear a;subst z0;simp at e;refine aj (av.get q2 e) λv' e' q'=>?_;exact au v' (by simpa using e') q'
def Base(C:Cfg)(h:Heap):Prop:=∀b o,C.h₀.get? b=aa o->h.get? b=aa o
def cX(C:Cfg)(X:AP)(h:Heap):Prop:=h.get? C.pl=aa { cls:=.none,data:=.fields #[] }\/
 ∃c',h.get? C.pl=aa { cls:=.none,data:=.fields #[rawInt C.lpos.line,rawInt C.lpos.col,.ref c'] }/\gW C X h c'
def NC (h:Heap) (b:I1):Prop:=∀o,h.get? b=aa o->(o.cls≠.type "code" /\ o.cls≠.none)\/∀ps,o.data≠.fields ps
theorem NC.code{X:AP}{h:Heap}{b:I1}(x:NC h b)(y:gW C X h b):False:=by
 refine ao y λzz zq=>?_;refine d9 zq λo vs t h1 h2 h3 zz=>?_;rcases x o h1 with⟨e,_⟩|e
 ·exact e h2
 ·exact e _ h3
theorem cX.but{X X':AP}{h h':Heap}{W:AP}(x:cX C X h)(k:∀b o,h.get? b=aa o->¬W b->h'.get? b=aa o)(hw:∀b,W b->NC h b)(hX:∀b,X' b->X b\/NC h b):cX C X' h':=by
 rcases x with x|⟨c',x,y⟩
 ·refine .inl (k _ _ x λw=>?_);rcases hw _ w _ x with⟨_,e⟩|e
  ·exact e rfl
  ·exact e _ rfl
 ·refine .inr (aU c' (k _ _ x λw=>?_) (λq=>?_) ?_)
  ·rcases hw _ w _ x with⟨_,e⟩|e
   ·exact e rfl
   ·exact e _ rfl
  ·exact(hX c' q).elim y.1 λn=>n.code y
  ·have hnw:¬W c':=λw=>(hw c' w).code y;refine ao y λzz zq=>?_;refine lA zq λo vs t h1 h2=>?_;exact Hp o vs t (k _ _ h1 hnw) h2
theorem cX.keeps{X X':AP}{h h':Heap}(x:cX C X h)(k:∀b o,h.get? b=aa o->h'.get? b=aa o)(hX:∀b,X' b->X b\/NC h b):cX C X' h':=x.but (W:=λJ=>False) (λb o e J=>k b o e) (λJ q=>q.elim) hX
theorem cX.wm{X:AP}{h h':Heap}(x:cX C X h)(k:∀b o,h.get? b=aa o->h'.get? b=aa o):cX C X h':=x.keeps k λJ q=>.inl q
theorem cX.qQ{X:AP}{h h':Heap}{W:AP}(x:cX C X h)(k:∀b o,h.get? b=aa o->¬W b->h'.get? b=aa o)(hw:∀b,W b->NC h b):cX C X h':=x.but k hw λJ q=>.inl q
theorem cX.mono{X X':AP}{h:Heap}(x:cX C X h)(hX:∀b,X' b->gW C X h b->X b):cX C X' h:=
 x.imp id λz9=>aj z9 λc' a b=>aU c' a (λq=>b.1 (hX c' q b)) b.2
theorem NC.none{h:Heap}{b:I1}(e:h.get? b=ae):NC h b:=λo q=>by rw[e]at q;exact nS q
theorem NC.jT {h:Heap} {b:I1} {o:Obj} {n:String} (ho:h.get? b=aa o) (hc:o.cls=.type n) (hn:n ≠ "code"):NC h b:=λo' e=>by rw[ho]at e;(injection e with h9;subst h9);exact .inl ⟨by rw[hc];exactλq=>by(injection q with h9;clear hc;subst h9);exact hn rfl,by rw[hc];simp⟩
theorem NC.ka{h:Heap}{b:I1}{m:Str->Option IZ}(x:h.Ns b m):NC h b:=λo' e=>by
 refine dz x λo es ep ho hd zz=>?_;rw[ho]at e;obtain rfl:=Jd e;exact .inr λps q=>by rw[hd]at q;exact(nomatch q)
def G0(o:Obj):Prop:=o.cls=.none/\∃ps,o.data=.fields ps
structure Ext(C:Cfg)(Pn:AP)(h h':Heap):Prop where
 base:Base C h'
 keep:∀b o,h.get? b=aa o->¬Pn b->Kc o->h'.get? b=aa o
 data:∀b o,h.get? b=aa o->¬Pn b->∃o',h'.get? b=aa o'/\o'.cls=o.cls/\(G0 o\/o'.data=o.data)
 tab:∀X,cX C X h->cX C (λb=>X b/\¬Pn b/\∃o,h.get? b=aa o) h'
section
variable{Pn:AP}{h h' h'':Heap}
theorem Ext.of_keeps(hb:Base C h)(k:∀b o,h.get? b=aa o->h'.get? b=aa o):Ext C Pn h h':=
 ⟨λb o e=>k b o (hb b o e),λb o e J J=>k b o e,λb o e J=>aU o (k b o e) rfl (.inr rfl),λX x=>x.keeps k λb q=>.inl q.1⟩
theorem Ext.refl(hb:Base C h):Ext C Pn h h:=.of_keeps hb (λJ J e=>e)
theorem Ext.trans(a:Ext C Pn h h')(b:Ext C Pn h' h''):Ext C Pn h h'':=by
 refine⟨b.base,λx o e hp hc=>b.keep x o (a.keep x o e hp hc) hp hc,λx o e hp=>?_,λX x=>(b.tab _ (a.tab X x)).mono λc q J=>⟨q,q.2.1,aw q.2.2 λo e=>aj (a.data c o e q.2.1) λo' e' zz=>⟨o',e'⟩⟩⟩;refine aQ (a.data x o e hp) λo' e' c1 d1=>?_;refine aQ (b.data x o' e' hp) λo'' e'' c2 d2=>?_;refine aU o'' e'' (c2.trans c1) ?_;rcases d1 with d1|d1
 ·exact .inl d1
 ·rcases d2 with⟨q,ps,r⟩|d2
  ·exact .inl ⟨c1.symm.trans q,ps,d1.symm.trans r⟩
  ·exact .inr (d2.trans d1)
theorem Ext.push(hb:Base C h)(o:Obj):Ext C Pn h (h.push o):=.of_keeps hb (λJ J e=>Jg o e)
end
structure Nx(C:Cfg)(Pn:AP)(s s':IY):Prop where
 ext:Ext C Pn s.heap s'.heap
 gens:s'.gens=s.gens
 os:s'.os=s.os
theorem Nx.trans{Pn:AP}{s s' s'':IY}(a:Nx C Pn s s')(b:Nx C Pn s' s''):Nx C Pn s s'':=⟨a.ext.trans b.ext,b.gens.trans a.gens,b.os.trans a.os⟩
theorem Nx.toks{Pn:AP}{s:IY}(hb:Base C s.heap)(t:Tok):Nx C Pn s { s with toks:=t }:=⟨.refl hb,rfl,rfl⟩
theorem Nx.refl{Pn:AP}{s:IY}(hb:Base C s.heap):Nx C Pn s s:=⟨.refl hb,rfl,rfl⟩
set_option backward.eqns.nonrecursive false in
noncomputable def aP(C:Cfg)(X:AP)(h:Heap):V->I1->Prop
 | .lst l,a=>∃vs,LstAt h a vs/\av C X h l vs
 | .bh ks xs,a=>∃es,eO h a es/\av C X h ks (es.map (·.key))/\av C X h xs (es.map (·.val))/\es.map (·.hash)=bq C.w ks/\ji ks
 | _,_=>False
def bC(C:Cfg)(X Pn:AP)(h:Heap)(v:V)(x:IZ):Prop:=aq C X h v x\/∃a,x=.ref a/\¬Pn a/\aP C X h v a
def jo(b:Bool)(C:Cfg)(X Pn:AP)(h:Heap)(v:V)(x:IZ):Prop:=match b with
 | true=>bC C X Pn h v x
 | false=>aq C X h v x
theorem jo.b{b:Bool}{X Pn:AP}{h:Heap}{v:V}{x:IZ}(r:jo b C X Pn h v x):bC C X Pn h v x:=by
 induction b using Bool.casesOn with
 | true=>exact r
 | false=>exact .inl r
theorem jo.of{b:Bool}{X Pn:AP}{h:Heap}{v:V}{x:IZ}(r:aq C X h v x):jo b C X Pn h v x:=by
 induction b using Bool.casesOn with
 | true=>exact .inl r
 | false=>exact r
structure bA(C:Cfg)(X Pn:AP)(h:Heap)(p:List V):Prop where
 one:∀P P',Pn P->Pn P'->P=P'
 at_:∀P,Pn P->∃vs,LstAt h P vs/\av C X h p vs
def Reads(env:Env)(h:Heap)(x:Str)(val:IZ):Prop:=match env.kindOf x with
 | some .local=>∃m,h.Ns env.locals m/\m x=aa val
 | some .cell|some .free=>∃c,env.cells.lookup x=aa c/\du h c val
 | _=>False
noncomputable def dE(C:Cfg)(X Pn:AP)(h:Heap):Slot->IZ->Prop
 | .undef,_=>True
 | .val v,x=>aq C X h v x
 | .own v,x=>∃a,x=.ref a/\X a/\¬Pn a/\aP C X h v a
 | .aE,x=>∃P,x=.ref P/\Pn P
structure Vw(C:Cfg)(cx:Cx)(X Pn:AP)(env:Env)(ρ:Fr)(p:List V)(h:Heap):Prop where
 kind:env.scope.kind=.function
 globals:env.globals=I4
 builtins:env.builtins=I5
 kinds:∀x k,cx.sc.lookup x=aa k->(k≠.free->env.kindOf x=aa k)/\(k=.free->env.kindOf x=aa .free\/env.kindOf x=aa .cell)
 cells:∀x,env.kindOf x=aa .cell\/env.kindOf x=aa .free->∃c,env.cells.lookup x=aa c
 vars:∀x j,cx.vars.lookup x=aa j->aJ j ρ≠.undef->∃val,Reads env h x val/\dE C X Pn h (aJ j ρ) val/\val≠.ref env.locals
 own:∀x j v,cx.vars.lookup x=aa j->aJ j ρ=.own v->cx.muts.contains x=af
 caps:∀x c,cx.caps.contains x=af->env.cells.lookup x=aa c->¬X c
 code:cx.caps=[]\/env.code=.ref C.lc/\env.qual++("<lambda>" : Str)=C.lqual
 tab:cX C X h
 aE:bA C X Pn h p
 pnX:∀b,Pn b->X b
 base:Base C h
 lt:∀b,X b->∃o,h.get? b=aa o
 fresh:∀b,X b->C.h₀.get? b=ae
noncomputable def Frames(C:Cfg)(h:Heap):List Env->Prop
 | []=>True
 | env::r=>env.scope.kind≠.module/\(∃L o es ep,env.frame=aa L/\C.h₀.get? L=ae/\h.get? L=aa o/\o.cls=aY/\o.data=.dict es ep)/\Frames C h r
def bf(C:Cfg)(A:I0)(h:Heap):Prop:=∃l,A.frames=aa l/\Frames C h l
structure dU(A:I0)(n:Nat):Prop where
 handled:A.handled=ae
 depth:A.depth+n+3<recursionLimit
 units:A.units+4*n+500<cLine
def ExcAt (C:Cfg) (hs:Heap) (fresh:Bool) (L:Option I1) (k:List Nat) (h:Heap) (e:IZ):Prop:=∃a oe d m x t vs,e=.ref a/\h.get? a=aa oe/\oe.cls=C.cls/\oe.dict=aa d/\h.Ns d m/\m "kind" = aa (.str x t)/\x.cps.toList=k/\
 (hs.get? a=ae/\hs.get? d=ae)/\oe.data=.fields vs/\((fresh=af/\vs[1]?=aa .none)\/∃T oT ts,vs[1]?=aa (.ref T)/\hs.get? T=ae/\T≠a/\h.get? T=aa oT/\oT.cls=.type "traceback" /\ oT.data=.fields ts/\(ts[3]?=aa .none\/∃l,L=aa l/\ts[3]?=aa (rawInt l)))
def iE(C:Cfg)(hs:Heap)(k:List Nat)(h:Heap)(e:IZ):Prop:=ExcAt C hs ag ae k h e
theorem ExcAt.back{hs hs':Heap}{fr:Bool}{L:Option I1}{k:List Nat}{h:Heap}{e:IZ}(x:ExcAt C hs' fr L k h e)(q:∀b o,hs.get? b=aa o->∃o',hs'.get? b=aa o'):ExcAt C hs fr L k h e:=by
 have n:∀{b},hs'.get? b=ae->hs.get? b=ae:=λ{b} e=>by
  induction r:hs.get? b using Option.casesOn with
  | none=>rfl
  | some o=>refine aw (q b o r) λo' r'=>?_;rw[e]at r';exact nS r'
 refine jG x λa oe d m x t zq=>?_;refine kD zq λvs e1 e2 e3 e4 e5 e6 e7 zq=>?_;refine bM zq λe8 e9 e10=>?_;refine⟨a,oe,d,m,x,t,vs,e1,e2,e3,e4,e5,e6,e7,⟨n e8.1,n e8.2⟩,e9,e10.imp id ?_⟩;rintro ⟨T,oT,ts,f1,f2,f3⟩;exact iG T oT ts f1 (n f2) f3
section
variable{X Pn:AP}{h h':Heap}
theorem fe {P:I1} {o:Obj} {n:String} {p:List V} (R:bA C X Pn h p) (ho:h.get? P=aa o) (hc:o.cls=.type n) (hn:n ≠ "list"):¬Pn P:=λhp=>by
 refine aj (R.at_ P hp) λvs z0 zz=>?_;refine ao z0 λzz zq=>?_;refine aw zq λn' ho'=>?_;rw[ho]at ho';clear ho;obtain rfl:=Jd ho';(injection hc with h9;subst h9);exact hn rfl
theorem bA.nc{p:List V}{P:I1}{Y:AP}(R:bA C X Pn h p)(hP:Pn P)(y:gW C Y h P):False:=by
 refine aj (R.at_ P hP) λvs z0 zz=>?_;refine ao z0 λzz zq=>?_;refine aw zq λn e=>?_;refine ao y λzz zq=>?_;refine dz zq λo zz zz h1 h2 zz=>?_;rw[e]at h1;clear zz;obtain rfl:=Jd h1;simp[dn]at h2
theorem Ext.tr(e:Ext C Pn h h')(hp:∀b,Pn b->X b):Tr X h X h':=λa o ho hc hx=>⟨e.keep a o ho (λq=>hx (hp a q)) hc.ne,hx⟩
theorem aq.ext(e:Ext C Pn h h')(hp:∀b,Pn b->X b){v:V}{x:IZ}(r:aq C X h v x):aq C X h' v x:=
 aq.tr (e.tr hp) r
theorem av.ext(e:Ext C Pn h h')(hp:∀b,Pn b->X b){v:List V}{x:List IZ}(r:av C X h v x):av C X h' v x:=
 av.tr (e.tr hp) r
theorem LstAt.ext{a:I1}{vs:List IZ}(e:Ext C Pn h h')(hp:¬Pn a)(x:LstAt h a vs):LstAt h' a vs:=
 let ⟨q,n,ho⟩:=x;⟨q,n,e.keep a _ ho hp (bx rfl (by decide))⟩
theorem eO.ext{a:I1}{es:List I2}(e:Ext C Pn h h')(hp:¬Pn a)(x:eO h a es):eO h' a es:=
 let ⟨q,n,ho⟩:=x;⟨q,n,e.keep a _ ho hp (bx rfl (by decide))⟩
set_option tactic.hygienic true
theorem aP.ext(e:Ext C Pn h h')(hp:∀b,Pn b->X b){v:V}{a:I1}(ha:¬Pn a)(r:aP C X h v a):aP C X h' v a:=by
 induction v using V.casesOn<;>dsimp only[aP]at r ⊢
 case lst l=>refine aj r λvs x y=>?_;exact au vs (x.ext e ha) (y.ext e hp)
 case bh ks xs=>refine de r λes x y z q=>?_;exact fm es (x.ext e ha) (y.ext e hp) (z.ext e hp) q
theorem bC.ext(e:Ext C Pn h h')(hp:∀b,Pn b->X b){v:V}{x:IZ}(r:bC C X Pn h v x):bC C X Pn h' v x:=
 r.elim (λa=>.inl (aq.ext e hp a)) λz9=>aQ z9 λa q hn ho=>.inr (aU a q hn (ho.ext e hp hn))
theorem qe{a:I1}{m:Str->Option IZ}(e:Ext C Pn h h')(hp:¬Pn a)(x:h.Ns a m):h'.Ns a m:=by
 refine d9 x λo es ep ho hd hk hm=>?_;refine aQ (e.data a o ho hp) λo' ho' zz hd'=>?_;rcases hd' with⟨_,ps,q⟩|hd'
 ·rw[hd]at q;exact(nomatch q)
 ·exact kC o' es ep ho' (hd'.trans hd) hk hm
theorem mq{c:I1}{v:IZ}(e:Ext C Pn h h')(hp:¬Pn c)(x:du h c v):du h' c v:=
 aQ x λo ho hc r=>aU o (e.keep c o ho hp (bx hc (by decide))) hc r
theorem jy{p:List V}{a:I1}{m:Str->Option IZ}(R:bA C X Pn h p)(x:h.Ns a m):¬Pn a:=λhp=>by
 refine dz x λo es ep ho hd zz=>?_;refine aj (R.at_ a hp) λvs z0 zz=>?_;refine ao z0 λzz zq=>?_;refine aw zq λn ho'=>?_;rw[ho]at ho';clear ho;obtain rfl:=Jd ho';exact(nomatch hd)
theorem Reads.ext{env:Env}{x:Str}{val:IZ}{p:List V}(e:Ext C Pn h h')(R:bA C X Pn h p)(r:Reads env h x val):Reads env h' x val:=by
 unfold Reads at r ⊢
 split at r
 ·refine aj r λm hn hm=>?_;exact au m (qe e (jy R hn) hn) hm
 ·refine aj r λc hc hv=>?_;refine au c hc (mq e ?_ hv);refine aQ hv λo ho hcl zz=>?_;exact fe R ho hcl (by decide)
 ·refine aj r λc hc hv=>?_;refine au c hc (mq e ?_ hv);refine aQ hv λo ho hcl zz=>?_;exact fe R ho hcl (by decide)
 ·exact r.elim
theorem dE.ext(e:Ext C Pn h h')(hp:∀b,Pn b->X b){sl:Slot}{val:IZ}(r:dE C X Pn h sl val):dE C X Pn h' sl val:=by
 induction sl using Slot.casesOn with
 | undef=>trivial
 | val v=>exact aq.ext e hp r
 | own v=>refine de r λa q hx hn ho=>?_;exact fm a q hx hn (ho.ext e hp hn)
 | aE=>exact r
theorem Ext.lt{p':List V}(e:Ext C Pn h h')(R:bA C X Pn h' p')(b:I1)(hb:∃o,h.get? b=aa o):∃o,h'.get? b=aa o:=by
 refine aw hb λo ho=>?_;by_cases hp:Pn b
 ·refine aj (R.at_ b hp) λvs z0 zz=>?_;refine ao z0 λzz zq=>?_;refine aw zq λn ho'=>?_;exact⟨_,ho'⟩
 ·refine aj (e.data b o ho hp) λo' ho' zz=>?_;exact⟨o',ho'⟩
set_option tactic.hygienic false
theorem cN(h:Heap):h.get? h.objs.size=ae:=by
 induction e:h.get? h.objs.size using Option.casesOn with
 | none=>rfl
 | some o=>exact absurd (Jj e) (JB _)
theorem Vw.glob{cx:Cx}{env:Env}{ρ:Fr}{p:List V}(v:Vw C cx X Pn env ρ p h)(x:Str)(hx:cx.d5 x=af):env.kindOf x=aa .globalImplicit:=
 (v.kinds x .globalImplicit (by simpa [Cx.d5]using hx)).1 (by simp)
theorem Vw.next{cx:Cx}{env:Env}{ρ:Fr}{p p':List V}(v:Vw C cx X Pn env ρ p h)(e:Ext C Pn h h')(R:bA C X Pn h' p'):Vw C cx X Pn env ρ p' h' where
 kind:=v.kind
 globals:=v.globals
 builtins:=v.builtins
 kinds:=v.kinds
 cells:=v.cells
 vars x j hx hu:=by
  refine aQ (v.vars x j hx hu) λval a b c=>?_;exact aU val (a.ext e v.aE) (b.ext e v.pnX) c
 own:=v.own
 caps:=v.caps
 code:=v.code
 tab:=(e.tab X v.tab).mono λc q y=>⟨q,λhp=>R.nc hp y,v.lt c q⟩
 aE:=R
 pnX:=v.pnX
 base:=e.base
 lt b hb:=Ext.lt e R b (v.lt b hb)
 fresh:=v.fresh
theorem Frames.imp:∀{l:List Env},(∀e∈l,∀F o,e.frame=aa F->h.get? F=aa o->o.cls=aY->∃o',h'.get? F=aa o'/\o'.cls=aY/\((∃es ep,o.data=.dict es ep)->∃es ep,o'.data=.dict es ep))->Frames C h l->Frames C h' l
 | [],_,_=>trivial
 | env::r,f,hF=>by
  refine bM hF λhk x hr=>⟨hk,?_,Frames.imp (λe he=>f e (Jr _ he)) hr⟩;refine oB x λL o es ep hf hn ho z=>?_;refine aQ (f env Js L o hf ho z.1) λo' ho' hc' hd'=>?_;exact dX (hd' (fU es ep z.2)) λes' ep' hd=>yf L o' es' ep' hf hn ho' hc' hd
theorem Frames.imp'{l:List Env}(H:Frames C h l)(f:∀e∈l,∀F o,e.frame=aa F->h.get? F=aa o->o.cls=aY->∃o',h'.get? F=aa o'/\o'.cls=aY/\((∃es ep,o.data=.dict es ep)->∃es ep,o'.data=.dict es ep)):Frames C h' l:=Frames.imp f H
theorem Frames.at_:∀{l:List Env},Frames C h l->∀e∈l,∃L o,e.frame=aa L/\C.h₀.get? L=ae/\h.get? L=aa o/\∃es ep,o.cls=aY/\o.data=.dict es ep
 | [],_,_,he=>nomatch he
 | env::r,hF,e,he=>(Jx.mp he).elim (λq=>q▸oB hF.2.1 λL o es ep hf hn ho z=>d8 L o hf hn ho ⟨es,ep,z⟩) λhe=>hF.2.2.at_ e he
theorem Frames.ext'(e:Ext C Pn h h')(hF:∀b o,h.get? b=aa o->o.cls=aY->¬Pn b){l:List Env}(H:Frames C h l):Frames C h' l:=
 H.imp' λJ J L o J ho hc=>aQ (e.data L o ho (hF L o ho hc)) λo' ho' hc' hd'=>aU o' ho' (hc'.trans hc) (λq=>hd'.elim (λz=>nomatch (hc.symm.trans z.1)) λe=>e▸q)
theorem bf.ext'{A:I0}(e:Ext C Pn h h')(hF:∀b o,h.get? b=aa o->o.cls=aY->¬Pn b)(k:bf C A h):bf C A h':=aj k λl a b=>au l a (b.ext' e hF)
theorem bA.frame{p:List V}(R:bA C X Pn h p)(b:I1)(o:Obj)(ho:h.get? b=aa o)(hc:o.cls=aY):¬Pn b:=fe R ho hc (by decide)
theorem bf.ext{A:I0}{p:List V}(e:Ext C Pn h h')(R:bA C X Pn h p)(k:bf C A h):bf C A h':=k.ext' e R.frame
end
noncomputable def zS(C:Cfg)(X Pn:AP)(h:Heap):Slot->IZ->Prop
 | .val v,x=>aq C X h v x
 | .aE,x=>∃P,x=.ref P/\Pn P
 | _,_=>False
noncomputable def eP(C:Cfg)(X Pn:AP)(h:Heap):List Slot->List IZ->Prop
 | [],vs=>vs=[]
 | a::r,vs=>∃v t,vs=v::t/\zS C X Pn h a v/\eP C X Pn h r t
def Ends(C:Cfg)(b:Bool)(X Pn:AP)(r:Res)(Q:IZ->IY->Prop)(E:IZ->IY->Prop)(s:IY):Prop:=
 r≠.stuck/\(∀v p,r=.ok v p->∀val s',Nx C Pn s s'->bA C X Pn s'.heap p->jo b C X Pn s'.heap v val->Q val s')/\
 (∀k p,r=.exc k p->∀e s',Nx C Pn s s'->bA C X Pn s'.heap p->iE C s.heap k s'.heap e->E e s')
structure bp(C:Cfg)(n:Nat)(X Pn:AP)(p:List V)(A:I0)(s:IY):Prop where
 room:dU A n
 stk:bf C A s.heap
 aE:bA C X Pn s.heap p
 pnX:∀b,Pn b->X b
 base:Base C s.heap
 lt:∀b,X b->∃o,s.heap.get? b=aa o
 fresh:∀b,X b->C.h₀.get? b=ae
 tab:cX C X s.heap
structure dJ(C:Cfg)(n:Nat)(call:Call):Prop where
 def_:∀(f:Nat)(args:List Slot)(p:List V)(X Pn:AP)(s:IY)(A:I0)(vals:List IZ)(Q E:IZ->IY->Prop),
  C.isDef f=af->bp C n X Pn p A s->eP C X Pn s.heap args vals->Ends C ag X Pn (call f args p) Q E s->
  wpAny (model C.prog C.w) A (PySem.call (.ref (C.fa f)) vals) Q E s
 clo:∀(f:Nat)(caps:List V)(a:I1)(v:V)(p:List V)(X Pn:AP)(s:IY)(A:I0)(val:IZ)(Q E:IZ->IY->Prop),
  bp C n X Pn p A s->aq C X s.heap (.clo f caps) (.ref a)->aq C X s.heap v val->Ends C ag X Pn (call f (.val v::caps.map .val) p) Q E s->
  wpAny (model C.prog C.w) A (PySem.call (.ref a) [val]) Q E s
def aL(C:Cfg)(cx:Cx)(b:Bool)(e:Expr)(d:aA):Prop:=
 ∀(n:Nat)(call:Call),dJ C n call->∀(X Pn:AP)(env:Env)(ρ:Fr)(p:List V)(s:IY)(A:I0)(Q E:IZ->IY->Prop),
  Vw C cx X Pn env ρ p s.heap->bf C A s.heap->dU A n->Ends C b X Pn (d call ρ p) Q E s->wpAny (model C.prog C.w) A (eval e env) Q E s
structure Kp(s s':IY):Prop where
 keep:∀b o,s.heap.get? b=aa o->s'.heap.get? b=aa o
 gens:s'.gens=s.gens
 os:s'.os=s.os
section
variable{X Pn:AP}{s s' s'':IY}{p:List V}
theorem Kp.refl:Kp s s:=⟨λJ J e=>e,rfl,rfl⟩
theorem Kp.trans(a:Kp s s')(b:Kp s' s''):Kp s s'':=⟨λx o e=>b.keep x o (a.keep x o e),b.gens.trans a.gens,b.os.trans a.os⟩
theorem Kp.toks(t:Tok):Kp s { s with toks:=t }:=⟨λJ J e=>e,rfl,rfl⟩
theorem Kp.push(o:Obj):Kp s { s with heap:=s.heap.push o }:=⟨λJ J e=>Jg o e,rfl,rfl⟩
theorem Kp.nx(k:Kp s s')(hb:Base C s.heap):Nx C Pn s s':=⟨.of_keeps hb k.keep,k.gens,k.os⟩
theorem Kp.tr(k:Kp s s'):Tr X s.heap X s'.heap:=λa o ho J hx=>⟨k.keep a o ho,hx⟩
theorem Kp.list{a:I1}{vs:List IZ}(k:Kp s s')(x:LstAt s.heap a vs):LstAt s'.heap a vs:=let ⟨q,n,ho⟩:=x;⟨q,n,k.keep _ _ ho⟩
theorem Kp.aE(k:Kp s s')(R:bA C X Pn s.heap p):bA C X Pn s'.heap p:=
 ⟨R.one,λP hP=>let ⟨vs,a,b⟩:=R.at_ P hP;(au vs (k.list a) (b.tr k.tr))⟩
end
def iF(C:Cfg)(f:V->Option V)(op:IZ->Sem IZ):Prop:=
 ∀(n:Nat)(X Pn:AP)(p:List V)(s:IY)(A:I0)(Q E:IZ->IY->Prop)(a v:V)(va:IZ),bp C n X Pn p A s->f a=aa v->bC C X Pn s.heap a va->
  (∀val s',Kp s s'->aq C X s'.heap v val->Q val s')->wpAny (model C.prog C.w) A (op va) Q E s
def cU(C:Cfg)(f:V->V->Option V)(op:IZ->IZ->Sem IZ):Prop:=
 ∀(n:Nat)(X Pn:AP)(p:List V)(s:IY)(A:I0)(Q E:IZ->IY->Prop)(a b v:V)(va vb:IZ),bp C n X Pn p A s->f a b=aa v->bC C X Pn s.heap a va->bC C X Pn s.heap b vb->
  (∀val s',Kp s s'->aq C X s'.heap v val->Q val s')->wpAny (model C.prog C.w) A (op va vb) Q E s
theorem cU.no{op:IZ->IZ->Sem IZ}:cU C (λJ J=>ae) op:=λJ J J J J J J J J J J J J J hf=>nS hf
theorem cU.I{op:IZ->IZ->Sem IZ}{d:V->V->Option V}{g:Int->Int->Option V}(hd:cU C d op) (k:∀(n:Nat)(X Pn:AP)(p:List V)(s:IY)(A:I0)(Q E:IZ->IY->Prop)(x y:Int)(v:V)(va vb:IZ),bp C n X Pn p A s->g x y=aa v->bC C X Pn s.heap (.int x) va->bC C X Pn s.heap (.int y) vb->
  (∀val s',Kp s s'->aq C X s'.heap v val->Q val s')->wpAny (model C.prog C.w) A (op va vb) Q E s):cU C (λa b=>vI (d a b) (λx=>vI ae (g x) b) a) op:=by
 intro n X Pn p s A Q E a b v va vb P hf ha hb h;rcases zY hf with q|hf
 ·revert ha;refine xs12 a q λx hf ha=>?_;revert hb;refine xs12 b (jv hf) λy hf hb=>?_;exact k n X Pn p s A Q E x y v va vb P hf ha hb h
 ·exact hd n X Pn p s A Q E a b v va vb P hf ha hb h
theorem cU.S{op:IZ->IZ->Sem IZ}{d:V->V->Option V}{g:List Nat->List Nat->Option V}(hd:cU C d op) (k:∀(n:Nat)(X Pn:AP)(p:List V)(s:IY)(A:I0)(Q E:IZ->IY->Prop)(x y:List Nat)(v:V)(va vb:IZ),bp C n X Pn p A s->g x y=aa v->bC C X Pn s.heap (.str x) va->bC C X Pn s.heap (.str y) vb->
  (∀val s',Kp s s'->aq C X s'.heap v val->Q val s')->wpAny (model C.prog C.w) A (op va vb) Q E s):cU C (λa b=>vS (d a b) (λx=>vS ae (g x) b) a) op:=by
 intro n X Pn p s A Q E a b v va vb P hf ha hb h;rcases zW hf with q|hf
 ·revert ha;refine xs12 a q λx hf ha=>?_;revert hb;refine xs12 b (F8 hf) λy hf hb=>?_;exact k n X Pn p s A Q E x y v va vb P hf ha hb h
 ·exact hd n X Pn p s A Q E a b v va vb P hf ha hb h
theorem cU.T{op:IZ->IZ->Sem IZ}{d:V->V->Option V}{g:List V->List V->Option V}(hd:cU C d op) (k:∀(n:Nat)(X Pn:AP)(p:List V)(s:IY)(A:I0)(Q E:IZ->IY->Prop)(x y:List V)(v:V)(va vb:IZ),bp C n X Pn p A s->g x y=aa v->bC C X Pn s.heap (.tup x) va->bC C X Pn s.heap (.tup y) vb->
  (∀val s',Kp s s'->aq C X s'.heap v val->Q val s')->wpAny (model C.prog C.w) A (op va vb) Q E s):cU C (λa b=>vT (d a b) (λx=>vT ae (g x) b) a) op:=by
 intro n X Pn p s A Q E a b v va vb P hf ha hb h;rcases zU hf with q|hf
 ·revert ha;refine xs12 a q λx hf ha=>?_;revert hb;refine xs12 b (zV hf) λy hf hb=>?_;exact k n X Pn p s A Q E x y v va vb P hf ha hb h
 ·exact hd n X Pn p s A Q E a b v va vb P hf ha hb h
theorem cU.L{op:IZ->IZ->Sem IZ}{d:V->V->Option V}{g:List V->List V->Option V}(hd:cU C d op) (k:∀(n:Nat)(X Pn:AP)(p:List V)(s:IY)(A:I0)(Q E:IZ->IY->Prop)(x y:List V)(v:V)(va vb:IZ),bp C n X Pn p A s->g x y=aa v->bC C X Pn s.heap (.lst x) va->bC C X Pn s.heap (.lst y) vb->
  (∀val s',Kp s s'->aq C X s'.heap v val->Q val s')->wpAny (model C.prog C.w) A (op va vb) Q E s):cU C (λa b=>vL (d a b) (λx=>vL ae (g x) b) a) op:=by
 intro n X Pn p s A Q E a b v va vb P hf ha hb h;rcases zX hf with q|hf
 ·revert ha;refine xs12 a q λx hf ha=>?_;revert hb;refine xs12 b (j6 hf) λy hf hb=>?_;exact k n X Pn p s A Q E x y v va vb P hf ha hb h
 ·exact hd n X Pn p s A Q E a b v va vb P hf ha hb h
theorem cU.B{op:IZ->IZ->Sem IZ}{d:V->V->Option V}{g:Bool->Bool->Option V}(hd:cU C d op) (k:∀(n:Nat)(X Pn:AP)(p:List V)(s:IY)(A:I0)(Q E:IZ->IY->Prop)(x y:Bool)(v:V)(va vb:IZ),bp C n X Pn p A s->g x y=aa v->bC C X Pn s.heap (.bool x) va->bC C X Pn s.heap (.bool y) vb->
  (∀val s',Kp s s'->aq C X s'.heap v val->Q val s')->wpAny (model C.prog C.w) A (op va vb) Q E s):cU C (λa b=>vB (d a b) (λx=>vB ae (g x) b) a) op:=by
 intro n X Pn p s A Q E a b v va vb P hf ha hb h;rcases zZ hf with q|hf
 ·revert ha;refine xs12 a q λx hf ha=>?_;revert hb;refine xs12 b (z4 hf) λy hf hb=>?_;exact k n X Pn p s A Q E x y v va vb P hf ha hb h
 ·exact hd n X Pn p s A Q E a b v va vb P hf ha hb h
section
variable{cx:Cx}{b:Bool}{X Pn:AP}{Q E:IZ->IY->Prop}{s s':IY}{A:I0}{n:Nat}{ρ:Fr}{p p':List V}{env:Env}
theorem Vw.pre(v:Vw C cx X Pn env ρ p s.heap)(k:bf C A s.heap)(r:dU A n):bp C n X Pn p A s:=⟨r,k,v.aE,v.pnX,v.base,v.lt,v.fresh,v.tab⟩
theorem Ends.ok{r:Res}{v:V}(N:Ends C b X Pn r Q E s)(e:r=.ok v p'){val:IZ}(hn:Nx C Pn s s')(hp:bA C X Pn s'.heap p')(hv:aq C X s'.heap v val):Q val s':=
 N.2.1 v p' e val s' hn hp (.of hv)
theorem Ends.bind{r:Res}{K:V->List V->Res}{ue:Bool}{Q₁:IZ->IY->Prop}(N:Ends C b X Pn (@Res.rec (λJ=>Res) Res.stuck K Res.exc r) Q E s)
  (h:∀v p₁ val s₁,r=.ok v p₁->Nx C Pn s s₁->bA C X Pn s₁.heap p₁->jo ue C X Pn s₁.heap v val->Ends C b X Pn (K v p₁) Q E s₁->Q₁ val s₁):Ends C ue X Pn r Q₁ E s:=by
 induction hr:r using Res.casesOn with
 | stuck=>replace N:=hr▸N;exact absurd rfl N.1
 | exc k q=>
  replace N:=hr▸N;exact⟨by simp,λJ J e=>(nomatch e),λk' p' e e' s' hn hp hx=>N.2.2 k' p' (by clear hp hx;injection e with zq1 zq2;(try subst zq1);(try subst zq2);rfl) e' s' hn hp hx⟩
 | ok v q=>
  replace N:=hr▸N;refine⟨by simp,λv' p₁ e val s₁ hn hp hv=>?_,λJ J e=>(nomatch e)⟩;injection e with zq1 zq2;(try subst zq1);(try subst zq2)
  exact h v q val s₁ hr hn hp hv ⟨N.1,λv' p' e val' s' hn'=>N.2.1 v' p' e val' s' (hn.trans hn'),λk p' e e' s' hn' hp' hx=>N.2.2 k p' e e' s' (hn.trans hn') hp' (hx.back λb o eb=>hn.ext.lt hp b ⟨o,eb⟩)⟩
theorem aL.c1{e x:Expr}{d:aA}{f:V->Option V}{op:IZ->Sem IZ}(hx:aL C cx af x d)(ho:iF C f op)
  (he:∀(env:Env)(s:IY)(A:I0)(Q E:IZ->IY->Prop),wpAny (model C.prog C.w) A (eval x env) (λa s₁=>wpAny (model C.prog C.w) A (op a) Q E s₁) E s->wpAny (model C.prog C.w) A (eval e env) Q E s):
  aL C cx b e (c1 f d):=by
 intro n call hc X Pn env ρ p s A Q E hv hk hr N;refine he env s A Q E (hx n call hc X Pn env ρ p s A _ E hv hk hr ?_);refine Ends.bind (b:=b) N λv p₁ val s₁ J hn hp hval N1=>?_;have v1:=hv.next hn.ext hp;refine oc (f v) (λhf=>?_) λr hf=>?_
 ·replace N1:=hf▸N1;exact absurd rfl N1.1
 ·
  replace N1:=hf▸N1;exact ho n X Pn p₁ s₁ A Q E v r val (v1.pre (hk.ext hn.ext hv.aE) hr) hf hval λval' s' hkp hrep=>N1.ok rfl (hkp.nx v1.base) (hkp.aE hp) hrep
theorem aL.c2{e x y:Expr}{d d':aA}{f:V->V->Option V}{op:IZ->IZ->Sem IZ}(hx:aL C cx af x d)(hy:aL C cx af y d')(ho:cU C f op)
  (he:∀(env:Env)(s:IY)(A:I0)(Q E:IZ->IY->Prop),
   wpAny (model C.prog C.w) A (eval x env) (λa s₁=>wpAny (model C.prog C.w) A (eval y env) (λb s₂=>wpAny (model C.prog C.w) A (op a b) Q E s₂) E s₁) E s->wpAny (model C.prog C.w) A (eval e env) Q E s):
  aL C cx b e (c2 f d d'):=by
 intro n call hc X Pn env ρ p s A Q E hv hk hr N;refine he env s A Q E (hx n call hc X Pn env ρ p s A _ E hv hk hr ?_);refine Ends.bind (b:=b) N λv p₁ val s₁ J hn hp hval N1=>?_;have v1:=hv.next hn.ext hp;have k₁:=hk.ext hn.ext hv.aE;refine hy n call hc X Pn env ρ p₁ s₁ A _ E v1 k₁ hr ?_;refine Ends.bind (b:=b) N1 λv' bg val' s₂ J hn' hp' hval' N2=>?_;have v2:=v1.next hn'.ext hp';refine oc (f v v') (λhf=>?_) λr hf=>?_
 ·replace N2:=hf▸N2;exact absurd rfl N2.1
 ·
  replace N2:=hf▸N2;exact ho n X Pn bg s₂ A Q E v v' r val val' (v2.pre (k₁.ext hn'.ext hp) hr) hf (hval.b.ext hn'.ext hv.pnX) hval'.b λval'' s' hkp hrep=>N2.ok rfl (hkp.nx v2.base) (hkp.aE hp') hrep
theorem aL.constInt{i:Int}{k:Nat}{pos:Pos}:aL C cx b (.Constant (.int i) k pos) (cK (.int i)):=by
 intro n call hc X Pn env ρ p s A Q E hv hk hr N;exact wpAny_Constant_int (N.ok rfl (.toks hv.base _) (Kp.aE (.toks _) hv.aE) (by simp[aq]))
theorem aL.xW{k:Nat}{pos:Pos}:aL C cx b (.Constant .none k pos) (cK .none):=by
 intro n call hc X Pn env ρ p s A Q E hv hk hr N;exact wpAny_Constant_none (N.ok rfl (.refl hv.base) hv.aE (by simp[aq]))
theorem aL.xX{i:Bool}{k:Nat}{pos:Pos}:aL C cx b (.Constant (.bool i) k pos) (cK (.bool i)):=by
 intro n call hc X Pn env ρ p s A Q E hv hk hr N;exact wpAny_Constant_bool (N.ok rfl (.refl hv.base) hv.aE (by simp[aq]))
theorem aL.tX{x:Str}{k:Nat}{pos:Pos}:aL C cx b (.Constant (.str x) k pos) (cK (.str x.cps.toList)):=by
 intro n call hc X Pn env ρ p s A Q E hv hk hr N;exact wpAny_Constant_str (N.ok rfl (.toks hv.base _) (Kp.aE (.toks _) hv.aE) (by simp[aq]))
theorem aL.const{c:Const}{v:V}{k:Nat}{pos:Pos}(e:tW c=aa v):aL C cx b (.Constant c k pos) (cK v):=by
 induction c using Const.casesOn<;>dsimp only[tW]at e<;>cases e
 ·exact .xW
 ·exact .xX
 ·exact .constInt
 ·exact .tX
set_option tactic.hygienic true
theorem cy{x:Str}{val:IZ}(hk:env.scope.kind=.function)(hx:bc x=af)(h:Reads env s.heap x val)(q:Q val s):wpAny (model C.prog C.w) A (loadName env x) Q E s:=by
 simp only[bc,Jn,bne_iff_ne,ne_eq]at hx;unfold Reads at h
 split at h
 ·rename_i hl;refine aj h λm hn hm=>?_;exact wpAny_loadName_local hk hl hn hm q
 ·rename_i hl;refine aj h λc hcl zq=>?_;refine aQ zq λo ho zz hd=>?_;unfold loadName;simp only[Env.blockKind,hk,hl,ScopeKind.isAnnotationScope,Bool.false_and,Jo,if_false,cellOf,hcl];refine az (IP (az (m:=cellGet c) ?_));unfold cellGet;refine IQ (IW ho ?_);refine rwl hd ?_;exact IP (IP q)
 ·rename_i hl;refine aj h λc hcl zq=>?_;refine aQ zq λo ho zz hd=>?_;unfold loadName;have hcd:(x==("__classdict__" : Str))=ag:=by simpa using hx.2
  simp only[Env.blockKind,hk,hl,ScopeKind.isAnnotationScope,Bool.false_and,Jo,if_false,cellOf,hcl,hcd];refine az (IP (az (m:=cellGet c) ?_));unfold cellGet;refine IQ (IW ho ?_);refine rwl hd ?_;exact IP (IP q)
 ·exact h.elim
theorem cP {x:Str} (hx:bc x=af):(x==("__debug__" : Str))=ag:=by
 simp only[bc,Jn,bne_iff_ne,ne_eq]at hx;simpa using hx.1
theorem aL.var{x:Str}{pos:Pos}{j:Nat}(hx:bc x=af)(hj:cx.vars.lookup x=aa j):aL C cx b (.Name x pos) (aC (aJ j)):=by
 intro n call hc X Pn env ρ p s A Q E hv hk hr N;refine wpAny_Name ?_ (cP hx);unfold aC at N;have hV:=hv.vars x j hj;induction hg:aJ j ρ using Slot.casesOn with
 | undef=>rw[hg]at N;exact absurd rfl N.1
 | own v=>rw[hg]at N;exact absurd rfl N.1
 | aE=>rw[hg]at N;exact absurd rfl N.1
 | val v=>
  rw[hg]at N hV;refine aQ (hV (by simp)) λval hR hS zz=>?_;exact cy hv.kind hx hR (N.ok rfl (.refl hv.base) hv.aE hS)
theorem aL.bor{x:Str}{pos:Pos}{j:Nat}(hx:bc x=af)(hj:cx.vars.lookup x=aa j):aL C cx af (.Name x pos) (aG (aJ j)):=by
 intro n call hc X Pn env ρ p s A Q E hv hk hr N;refine wpAny_Name ?_ (cP hx);unfold aG at N;have hV:=hv.vars x j hj;induction hg:aJ j ρ using Slot.casesOn with
 | undef=>replace N:=hg▸N;exact absurd rfl N.1
 | aE=>replace N:=hg▸N;exact absurd rfl N.1
 | val v=>
  rw[hg]at N hV;refine aQ (hV (by simp)) λval hR hS zz=>?_;exact cy hv.kind hx hR (N.ok rfl (.refl hv.base) hv.aE hS)
 | own v=>
  rw[hg]at N hV;refine aQ (hV (by simp)) λval hR z0 zz=>?_;refine de z0 λa z0 zz hn hO=>?_;subst z0;exact cy hv.kind hx hR (N.2.1 v p rfl _ s (.refl hv.base) hv.aE (.inr (aU a rfl hn hO)))
theorem bC.int{i:Int}{x:IZ}{h:Heap}(r:bC C X Pn h (.int i) x):∃t,x=.int i t:=by
 rcases r with r|⟨a,_,_,r⟩
 ·simpa [aq]using r
 ·simp[aP]at r
theorem bC.bool{i:Bool}{x:IZ}{h:Heap}(r:bC C X Pn h (.bool i) x):x=.bool i:=by
 rcases r with r|⟨a,_,_,r⟩
 ·simpa [aq]using r
 ·simp[aP]at r
theorem bC.none{x:IZ}{h:Heap}(r:bC C X Pn h .none x):x=.none:=by
 rcases r with r|⟨a,_,_,r⟩
 ·simpa [aq]using r
 ·simp[aP]at r
theorem bC.str{i:List Nat}{x:IZ}{h:Heap}(r:bC C X Pn h (.str i) x):∃y t,x=.str y t/\y.cps.toList=i:=by
 rcases r with r|⟨a,_,_,r⟩
 ·simpa [aq]using r
 ·simp[aP]at r
theorem bC.lst{l:List V}{x:IZ}{h:Heap}(r:bC C X Pn h (.lst l) x):∃a vs,x=.ref a/\LstAt h a vs/\av C X h l vs:=by
 rcases r with r|⟨a,e,_,r⟩
 ·dsimp only[aq]at r;refine dO r λa vs e zz q w=>?_;exact bX a vs e q w
 ·dsimp only[aP]at r;refine aj r λvs q w=>?_;exact bX a vs e q w
theorem bC.kE{l:List V}{x:IZ}{h:Heap}(r:bC C X Pn h (.tup l) x):aq C X h (.tup l) x:=by
 rcases r with r|⟨a,e,_,r⟩
 ·exact r
 ·simp[aP]at r
theorem bC.tup{l:List V}{x:IZ}{h:Heap}(r:bC C X Pn h (.tup l) x):∃a vs,x=.ref a/\TupAt h a vs/\av C X h l vs:=by
 have r:=r.kE;dsimp only[aq]at r;refine dO r λa vs e zz q w=>?_;exact bX a vs e q w
set_option tactic.hygienic false
theorem bC.bh{ks xs:List V}{x:IZ}{h:Heap}(r:bC C X Pn h (.bh ks xs) x):
  ∃a es,x=.ref a/\eO h a es/\av C X h ks (es.map (·.key))/\av C X h xs (es.map (·.val))/\es.map (·.hash)=bq C.w ks/\ji ks:=by
 rcases r with r|⟨a,e,_,r⟩
 ·dsimp only[aq]at r;refine aW r λa es e zz q=>?_;exact gw a es e q
 ·dsimp only[aP]at r;refine aw r λes q=>?_;exact gw a es e q
end
section
variable{X Pn:AP}{s s':IY}{A:I0}{n:Nat}{p:List V}{Q E:IZ->IY->Prop}
theorem pJ:lid<=3000:=Nat.le_refl _
theorem bt:sizeLine=16777216:=by decide
theorem aq.newList{l:List V}{vs:List IZ}(P:bp C n X Pn p A s)(r:av C X s.heap l vs)(hz:vs.length<=most):
  aq C X (s.heap.push { cls:=.type "list",data:=.seq vs.toArray }) (.lst l) (.ref s.heap.objs.size):=by
 dsimp only[aq];refine d8 _ vs rfl (λhx=>let ⟨_,ho⟩:=P.lt _ hx;JB _ (Jj ho)) ⟨hz,0,Jh _ rfl⟩ (r.tr (Kp.push (s:=s) _).tr)
theorem aq.pH{l:List V}{vs:List IZ}(P:bp C n X Pn p A s)(r:av C X s.heap l vs)(hz:vs.length<=most):
  aq C X (s.heap.push { cls:=.type "tuple",data:=.seq vs.toArray }) (.tup l) (.ref s.heap.objs.size):=by
 dsimp only[aq];refine d8 _ vs rfl (λhx=>let ⟨_,ho⟩:=P.lt _ hx;JB _ (Jj ho)) ⟨hz,0,Jh _ rfl⟩ (r.tr (Kp.push (s:=s) _).tr)
theorem gN{α β:Type}{l:List α}{o:Option β}{v:β}(h:@Jp (λJ=>Option β) ae o (short lid l)=aa v):short lid l=af/\o=aa v:=by
 induction q:short lid l using Bool.casesOn with
 | true=>replace h:=q▸h;exact⟨rfl,h⟩
 | false=>replace h:=q▸h;exact nS h
theorem cL{β:Type}{b:Bool}{o:Option β}{v:β}(h:@Jp (λJ=>Option β) ae o b=aa v):b=af/\o=aa v:=by
 induction b using Bool.casesOn with
 | true=>exact⟨rfl,h⟩
 | false=>exact nS h
theorem gi{β:Type}{b:Bool}{o o':Option β}{v:β}(h:@Jp (λJ=>Option β) o' o b=aa v):(b=af/\o=aa v)\/(b=ag/\o'=aa v):=by
 induction b using Bool.casesOn with
 | true=>exact .inl ⟨rfl,h⟩
 | false=>exact .inr ⟨rfl,h⟩
theorem gr{i j:Int}(e:i=j)(h:∀val s',Kp s s'->aq C X s'.heap (.int i) val->Q val s')(tk:Tok):Q (.int j tk) { s with toks:=s.toks+1 }:=by
 subst e;exact h _ _ (.toks _) (by simp[aq])
set_option tactic.hygienic true
theorem Dx(h0:C.h₀.NoLimit):cU C bF (binaryOp .Add):=by
 refine .I (.T (.S (.L .no ?_) ?_) ?_) ?_
 ·intro n X Pn p s A Q E x y v va vb P hf ha hb h;refine ao (gN hf) λhx hf=>?_;refine ao (gN hf) λhy hf=>?_;obtain rfl:=Jd hf;have hzx:=dg hx;have hzy:=dg hy;have hl:=pJ;refine xs23 va ha.lst λa vs z1 ra=>?_;obtain⟨_,na,ta⟩:=z1;refine xs23 vb hb.lst λb ws z1 rb=>?_;obtain⟨_,nb,tb⟩:=z1;refine PySem.P.add_list ta tb ?_ (by have:=ra.length;have:=rb.length;simp only[Ju];refine rwl bt ?_;lia);rw[gj]at h;have e:vs.toArray++ws.toArray=(vs++ws).toArray:=by simp
  refine rwl e ?_;exact h _ _ (.push _) (aq.newList P (ra.append rb) (by have:=ra.length;have:=rb.length;show _<=8000;refine rwl List.length_append ?_;lia))
 ·intro n X Pn p s A Q E x y v va vb P hf ha hb h;refine ao (gN hf) λhx hf=>?_;refine ao (gN hf) λhy hf=>?_;obtain rfl:=Jd hf;refine xs22 va ha.str λx' t z1=>?_;clear ha;subst z1;refine xs22 vb hb.str λy' u z1=>?_;clear hb;subst z1;refine PyProof.Rows.add_str (λt' tk=>h _ _ (.toks _) ?_) ?_
  ·dsimp only[aq];exact gw _ _ rfl (by rw[gj,Str.cps_append];simp)
  ·have:=dg hx;have:=dg hy;dsimp only[Array.length_toList]at *;refine rwl bt ?_;show x'.cps.size+y'.cps.size<=_;have:=pJ;lia
 ·intro n X Pn p s A Q E x y v va vb P hf ha hb h;refine ao (gN hf) λhx hf=>?_;refine ao (gN hf) λhy hf=>?_;obtain rfl:=Jd hf;have hzx:=dg hx;have hzy:=dg hy;have hl:=pJ;rw[gj]at h;have hb':=hb.kE;have ha':=ha.kE;refine aW ha.tup λa vs z0 z1 ra=>?_;subst z0;obtain⟨_,na,ta⟩:=z1;refine aW hb.tup λb ws z0 z1 rb=>?_;subst z0;obtain⟨_,nb,tb⟩:=z1;have la:=ra.length;have lb:=rb.length;by_cases ex:vs=[]
  ·have ex':x=[]:=List.eq_nil_of_length_eq_zero (by refine rwl la.symm (rwl ex ?_);rfl);clear hx hzx ra ha ha' la;subst ex ex';exact concat_meets (au _ ta rfl) (au _ tb rfl) noFill_tuple_add seq_tuple_add PySem.F.slot_tuple_add PySem.F.entry_tuple_add (PySem.F.args_tuple_add_2 _ _)
    (tuple_addW0 a b #[] ws.toArray na nb ae ae #[] #[] rfl) ⟨ta,tb,h _ _ .refl (by simpa using hb')⟩
  ·by_cases ey:ws=[]
   ·have ey':y=[]:=List.eq_nil_of_length_eq_zero (by refine rwl lb.symm (rwl ey ?_);rfl);clear hy hzy rb hb hb' lb;subst ey ey';exact concat_meets (au _ ta rfl) (au _ tb rfl) noFill_tuple_add seq_tuple_add PySem.F.slot_tuple_add PySem.F.entry_tuple_add (PySem.F.args_tuple_add_2 _ _)
     (tuple_addW1 a b vs.toArray #[] na nb ae ae #[] #[] (by simpa using ex) rfl) ⟨ta,tb,h _ _ .refl (by simpa using ha')⟩
   ·refine PySem.P.add_tuple ta tb (by simpa using ex) (by simpa using ey) ?_ (by simp only[Ju];refine rwl bt ?_;lia);have e:vs.toArray++ws.toArray=(vs++ws).toArray:=by simp
    refine rwl e ?_;exact h _ _ (.push _) (aq.pH P (ra.append rb) (by show _<=8000;refine rwl List.length_append ?_;lia))
 ·intro n X Pn p s A Q E x y v va vb P hf ha hb h;obtain rfl:=Jd hf;refine xs11 va ha.int λt=>?_;refine xs11 vb hb.int λu=>?_;exact PyProof.Rows.add_int (gr (jE x y) h _)
set_option tactic.hygienic false
theorem eT{i j:Bool}(e:i=j)(h:∀val s',Kp s s'->aq C X s'.heap (.bool i) val->Q val s'):Q (.bool j) s:=by
 subst e;exact h _ _ .refl (by simp[aq])
set_option tactic.hygienic true
theorem Dn:cU C bN (binaryOp .Sub):=by
 refine .I (.B .no ?_) ?_
 ·intro n X Pn p s A Q E x y v va vb P hf ha hb h;obtain rfl:=Jd hf;have:=ha.bool;have:=hb.bool;subst va vb;exact PyProof.Rows.sub_bool (gr (by clear ha;induction x using Bool.casesOn<;>induction y using Bool.casesOn<;>rfl) h _)
 ·intro n X Pn p s A Q E x y v va vb P hf ha hb h;obtain rfl:=Jd hf;refine xs11 va ha.int λt=>?_;refine xs11 vb hb.int λu=>?_;exact PyProof.Rows.sub_int (gr (lh x y) h _)
theorem Du(h0:C.h₀.NoLimit):cU C gA (binaryOp .Mod):=by
 refine .I .no ?_
 ·intro n X Pn p s A Q E x y v va vb P hf ha hb h;refine xs11 va ha.int λt=>?_;refine xs11 vb hb.int λu=>?_;rcases gi hf with⟨_,hf⟩|⟨hz,hf⟩
  ·exact nS hf
  ·obtain rfl:=Jd hf;have hy:y≠0:=λe=>by clear hb h;subst e;rw[m7]at hz;simp at hz
   exact PyProof.Rows.mod_int' hy (gr (u2 x y) h _)
end
section
variable{X Pn:AP}{s s':IY}{A:I0}{n:Nat}{p:List V}{Q E:IZ->IY->Prop}
theorem n6{a:Int}(h:gI a=af):Builtin.Int.intBits a<=64:=intBits_le_64 (by have:=iT h;omega) (by have:=iT h;omega)
set_option tactic.hygienic true
theorem Dv:cU C fw (binaryOp .FloorDiv):=by
 refine .I .no ?_
 ·intro n X Pn p s A Q E x y v va vb P hf ha hb h;refine xs11 va ha.int λt=>?_;refine xs11 vb hb.int λu=>?_;rcases gi hf with⟨_,hf⟩|⟨hz,hf⟩
  ·exact nS hf
  ·refine ao (cL hf) λhs hf=>?_;obtain rfl:=Jd hf;have hy:y≠0:=λe=>by clear hb hs h;subst e;rw[m7]at hz;simp at hz
   refine PyProof.Rows.floordiv_int hy (gr (B7 x y) h _) (.inl (PyProof.noPylong_of_log2 ?_));exact JD (Nat.log2_lt (by omega) |>.mpr (iT hs)) (by decide)
set_option tactic.hygienic false
theorem n9{l:I1}{vs:List IZ}{k:Nat}{x:Int}{u:Tok}(hl:s.heap.get? l=aa (dn vs k))(hlo:-(2^63:Int)<=x)(hhi:x<2^63)(hsz:vs.length*x.toNat<=2^24)
  (h:Q (.ref s.heap.objs.size) { s with heap:=s.heap.push { cls:=.type "list",data:=.seq (List.replicate x.toNat vs).flatten.toArray } }):wpAny (model C.prog C.w) A (binaryOp .Mult (.ref l) (.int x u)) Q E s:=by
 have hsz':vs.toArray.size*x.toNat<=2^24:=by simpa using hsz
 refine wpAny_binaryOp_repeat_ref (T := "list") (U := "int") (by decide) (au _ hl rfl) (λs'=>typeIs_int s' x u) noFill_list_mul F.fills_int_mul F.slot_int_rmul repeat_list F.slot_int_index.lookup
  (call_meets F.slot_int_rmul (typeIs_int s x u) F.entry_int_rmul (F.args_int_rmul_2 _ _) (lm_int_rmul_list_any x u l vs.toArray k ae #[])
   ⟨hl,rfl,(au _ hl rfl),call_meets F.slot_list_mul (au _ hl rfl) F.entry_list_mul (F.args_list_mul_2 _ _)
    (lm_list_mul_any l vs.toArray k ae #[] x u (by simp[Builtin.List.listFitsIndex];exact⟨hlo,hhi⟩) (by omega) (by simp[Builtin.List.listTooLong,sizeLine];exact hsz'))
    ⟨hl,?_⟩⟩)
 rw[listMul_foldl_if];exact h
theorem dZ{α:Type}{l:List α}{k:Nat}(h:short k l=af):l.length<=k:=dg h
theorem w5(a:Int):kR a=a.toNat:=by induction a using Int.casesOn<;>rfl
theorem av.rep{l:List V}{vs:List IZ}{h:Heap}(r:av C X h l vs):∀k:Nat,av C X h (Internal.rep k l) (List.replicate k vs).flatten
 | 0=>by
  show av C X h [] _;simpa using av.nil
 | k+1=>by
  show av C X h (app l (Internal.rep k l)) _;rw[gj,List.replicate_succ,List.flatten_cons];exact r.append (r.rep k)
set_option tactic.hygienic true
theorem Dt:cU C bI (binaryOp .Mult):=by
 refine .I ?_ ?_
 ·intro n X Pn p s A Q E a b v va vb P hf ha hb h;revert ha;refine xs12 a (j6 hf) λx hf ha=>?_;revert hb;refine xs12 b (jv hf) λy hf hb=>?_;refine xs11 vb hb.int λu=>?_;refine ao (cL hf) λhs hf=>?_;induction y using Int.casesOn with
  | negSucc m=>exact nS hf
  | ofNat m=>
   refine ao (cL hf) λhy hf=>?_;obtain rfl:=Jd hf;refine xs23 va ha.lst λa vs z1 ra=>?_;refine ao z1 λzz zq=>?_;refine aw zq λna ta=>?_;have hl:=dg hs;rw[blt_dec,decide_eq_true_eq]at hy;have hlen:=ra.length;refine n9 ta (by dsimp only[JH];exact Int.natCast_nonneg _) (by dsimp only[JH];omega) ?_ (h _ _ (.push _) (aq.newList P (ra.rep _) ?_))
   ·calc vs.length*m<=8*300:=Nat.mul_le_mul (hlen▸hl) (JA hy)
     _<=2^24:=by decide
   ·show(List.replicate m vs).flatten.length<=8000;have e:(List.replicate m vs).flatten.length=m*vs.length:=by simp
    rw[e]
    calc m*vs.length<=300*8:=Nat.mul_le_mul (JA hy) (hlen▸hl)
     _<=8000:=by decide
 ·intro n X Pn p s A Q E x y v va vb P hf ha hb h;refine xs11 va ha.int λt=>?_;refine xs11 vb hb.int λu=>?_;rcases gi hf with⟨hs,hf⟩|⟨_,hf⟩
  ·obtain rfl:=Jd hf;exact PyProof.Rows.mul_int (gr (qE x y) h _) (.of_left (n6 hs))
  ·refine ao (cL hf) λhs hf=>?_;obtain rfl:=Jd hf;exact PyProof.Rows.mul_int (gr (qE x y) h _) (.of_right (n6 hs))
theorem Dp:cU C lL (binaryOp .Pow):=by
 refine .I .no ?_
 ·intro n X Pn p s A Q E x y v va vb P hf ha hb h;refine xs11 va ha.int λt=>?_;refine xs11 vb hb.int λu=>?_;induction y using Int.casesOn with
  | negSucc m=>exact nS hf
  | ofNat m=>
   refine ao (cL hf) λhs hf=>?_;refine ao (cL hf) λhy hf=>?_;obtain rfl:=Jd hf;rw[blt_dec,decide_eq_true_eq]at hy;exact PyProof.Rows.pow_int_small (by simp) (by dsimp only[JH];omega) (iT hs) (gr (by rw[B6];rfl) h _)
theorem Ds:iF C gz (unaryOp .USub):=by
 intro n X Pn p s A Q E a v va P hf ha h;revert ha;refine xs12 a (jv hf) λx hf ha=>?_;obtain rfl:=Jd hf;refine xs11 va ha.int λt=>?_;exact PyProof.Rows.neg_int (gr (u1 x) h _)
theorem Dq:iF C kJ (unaryOp .Not):=by
 intro n X Pn p s A Q E a v va P hf ha h;revert ha;refine xs12 a (z4 hf) λx hf ha=>?_;obtain rfl:=Jd hf;have:=ha.bool;clear ha;subst this;exactλΓ q hΓ=>eT (s:=s) (Q:=Q) (kZ x) h
theorem Gl:cU C eH (compareOp .Lt):=by
 refine .I (.S .no ?_) ?_
 ·intro n X Pn p s A Q E x y v va vb P hf ha hb h;obtain rfl:=Jd hf;refine xs22 va ha.str λx' t z1=>?_;clear ha;subst z1;refine xs22 vb hb.str λy' u z1=>?_;clear hb;subst z1;exact PyProof.Rows.lt_str (eT (kc _ _) h)
 ·intro n X Pn p s A Q E x y v va vb P hf ha hb h;obtain rfl:=Jd hf;refine xs11 va ha.int λt=>?_;refine xs11 vb hb.int λu=>?_;exact PyProof.Rows.lt_int (eT (gT x y) h)
theorem Gm:cU C sZ (compareOp .LtE):=by
 refine .I .no ?_
 ·intro n X Pn p s A Q E x y v va vb P hf ha hb h;obtain rfl:=Jd hf;refine xs11 va ha.int λt=>?_;refine xs11 vb hb.int λu=>?_;exact PyProof.Rows.le_int (eT (tB x y) h)
theorem Gq:cU C cR (compareOp .Gt):=by
 refine .I .no ?_
 ·intro n X Pn p s A Q E x y v va vb P hf ha hb h;obtain rfl:=Jd hf;refine xs11 va ha.int λt=>?_;refine xs11 vb hb.int λu=>?_;exact PyProof.Rows.gt_int (eT (gT y x) h)
theorem Gr:cU C u9 (compareOp .GtE):=by
 refine .I .no ?_
 ·intro n X Pn p s A Q E x y v va vb P hf ha hb h;obtain rfl:=Jd hf;refine xs11 va ha.int λt=>?_;refine xs11 vb hb.int λu=>?_;exact PyProof.Rows.ge_int (eT (tB y x) h)
theorem pN{v:V}{x:IZ}{h:Heap}(r:bC C X Pn h v x):(x==Value.none)=isNone v:=by
 induction v using V.casesOn with
 | none=>rw[r.none];rfl
 | bool b=>rw[r.bool];rfl
 | int i=>refine xs11 x r.int λt=>?_;rfl
 | str i=>refine xs22 x r.str λy t zz=>?_;rfl
 | tup l=>refine xs22 x r.tup λa vs zz=>?_;rfl
 | lst l=>refine xs22 x r.lst λa vs zz=>?_;rfl
 | bh k x=>refine bY r.bh λa vs z0 zz=>?_;clear r;subst z0;rfl
 | clo f c=>
  rcases r with r|⟨a,_,_,r⟩
  ·dsimp only[aq]at r;refine xs32 x r λa zz zz zz=>?_;rfl
  ·simp[aP]at r
theorem Gn:cU C og (compareOp .Is):=by
 intro n X Pn p s A Q E a b v va vb P hf ha hb h;induction b using V.casesOn<;>(first|exact nS hf|exact fT hf|(dsimp only[og]at hf<;>(try obtain rfl:=Jd hf)))
 case none=>
  have:=hb.none;clear hb;subst this;exact is_none (eT (pN ha).symm h)
theorem BM:cU C rS (compareOp .IsNot):=by
 intro n X Pn p s A Q E a b v va vb P hf ha hb h;induction b using V.casesOn<;>(first|exact nS hf|exact fT hf|(dsimp only[rS]at hf<;>(try obtain rfl:=Jd hf)))
 case none=>
  have:=hb.none;clear hb;subst this;exact isNot_none (eT (by rw[pN ha,kZ]) h)
end
end
section
open PySem PySem.SeqAt PySem.MeetsSeq PySem.MeetsSeq2 PySem.MeetsSeq3 PySem.SeqRoads2
open AutoSeq1 (wpAny_loadPart')
noncomputable def fb(A:I0)(s:IY):List IZ->List IZ->Bool->Prop
 | x::xs,y::ys,r=>(EqAt A s x y af/\fb A s xs ys r)\/(EqAt A s x y ag/\r=ag)
 | [],[],r=>r=af
 | [],_::_,r=>r=ag
 | _::_,[],r=>r=ag
set_option tactic.hygienic true
theorem w3(l b:I1)(xs ys:List IZ)(n n2:Nat)(r:Bool):
  Meets (Builtin.«tuple.__eq__» ⟨[.ref l,.ref b],[]⟩)
   (λA R s=>s.heap.get? l=aa { cls:=.type "tuple",dict:=ae,data:=.seq xs.toArray n,slots:=#[] }/\s.heap.get? b=aa { cls:=.type "tuple",dict:=ae,data:=.seq ys.toArray n2,slots:=#[] }/\
    fb A.in1 s xs ys r/\R (.ok (.ret (.bool r))) s):=
 .of_wp λprog w A R s h=>by
  obtain⟨hp,g,d,tk,os⟩:=s;obtain⟨hl,hb,he,h⟩:=h;have f2:=AutoSeq1.sub_tuple_tuple
  wp_walk using IT hl,IT hb,wpAny_forIn_list _ (λrest b s'=>b.1=ae/\s'=⟨hp,g,d,tk,os⟩/\∃xs' ys',rest=xs'.zip ys'/\fb A.in1 ⟨hp,g,d,tk,os⟩ xs' ys' r/\(xs'.length==ys'.length)=(xs.length==ys.length)) _
  case turn=>
   rintro ⟨y,x⟩ rest b s' ⟨hb',rfl,xs',ys',hz,hR,hlen⟩;induction xs' using List.casesOn with
   | nil=>simp at hz
   | cons u us=>induction ys' using List.casesOn with
    | nil=>simp at hz
    | cons v vs=>
     simp only[List.zip_cons_cons,List.cons.injEq,Prod.mk.injEq]at hz;obtain⟨⟨rfl,rfl⟩,rfl⟩:=hz;rcases hR with⟨he,hR⟩|⟨he,hr⟩
     ·refine az (he prog w _ _ ?_)
      wp_walk
      exact⟨rfl,rfl,us,vs,rfl,hR,by simpa using hlen⟩
     ·refine az (he prog w _ _ ?_);subst hr
      wp_walk
      exact au _ rfl h
  case fin=>
   rintro ⟨b1,b2⟩ s' ⟨hb',rfl,xs',ys',hz,hR,hlen⟩;simp only at hb';subst hb';have hr:r=(xs.length==ys.length):=by
    refine rwl hlen.symm ?_;induction xs' using List.casesOn with
    | nil=>induction ys' using List.casesOn with
     | nil=>exact hR
     | cons v vs=>exact hR
    | cons u us=>induction ys' using List.casesOn with
     | nil=>exact hR
     | cons v vs=>simp at hz
   clear he hR;subst hr
   wp_walk
   exact au _ rfl (by simpa [Builtin.Tuple.tupleCompareSizes]using h)
  case h=>
   exact⟨rfl,rfl,xs,ys,by simp,he,rfl⟩
set_option tactic.hygienic false
end
section
open PySem PySem.Calls PyProof.Rows PySem.SeqAt PySem.MeetsSeq PySem.MeetsSeq2 PySem.MeetsSeq3 PySem.SeqRoads2
open AutoSeq1 (wpAny_loadPart')
theorem fb.Gd{A:I0}{s:IY}:∀{xs ys:List IZ}{r:Bool},fb A s xs ys r->xs.length≠ys.length->r=ag
 | [],[],_,_,h=>absurd rfl h
 | [],_::_,_,h,_=>h
 | _::_,[],_,h,_=>h
 | _::xs,_::ys,r,h,hn=>by
  rcases h with⟨_,h⟩|⟨_,h⟩
  ·exact fb.Gd h (λe=>hn (by simp[e]))
  ·exact h
theorem sY(l b:I1)(items items2:List IZ)(n n2:Nat)(r:Bool)(hsz:items.length=items2.length)(k:Nat):
  ∀i:Nat,items.length-i=k->Meets (Builtin.«list.__eq__.loop» ⟨[.ref l,.ref b,rawInt i,rawInt 2],[]⟩)
   (λA R s=>s.heap.get? l=aa { cls:=.type "list",dict:=ae,data:=.seq items.toArray n,slots:=#[] }/\s.heap.get? b=aa { cls:=.type "list",dict:=ae,data:=.seq items2.toArray n2,slots:=#[] }/\
    fb A.in1 s (items.drop i) (items2.drop i) r/\
    R (.ok (.ret (.bool r))) s):=by
 induction k with
 | zero=>
  intro i hk prog w A R s h;obtain⟨hp,g,d,tk,os⟩:=s;refine fo h λhl hb he h=>?_
  wp_walk using IT hl,IT hb
  have hi1:items.toArray[((i:Nat):Int).toNat]?=ae:=by simp;exact Nat.le_of_sub_eq_zero hk
  have hi2:items2.toArray[((i:Nat):Int).toNat]?=ae:=by simp;lia
  have hd:items.drop i=[]:=by simp;exact Nat.le_of_sub_eq_zero hk
  have hd2:items2.drop i=[]:=by simp;lia
  replace he:=hd2▸hd▸he;have hr:r=af:=he;subst hr;refine rwl hi1 (rwl hi2 ?_)
  wp_walk using IT hl,IT hb
  show R (.ok (.ret (.bool (items.toArray.size==items2.toArray.size)))) _;simpa [hsz]using h
 | succ k ih=>
  intro i hk prog w A R s h;obtain⟨hp,g,d,tk,os⟩:=s;refine fo h λhl hb he h=>?_
  wp_walk using IT hl,IT hb
  have hlt:i<items.length:=jQ hk;have hlt2:i<items2.length:=hsz▸hlt;have hi1:items.toArray[((i:Nat):Int).toNat]?=aa items[i]:=by rw[Int.toNat_natCast,List.getElem?_toArray,Jt hlt]
  have hi2:items2.toArray[((i:Nat):Int).toNat]?=aa items2[i]:=by rw[Int.toNat_natCast,List.getElem?_toArray,Jt hlt2]
  have hd:items.drop i=items[i]::items.drop (i+1):=List.drop_eq_getElem_cons hlt;have hd2:items2.drop i=items2[i]::items2.drop (i+1):=List.drop_eq_getElem_cons hlt2;have hc:((i:Int)+1)=((i+1:Nat):Int):=by push_cast;rfl
  replace he:=hd2▸hd▸he;refine rwl hi1 (rwl hi2 ?_);rcases he with⟨e1,he⟩|⟨e1,hr⟩
  ·refine IQ (e1 prog w _ _ ?_)
   wp_walk
   refine rwl hc ?_;exact⟨plainId_quiet plain_eq_loop _,I9 entry_eq_loop (by
    refine rwl (Around.under_plainId plain_eq_loop _) ?_;exact ih (i+1) (by lia) prog w A R _ ⟨hl,hb,he,h⟩)⟩
  ·refine IQ (e1 prog w _ _ ?_);subst hr
   wp_walk using IT hl,IT hb
   refine rwl hi1 (rwl hi2 ?_)
   wp_walk
   simpa using h
theorem yU(l b:I1)(items items2:List IZ)(n n2:Nat)(r:Bool)(hsz:items.length=items2.length):
  Meets (Builtin.«list.__eq__» ⟨[.ref l,.ref b],[]⟩)
   (λA R s=>s.heap.get? l=aa { cls:=.type "list",dict:=ae,data:=.seq items.toArray n,slots:=#[] }/\s.heap.get? b=aa { cls:=.type "list",dict:=ae,data:=.seq items2.toArray n2,slots:=#[] }/\
    fb A.in1 s items items2 r/\R (.ok (.ret (.bool r))) s):=by
 intro prog w A R s h;obtain⟨hp,g,d,tk,os⟩:=s;refine fo h λhl hb he h=>?_;have f3:=AutoSeq1.sub_list_list;have hne:¬(items.toArray.size !=items2.toArray.size)=af:=by simp[hsz]
 wp_walk using IT hl,IT hb
 exact⟨plainId_quiet plain_eq_loop _,I9 entry_eq_loop (by
  refine rwl (Around.under_plainId plain_eq_loop _) ?_;exact sY l b items items2 n n2 r hsz _ 0 rfl prog w A R _ ⟨hl,hb,he,h⟩)⟩
section
variable{A:I0}{s:IY}
theorem yG{l b:I1}{xs ys:List IZ}{r:Bool}(hl:TupAt s.heap l xs)(hb:TupAt s.heap b ys)(hu:A.units<cLine)(he:fb A.in1 s xs ys r):RcAt A s (.ref l) (.ref b) r:=λprog w E Q h=>by
 refine ao hl λzz zq=>?_;refine aw zq λn ho=>?_;refine ao hb λzz zq=>?_;refine aw zq λn2 ho2=>?_;exact richCompare_meets_room (op:=.Eq) (au _ ho rfl) (au _ ho2 rfl) F.slot_tuple_eq F.entry_tuple_eq (F.args_tuple_eq_2 _ _) (w3 l b xs ys n n2 r)
  ⟨ho,ho2,he,show Value.bool r≠Value.notImplemented/\Q (.bool r) s from⟨(λx=>nomatch x),h⟩⟩ hu
theorem BJ{l b:I1}{xs ys:List IZ}{r:Bool}(hl:LstAt s.heap l xs)(hb:LstAt s.heap b ys)(hu:A.units<cLine)(hsz:xs.length=ys.length)(he:fb A.in1 s xs ys r):RcAt A s (.ref l) (.ref b) r:=λprog w E Q h=>by
 refine ao hl λzz zq=>?_;refine aw zq λn ho=>?_;refine ao hb λzz zq=>?_;refine aw zq λn2 ho2=>?_;exact richCompare_meets_room (op:=.Eq) (au _ ho rfl) (au _ ho2 rfl) F.slot_list_eq F.entry_list_eq (F.args_list_eq_2 _ _) (yU l b xs ys n n2 r hsz)
  ⟨ho,ho2,he,show Value.bool r≠Value.notImplemented/\Q (.bool r) s from⟨(λx=>nomatch x),h⟩⟩ hu
theorem LstAt.isList{h:Heap}{a:I1}{vs:List IZ}(x:LstAt h a vs):h.IsList a vs.toArray:=let ⟨_,n,ho⟩:=x;(aU _ ho rfl ⟨n,rfl⟩)
theorem TupAt.fH{h:Heap}{a:I1}{vs:List IZ}(x:TupAt h a vs):h.IsTuple a vs.toArray:=let ⟨_,n,ho⟩:=x;(aU _ ho rfl ⟨n,rfl⟩)
theorem LstAt.inj{h:Heap}{a:I1}{vs ws:List IZ}(x:LstAt h a vs)(y:LstAt h a ws):vs=ws:=by
 refine ao x λzz zq=>?_;refine aw zq λn e=>?_;refine ao y λzz zq=>?_;refine aw zq λm e'=>?_;rw[e]at e';simp only[dn,Je,Obj.mk.injEq,Data.seq.injEq]at e';simpa using e'.2.2.1.1
theorem TupAt.inj{h:Heap}{a:I1}{vs ws:List IZ}(x:TupAt h a vs)(y:TupAt h a ws):vs=ws:=by
 refine ao x λzz zq=>?_;refine aw zq λn e=>?_;refine ao y λzz zq=>?_;refine aw zq λm e'=>?_;rw[e]at e';simp only[oF,Je,Obj.mk.injEq,Data.seq.injEq]at e';simpa using e'.2.2.1.1
end
section
variable{X Pn:AP}{A:I0}{s:IY}
theorem It(n:Nat)(x y:List V):dw (n+1) (.tup x) (.tup y)=lu (dw n) x y:=rfl
theorem Iu(n:Nat)(x y:List V):dw (n+1) (.lst x) (.lst y)=@Jp (λJ=>Option Bool) (aa ag) (lu (dw n) x y) (Nat.beq (dA x) (dA y)):=rfl
theorem l7(f:V->V->Option Bool)(a b:V)(x y:List V):lu f (a::x) (b::y)=@Option.rec Bool (λJ=>Option Bool) ae (λq=>@Jp (λJ=>Option Bool) (aa ag) (lu f x y) q) (f a b):=rfl
@[elab_as_elim] theorem eqV_inv{n:Nat}{P:V->V->Bool->Prop}(a b:V)(r:Bool)(h:dw (n+1) a b=aa r)(nn:P .none .none af)(nt:∀l,P .none (.tup l) ag)(bb:∀u v,P (.bool u) (.bool v) (@Jp (λJ=>Bool) (kK v) v u))(ii:∀u v,P (.int u) (.int v) (pP u v))(ss:∀u v,P (.str u) (.str v) (gM u v))
  (tn:∀l,P (.tup l) .none ag) (tt:∀u v r,lu (dw n) u v=aa r->P (.tup u) (.tup v) r) (ll:∀u v r,(@Jp (λJ=>Option Bool) (aa ag) (lu (dw n) u v) (Nat.beq (dA u) (dA v)))=aa r->P (.lst u) (.lst v) r):P a b r:=by
 induction a using V.casesOn<;>induction b using V.casesOn<;>(first|exact nS h|(obtain rfl:=Jd h;first|exact nn|exact nt _|exact bb _ _|exact ii _ _|exact ss _ _|exact tn _)|exact tt _ _ _ h|exact ll _ _ _ h)
set_option tactic.hygienic true
theorem l6:∀(n:Nat)(a b:V)(r:Bool)(x:IZ),dw n a b=aa r->bC C X Pn s.heap a x->bC C X Pn s.heap b x->r=af
 | 0,_,_,_,_,h,_,_=>by exact nS h
 | n+1,a,b,r,x,h,ha,hb=>by
  have hL:∀(xs ys:List V)(vs:List IZ)(r:Bool),lu (dw n) xs ys=aa r->av C X s.heap xs vs->av C X s.heap ys vs->r=af:=by
   intro xs;induction xs with
   | nil=>
    intro ys vs r h hx hy;dsimp only[av]at hx;subst hx;induction ys using List.casesOn with
    | nil=>obtain rfl:=Jd h;rfl
    | cons y ys=>simp[av]at hy
   | cons u us ih=>
    intro ys vs r h hx hy;dsimp only[av]at hx;refine aW hx λv rest z0 h1 h2=>?_;clear hx;subst z0;induction ys using List.casesOn with
    | nil=>simp[av]at hy
    | cons y ys=>
     simp only[av.fz]at hy;simp only[l7]at h;refine oc (dw n u y) (λhf=>?_) λq hf=>?_
     ·simp only[hf]at h;exact nS h
     ·
      simp only[hf]at h;have:=l6 n u y q v hf (.inl h1) (.inl hy.1);clear hf;subst this;exact ih ys rest r h h2 hy.2
  revert ha hb;refine eqV_inv a b r h ?_ (λl=>?_) (λu v=>?_) (λu v=>?_) (λu v=>?_) (λl=>?_) (λu v r h=>?_) (λu v r h=>?_)<;>intro ha hb
  ·rfl
  ·refine bY hb.tup λa vs e zz=>?_;simp only[ha.none]at e;exact(nomatch e)
  ·
   have e:=ha.bool;simp only[hb.bool]at e;cases e;clear ha hb;induction u using Bool.casesOn<;>rfl
  ·
   refine aw ha.int λt e=>?_;refine aw hb.int λt' e'=>?_;simp only[e]at e';(injection e' with h9;clear hb;subst h9);simp only[m7];simp
  ·
   refine bY ha.str λy t e q=>?_;refine bY hb.str λy' t' e' q'=>?_;simp only[e]at e';(injection e' with h9;subst h9);simp only[← q,← q',rk];simp
  ·refine bY ha.tup λa vs e zz=>?_;simp only[hb.none]at e;exact(nomatch e)
  ·
   refine aW ha.tup λy vs e h1 h2=>?_;refine aW hb.tup λy' vs' e' h1' h2'=>?_;simp only[e]at e';(injection e' with h9;subst h9);obtain rfl:=h1.inj h1';exact hL u v vs r h h2 h2'
  ·
   refine aW ha.lst λy vs e h1 h2=>?_;refine aW hb.lst λy' vs' e' h1' h2'=>?_;simp only[e]at e';(injection e' with h9;subst h9);obtain rfl:=h1.inj h1';rcases gi h with⟨_,h⟩|⟨hz,h⟩
   ·exact hL u v vs r h h2 h2'
   ·have e1:=h2.length;have e2:=h2'.length;have:=Nat.ne_of_beq_eq_false hz;simp only[cj,cj]at this;lia
theorem uG(x y:Str):gM x.cps.toList y.cps.toList=(x==y):=by simp only[rk,toList_beq]
theorem jb:∀(n:Nat)(a b:V)(r:Bool)(x y:IZ)(A:I0),dw n a b=aa r->bC C X Pn s.heap a x->bC C X Pn s.heap b y->A.units+n<cLine->EqAt A s x y r/\RcAt A s x y r
 | 0,_,_,_,_,_,_,h,_,_,_=>by exact nS h
 | n+1,a,b,r,x,y,A,h,ha,hb,hu=>by
  have hL:∀(xs ys:List V)(vs ws:List IZ)(r:Bool),lu (dw n) xs ys=aa r->av C X s.heap xs vs->av C X s.heap ys ws->fb A.in1 s vs ws r:=by
   intro xs;induction xs with
   | nil=>
    intro ys vs ws r h hx hy;dsimp only[av]at hx;subst hx;induction ys using List.casesOn with
    | nil=>dsimp only[av]at hy;subst hy;obtain rfl:=Jd h;rfl
    | cons y ys=>dsimp only[av]at hy;refine xs22 ws hy λv rest zz=>?_;obtain rfl:=Jd h;rfl
   | cons u us ih=>
    intro ys vs ws r h hx hy;dsimp only[av]at hx;refine xs23 vs hx λv rest h1 h2=>?_;induction ys using List.casesOn with
    | nil=>dsimp only[av]at hy;subst hy;obtain rfl:=Jd h;rfl
    | cons y ys=>
     dsimp only[av]at hy;refine xs23 ws hy λv' rest' h1' h2'=>?_;simp only[l7]at h;refine oc (dw n u y) (λhf=>?_) λq hf=>?_
     ·simp only[hf]at h;exact nS h
     ·
      simp only[hf]at h;have e:=(jb n u y q v v' A.in1 hf (.inl h1) (.inl h1') (by show A.units+1+n<cLine;lia)).1;induction q using Bool.casesOn with
      | true=>exact .inl ⟨e,ih ys rest rest' r h h2 h2'⟩
      | false=>obtain rfl:=Jd h;exact .inr ⟨e,rfl⟩
  have hu':A.units<cLine:=JE (Nat.le_add_right _ _) hu;have h0:=h;revert ha hb h0;refine eqV_inv a b r h ?_ (λl=>?_) (λu v=>?_) (λu v=>?_) (λu v=>?_) (λl=>?_) (λu v r h=>?_) (λu v r h=>?_)<;>intro ha hb h0
  ·simp only[ha.none,hb.none];exact⟨EqAt.same _,RcAt.none_none⟩
  ·
   refine xs23 y hb.tup λa vs h1 zz=>?_;simp only[ha.none];exact⟨EqAt.none_tuple h1.fH hu',RcAt.none_tuple h1.fH hu'⟩
  ·
   simp only[ha.bool,hb.bool];have e:(@Jp (λJ=>Bool) (kK v) v u)=(u==v):=by clear ha;induction u using Bool.casesOn<;>induction v using Bool.casesOn<;>rfl
   simp only[e];exact⟨EqAt.bool_bool _ _,RcAt.bool_bool _ _⟩
  ·
   refine xs11 x ha.int λt=>?_;refine xs11 y hb.int λt'=>?_;simp only[m7];exact⟨EqAt.int_int _ _ _ _,RcAt.int_int _ _ _ _⟩
  ·
   refine xs22 x ha.str λy t z1=>?_;clear ha;subst z1;refine bY hb.str λy' t' z0 z1=>?_;subst z0;clear h0 hb;subst z1;simp only[uG];exact⟨EqAt.str_str _ _ _ _,RcAt.str_str _ _ _ _⟩
  ·
   refine xs23 x ha.tup λa vs h1 zz=>?_;simp only[hb.none];exact⟨EqAt.tuple_none h1.fH hu',RcAt.tuple_none h1.fH hu'⟩
  ·
   refine aW ha.tup λy vs z0 h1 h2=>?_;subst z0;refine aW hb.tup λy' vs' z0 h1' h2'=>?_;subst z0;have e:=yG h1 h1' hu' (hL u v vs vs' r h h2 h2');by_cases hne:y=y'
   ·clear h1';subst hne;have:=l6 _ _ _ _ _ h0 ha hb;clear h h0;subst this;exact⟨EqAt.same _,e⟩
   ·exact⟨EqAt.of_refs hne e,e⟩
  ·
   refine aW ha.lst λy vs z0 h1 h2=>?_;subst z0;refine aW hb.lst λy' vs' z0 h1' h2'=>?_;subst z0;have hl:=h2.length;have hl':=h2'.length;have e:RcAt A s (.ref y) (.ref y') r:=by
    rcases gi h with⟨hz,h⟩|⟨hz,h⟩
    ·have:=Nat.eq_of_beq_eq_true hz;simp only[cj,cj]at this;exact BJ h1 h1' hu' (by lia) (hL u v vs vs' r h h2 h2')
    ·have:=Nat.ne_of_beq_eq_false hz;simp only[cj,cj]at this;clear h0;obtain rfl:=Jd h;exact RcAt.lists_lengths h1.isList h1'.isList (by simp;lia) hu'
   by_cases hne:y=y'
   ·clear h1';subst hne;have:=l6 _ _ _ _ _ h0 ha hb;clear h h0;subst this;exact⟨EqAt.same _,e⟩
   ·exact⟨EqAt.of_refs hne e,e⟩
end
end
section
open PySem PySem.SeqAt PySem.MeetsSeq PySem.MeetsSeq2 PySem.MeetsSeq3 PySem.SeqRoads2
open AutoSeq1 (wpAny_loadPart')
set_option tactic.hygienic true
theorem w0(l b:I1)(xs ys:List IZ)(n n2:Nat)(r:Bool):
  Meets (Builtin.«tuple.__ne__» ⟨[.ref l,.ref b],[]⟩)
   (λA R s=>s.heap.get? l=aa { cls:=.type "tuple",dict:=ae,data:=.seq xs.toArray n,slots:=#[] }/\s.heap.get? b=aa { cls:=.type "tuple",dict:=ae,data:=.seq ys.toArray n2,slots:=#[] }/\
    fb A.in1 s xs ys r/\R (.ok (.ret (.bool (!r)))) s):=
 .of_wp λprog w A R s h=>by
  obtain⟨hp,g,d,tk,os⟩:=s;refine fo h λhl hb he h=>?_;have f2:=AutoSeq1.sub_tuple_tuple
  wp_walk using IT hl,IT hb,wpAny_forIn_list _ (λrest b s'=>b.1=ae/\s'=⟨hp,g,d,tk,os⟩/\∃xs' ys',rest=xs'.zip ys'/\fb A.in1 ⟨hp,g,d,tk,os⟩ xs' ys' r/\(xs'.length==ys'.length)=(xs.length==ys.length)) _
  case turn=>
   rintro ⟨y,x⟩ rest b s' ⟨hb',rfl,xs',ys',hz,hR,hlen⟩;induction xs' using List.casesOn with
   | nil=>simp at hz
   | cons u us=>induction ys' using List.casesOn with
    | nil=>simp at hz
    | cons v vs=>
     simp only[List.zip_cons_cons,List.cons.injEq,Prod.mk.injEq]at hz;refine ao hz λz0 z1=>?_;clear hz;obtain⟨rfl,rfl⟩:=z0;subst z1;rcases hR with⟨he,hR⟩|⟨he,hr⟩
     ·refine az (he prog w _ _ ?_)
      wp_walk
      exact⟨rfl,rfl,us,vs,rfl,hR,by simpa using hlen⟩
     ·refine az (he prog w _ _ ?_);subst hr
      wp_walk
      exact au _ rfl h
  case fin=>
   rintro ⟨b1,b2⟩ s' ⟨hb',rfl,xs',ys',hz,hR,hlen⟩;simp only at hb';subst hb';have hr:r=(xs.length==ys.length):=by
    refine rwl hlen.symm ?_;induction xs' using List.casesOn with
    | nil=>induction ys' using List.casesOn with
     | nil=>exact hR
     | cons v vs=>exact hR
    | cons u us=>induction ys' using List.casesOn with
     | nil=>exact hR
     | cons v vs=>simp at hz
   subst hr
   wp_walk
   exact au _ rfl (by simpa [Builtin.Tuple.tupleCompareSizes,bne]using h)
  case h=>
   exact⟨rfl,rfl,xs,ys,by simp,he,rfl⟩
set_option tactic.hygienic false
theorem sX(l b:I1)(items items2:List IZ)(n n2:Nat)(r:Bool)(hsz:items.length=items2.length)(k:Nat):
  ∀i:Nat,items.length-i=k->Meets (Builtin.«list.__eq__.loop» ⟨[.ref l,.ref b,rawInt i,rawInt 3],[]⟩)
   (λA R s=>s.heap.get? l=aa { cls:=.type "list",dict:=ae,data:=.seq items.toArray n,slots:=#[] }/\s.heap.get? b=aa { cls:=.type "list",dict:=ae,data:=.seq items2.toArray n2,slots:=#[] }/\
    fb A.in1 s (items.drop i) (items2.drop i) r/\
    R (.ok (.ret (.bool (!r)))) s):=by
 induction k with
 | zero=>
  intro i hk prog w A R s h;obtain⟨hp,g,d,tk,os⟩:=s;refine fo h λhl hb he h=>?_
  wp_walk using IT hl,IT hb
  have hi1:items.toArray[((i:Nat):Int).toNat]?=ae:=by simp;exact Nat.le_of_sub_eq_zero hk
  have hi2:items2.toArray[((i:Nat):Int).toNat]?=ae:=by simp;lia
  have hd:items.drop i=[]:=by simp;exact Nat.le_of_sub_eq_zero hk
  have hd2:items2.drop i=[]:=by simp;lia
  replace he:=hd2▸hd▸he;have hr:r=af:=he;subst hr;refine rwl hi1 (rwl hi2 ?_)
  wp_walk using IT hl,IT hb
  show R (.ok (.ret (.bool (items.toArray.size !=items2.toArray.size)))) _;simpa [hsz]using h
 | succ k ih=>
  intro i hk prog w A R s h;obtain⟨hp,g,d,tk,os⟩:=s;refine fo h λhl hb he h=>?_
  wp_walk using IT hl,IT hb
  have hlt:i<items.length:=jQ hk;have hlt2:i<items2.length:=hsz▸hlt;have hi1:items.toArray[((i:Nat):Int).toNat]?=aa items[i]:=by rw[Int.toNat_natCast,List.getElem?_toArray,Jt hlt]
  have hi2:items2.toArray[((i:Nat):Int).toNat]?=aa items2[i]:=by rw[Int.toNat_natCast,List.getElem?_toArray,Jt hlt2]
  have hd:items.drop i=items[i]::items.drop (i+1):=List.drop_eq_getElem_cons hlt;have hd2:items2.drop i=items2[i]::items2.drop (i+1):=List.drop_eq_getElem_cons hlt2;have hc:((i:Int)+1)=((i+1:Nat):Int):=by push_cast;rfl
  replace he:=hd2▸hd▸he;refine rwl hi1 (rwl hi2 ?_);rcases he with⟨e1,he⟩|⟨e1,hr⟩
  ·refine IQ (e1 prog w _ _ ?_)
   wp_walk
   refine rwl hc ?_;exact⟨plainId_quiet plain_eq_loop _,I9 entry_eq_loop (by
    refine rwl (Around.under_plainId plain_eq_loop _) ?_;exact ih (i+1) (by lia) prog w A R _ ⟨hl,hb,he,h⟩)⟩
  ·refine IQ (e1 prog w _ _ ?_);subst hr
   wp_walk using IT hl,IT hb
   refine rwl hi1 (rwl hi2 ?_)
   wp_walk
   simpa using h
theorem yT(l b:I1)(items items2:List IZ)(n n2:Nat)(r:Bool)(hsz:items.length=items2.length):
  Meets (Builtin.«list.__ne__» ⟨[.ref l,.ref b],[]⟩)
   (λA R s=>s.heap.get? l=aa { cls:=.type "list",dict:=ae,data:=.seq items.toArray n,slots:=#[] }/\s.heap.get? b=aa { cls:=.type "list",dict:=ae,data:=.seq items2.toArray n2,slots:=#[] }/\
    fb A.in1 s items items2 r/\R (.ok (.ret (.bool (!r)))) s):=by
 intro prog w A R s h;obtain⟨hp,g,d,tk,os⟩:=s;refine fo h λhl hb he h=>?_;have f3:=AutoSeq1.sub_list_list;have hne:¬(items.toArray.size !=items2.toArray.size)=af:=by simp[hsz]
 wp_walk using IT hl,IT hb
 exact⟨plainId_quiet plain_eq_loop _,I9 entry_eq_loop (by
  refine rwl (Around.under_plainId plain_eq_loop _) ?_;exact sX l b items items2 n n2 r hsz _ 0 rfl prog w A R _ ⟨hl,hb,he,h⟩)⟩
end
section
open PySem PySem.Calls PyProof.Rows PySem.SeqAt
section
variable{X Pn:AP}{A:I0}{s:IY}{E:IZ->IY->Prop}
theorem G4(n:Nat)(l:List V):keyOk (n+1) (.tup l)=allB (keyOk n) l:=rfl
theorem mi{f:V->Bool}:∀{l:List V},allB f l=af->∀v∈l,f v=af
 | [],_,_,h=>nomatch h
 | a::l,h,v,hv=>by
  have e:allB f (a::l)=@Jp (λJ=>Bool) ag (allB f l) (f a):=rfl;replace h:=e▸h;refine kY (f a) (λq=>?_) λq=>?_
  ·replace h:=q▸h;exact fT h
  ·
   replace h:=q▸h;rcases Jx.mp hv with rfl|hv
   ·exact q
   ·exact mi h v hv
theorem gO{n:Nat}{v:V}(h:keyOk n v=af):(∃i,v=.int i)\/(∃i,v=.str i)\/∃l m,v=.tup l/\n=m+1/\allB (keyOk m) l=af:=by
 induction n using Nat.casesOn with
 | zero=>exact fT h
 | succ n=>
  induction v using V.casesOn<;>(first|exact nS h|exact fT h|(dsimp only[keyOk]at h<;>(try cases h)))
  ·exact .inl ⟨_,rfl⟩
  ·exact .inr (.inl ⟨_,rfl⟩)
  ·exact .inr (.inr (bX _ n rfl rfl h))
theorem lE(w:World)(x:Str):hashStr w x=mC w x.cps.toList:=by
 unfold mC;induction x using Str.casesOn;simp
theorem oN:∀(n:Nat)(v:V)(x:IZ)(s:IY)(A:I0)(E:IZ->IY->Prop)(Q:Int->IY->Prop),keyOk n v=af->aq C X s.heap v x->A.units+n<cLine->(∀tk,Q (dM C.w v) { s with toks:=tk })->
  wpAny (model C.prog C.w) A (pyHash x) Q E s:=by
 intro n;induction n with
 | zero=>intro v x s A E Q h;exact fT h
 | succ n ih=>
  intro v x s A E Q hk hv hu hQ;rcases gO hk with⟨i,rfl⟩|⟨i,rfl⟩|⟨l,m,rfl,e,hl⟩
  ·dsimp only[aq]at hv;refine aw hv λt z0=>?_;clear hv;subst z0;exact wpAny_pyHash_int (by simpa [dM]using hQ _)
  ·dsimp only[aq]at hv;refine bY hv λy t z0 z1=>?_;clear hv;subst z0;clear hk;subst z1;exact wpAny_pyHash_str (by rw[lE];simpa [dM]using hQ _)
  ·(injection e with h9;subst h9)
   dsimp only[aq]at hv;refine dO hv λa vs z0 zz z1 hi=>?_;clear hv;subst z0;obtain⟨_,k,ho⟩:=z1;have hT:s.TypeIs (.ref a) "tuple" := au _ ho rfl;have hd:(oF vs k).data=.seq vs.toArray k:=rfl;unfold pyHash
   first|unfold pyHashByItsType|skip
   first|refine az (wpAny_cRoomFor_or (.inr (JE (Nat.le_add_right _ _) hu)) ?_)|skip
   refine az (wpAny_specialOf hT F.slot_tuple_hash.lookup ?_);show wpAny _ _ (if (aa (Value.builtin "tuple.__hash__")==aa Value.none)=af then _ else _) Q E s
   refine rwl (if_neg (by rw[beq_builtin_none];exact Bool.false_ne_true)) ?_;refine az (wpAny_specialOf hT F.slot_tuple_hash.lookup ?_);show wpAny _ _ (callSpecialIfBoundUnlessNone? (.ref a) "__hash__" _ >>= _) Q E s;refine az (wpAny_callSpecialIfBoundUnlessNone?_slot hT F.slot_tuple_hash (IU F.slot_tuple_hash hT F.entry_tuple_hash ?_ (F.args_tuple_hash_1 _)));show wpAny _ _ (Builtin.Tuple.tupleItemsOf (.ref a) >>= _) _ _ s;refine az (wpAny_tupleItemsOf ho hd ?_);refine az ?_;refine rwl Array.forIn_toList.symm ?_;refine wpAny_forIn_list _
    (λrest (b:Array Int) s'=>∃done left,l=done++left/\av C X s.heap left rest/\b.toList=bq C.w done/\∃tk,s'={ s with toks:=tk })
    _ ?_ ?_ _ _ (d8 ([]) l rfl (by simpa using hi) (by simp[bq]) ⟨s.toks,rfl⟩)
   ·rintro x rest b s' ⟨done,left,rfl,hr,hb,tk,rfl⟩;induction left using List.casesOn with
    | nil=>simp[av]at hr
    | cons v left=>
     rw[av.fz]at hr;have hkv:keyOk n v=af:=mi hl v (by simp);refine az (ih v x _ _ _ _ hkv hr.1 ?_ λtk'=>?_)
     ·show A.units+1+n<cLine;lia
     ·have happ:∀(a b:List V),bq C.w (a++b)=bq C.w a++bq C.w b:=by
       intro a;induction a with
       | nil=>intro b;simp[bq]
       | cons u a ih'=>intro b;simp[bq,ih']
      first
       | exact IP (d8 (done++[v]) left (by simp) hr.2 (by simp[hb,happ,bq]) ⟨tk',rfl⟩)
       | exact az (IP (IP ⟨done++[v],left,by simp,hr.2,by simp[hb,happ,bq],tk',rfl⟩))
   ·rintro b s' ⟨done,left,rfl,hr,hb,tk,rfl⟩;induction left using List.casesOn with
    | cons v left=>simp[av]at hr
    | nil=>
     rw[List.append_nil]at hQ;show wpAny _ _ (retInt (Builtin.Tuple.tupleHashOf b.toList)) _ _ _;refine rwl hb ?_;refine wpAny_ret_mkInt ?_;show wpAny _ _ (if (decide (-(2:Int)^63<=Builtin.Tuple.tupleHashOf (bq C.w done))&&decide (Builtin.Tuple.tupleHashOf (bq C.w done)<2^63))=af then _ else _) Q E _
     dsimp only[dM]at hQ;unfold reduceHash at hQ;by_cases hr:(decide (-(2:Int)^63<=Builtin.Tuple.tupleHashOf (bq C.w done))&&decide (Builtin.Tuple.tupleHashOf (bq C.w done)<2^63))=af
     ·refine rwl (if_pos hr) ?_;replace hQ:=(if_pos hr)▸hQ;exact IP (hQ _)
     ·refine rwl (if_neg hr) ?_;replace hQ:=(if_neg hr)▸hQ;exact az (wpAny_rule (IP (hQ _)))
theorem uR:∀(n:Nat)(v:V)(x:IZ)(s:IY)(A:I0)(E:IZ->IY->Prop)(Q:Bool->IY->Prop),keyOk n v=af->aq C X s.heap v x->Q af s->
  wpAny (model C.prog C.w) A (eqIsQuiet n x) Q E s:=by
 intro n;induction n with
 | zero=>intro v x s A E Q h;exact fT h
 | succ n ih=>
  intro v x s A E Q hk hv hQ;rcases gO hk with⟨i,rfl⟩|⟨i,rfl⟩|⟨l,m,rfl,e,hl⟩
  ·dsimp only[aq]at hv;refine aw hv λt z0=>?_;clear hv;subst z0;refine rwl (eqIsQuiet_byValue _ rfl) ?_;exact IP hQ
  ·dsimp only[aq]at hv;refine bY hv λy t z0 z1=>?_;clear hv;subst z0;clear hk;subst z1;refine rwl (eqIsQuiet_byValue _ rfl) ?_;exact IP hQ
  ·(injection e with h9;subst h9)
   dsimp only[aq]at hv;refine dO hv λa vs z0 zz z1 hi=>?_;clear hv;subst z0;obtain⟨_,k,ho⟩:=z1;have hT:s.TypeIs (.ref a) "tuple" := au _ ho rfl;have hd:(oF vs k).data=.seq vs.toArray k:=rfl;unfold eqIsQuiet;refine az (wpAny_specialOf hT F.slot_tuple_eq.lookup ?_);skip;refine az (wpAny_isInstance hT isSubtype_tuple_tuple ?_);dsimp only[Bool.not_true,Jo,if_false];refine az (wpAny_seqItems ho hd ?_);refine az ?_;skip;refine rwl Array.forIn_toList.symm ?_;refine wpAny_forIn_list _ (λrest r s'=>r.1=ae/\s'=s/\∃left,av C X s.heap left rest/\∀v∈left,keyOk n v=af) _ ?_ ?_ _ _ ⟨rfl,rfl,l,by simpa using hi,mi hl⟩
   ·rintro x rest r s' ⟨hr,rfl,left,hl',hall⟩;induction left using List.casesOn with
    | nil=>simp[av]at hl'
    | cons v left=>
     rw[av.fz]at hl';refine IQ (ih v x _ _ _ _ (hall v (by simp)) hl'.1 ?_);simp only[Bool.not_true,Jo,if_false];exact IP ⟨rfl,rfl,left,hl'.2,λu hu'=>hall u (Jr _ hu')⟩
   ·rintro ⟨r1,r2⟩ s' ⟨hr,rfl,_⟩;simp only at hr;subst hr;exact IP hQ
end
theorem vk{f:V->V->Option Bool}:∀{l m:List V}{r:Bool},(∀a∈l,∀b r,f a b=aa r->(r=af↔a=b))->lu f l m=aa r->(r=af↔l=m)
 | [],[],r,_,h=>by obtain rfl:=Jd h;simp
 | [],_::_,r,_,h=>by obtain rfl:=Jd h;simp
 | _::_,[],r,_,h=>by obtain rfl:=Jd h;simp
 | a::l,b::m,r,hf,h=>by
  simp only[l7]at h;refine oc (f a b) (λq=>?_) λc q=>?_
  ·simp only[q]at h;exact nS h
  ·
   simp only[q]at h;have e:=hf a (by simp) b c q;induction c using Bool.casesOn with
   | false=>
    obtain rfl:=Jd h;have:a≠b:=λx=>by have:=e.mpr x;exact fT this
    simp[this]
   | true=>
    have e:=e.mp rfl;clear q;subst e;have:=vk (λa' ha=>hf a' (Jr _ ha)) h;simp[this]
set_option tactic.hygienic true
theorem qN:∀(n m:Nat)(a b:V)(r:Bool),keyOk m a=af->dw n a b=aa r->(r=af↔a=b)
 | 0,_,_,_,_,_,h=>by exact nS h
 | n+1,m,a,b,r,hk,h=>by
  rcases gO hk with⟨i,rfl⟩|⟨i,rfl⟩|⟨l,m',rfl,_,hl⟩<;>induction b using V.casesOn<;>(first|exact nS h|exact fT h|(dsimp only[dw]at h<;>(try cases h)))
  case inl.int j=>rw[qG];simp
  case inr.inl.str j=>rw[jz];simp
  case inr.inr.none=>simp
  case inr.inr.tup j=>
   have:=vk (λa' ha b' r' hr=>qN n m' a' b' r' (mi hl a' ha) hr) h;simp[this]
set_option tactic.hygienic false
theorem rK:∀{n:Nat}{k:V}{i:Int}{b:Bool},dw n k (.int i)=aa b->∃j,k=.int j
 | 0,_,_,_,h=>by exact nS h
 | n+1,k,i,b,h=>by
  induction k using V.casesOn<;>(first|exact nS h|exact fT h|(dsimp only[dw]at h<;>(try obtain rfl:=Jd h)))
  exact⟨_,rfl⟩
theorem rJ:∀{n:Nat}{k:V}{i:List Nat}{b:Bool},dw n k (.str i)=aa b->∃j,k=.str j
 | 0,_,_,_,h=>by exact nS h
 | n+1,k,i,b,h=>by
  induction k using V.casesOn<;>(first|exact nS h|exact fT h|(dsimp only[dw]at h<;>(try obtain rfl:=Jd h)))
  exact⟨_,rfl⟩
theorem rI:∀{n:Nat}{k:V}{i:List V}{b:Bool},dw n k (.tup i)=aa b->k=.none\/∃j,k=.tup j
 | 0,_,_,_,h=>by exact nS h
 | n+1,k,i,b,h=>by
  induction k using V.casesOn<;>(first|exact nS h|exact fT h|(dsimp only[dw]at h<;>(try cases h)))
  ·exact .inl rfl
  ·exact .inr ⟨_,rfl⟩
theorem wA(k:V)(l:List V)(x:V)(i:Nat):dD (k::l) x i=
  @Option.rec Bool (λJ=>Option (Option Nat)) ae (λb=>@Option.rec (Option Nat) (λJ=>Option (Option Nat)) ae (λo=>@Jp (λJ=>Option (Option Nat)) (aa o) (@Option.rec Nat (λJ=>Option (Option Nat)) (aa (aa i)) (λJ=>ae) o) b) (dD l x (i+1))) (dw d7 k x):=rfl
theorem pV:∀{l:List V}{x:V}{i:Nat}{o:Option Nat},dD l x i=aa o->
  (∀j k,l[j]?=aa k->dw d7 k x=aa (decide (o=aa (i+j))))/\(∀m,o=aa m->i<=m/\m<i+l.length)
 | [],_,_,_,h=>by obtain rfl:=Jd h;exact⟨λj k e=>by simp at e,λm e=>nomatch e⟩
 | k::l,x,i,o,h=>by
  simp only[wA]at h;refine oc (dw d7 k x) (λq=>?_) λb q=>?_
  ·simp only[q]at h;exact nS h
  ·
   simp only[q]at h;induction q':dD l x (i+1)using Option.casesOn with
   | none=>simp only[q']at h;exact nS h
   | some o'=>
    simp only[q']at h;have ih:=pV q';induction b using Bool.casesOn with
    | false=>
     obtain rfl:=Jd h;refine⟨λj k' e=>?_,λm e=>?_⟩
     ·induction j using Nat.casesOn with
      | zero=>
       simp only[List.getElem?_cons_zero,Je]at e;subst e;rw[q,decide_eq_false];intro e;have:=(ih.2 _ e).1;exact JB _ this
      | succ j=>
       dsimp only[List.getElem?_cons_succ]at e;simp only[ih.1 j k' e]
       congr 2
       rw[show i+1+j=i+(j+1) by exact Nat.add_right_comm _ _ _]
     ·have:=ih.2 m e;dsimp only[List.length_cons];lia
    | true=>
     induction o' using Option.casesOn with
     | some m=>exact nS h
     | none=>
      obtain rfl:=Jd h;refine⟨λj k' e=>?_,λm e=>?_⟩
      ·induction j using Nat.casesOn with
       | zero=>
        simp only[List.getElem?_cons_zero,Je]at e;subst e;rw[q,decide_eq_true (by simp)]
       | succ j=>
        dsimp only[List.getElem?_cons_succ]at e;simp only[ih.1 j k' e];simp
      ·obtain rfl:=Jd e;simp
section
variable{X Pn:AP}{A:I0}{s:IY}{E:IZ->IY->Prop}
theorem pR{w:World}:∀{l:List V}{j:Nat}{k:V},l[j]?=aa k->(bq w l)[j]?=aa (dM w k)
 | [],_,_,h=>by simp at h
 | a::l,0,k,h=>by simp only[List.getElem?_cons_zero,Je]at h;subst h;simp[bq]
 | a::l,j+1,k,h=>by dsimp only[List.getElem?_cons_succ]at h;simp[bq,pR h]
structure zQ(C:Cfg)(X:AP)(h:Heap)(ks:List V)(x:V)(o:Option Nat)(es:List I2):Prop where
 at_:∀j e,es[j]?=aa e->∃k,ks[j]?=aa k/\keyOk 8 k=af/\aq C X h k e.key/\e.hash=dM C.w k/\dw d7 k x=aa (decide (o=aa j))/\(o=aa j↔k=x)
 hit:∀m,o=aa m->∃e,es[m]?=aa e/\e.hash=dM C.w x/\aq C X h x e.key
theorem ents{h:Heap}{ks:List V}{x:V}{o:Option Nat}{es:List I2}(hks:av C X h ks (es.map (·.key)))(hh:es.map (·.hash)=bq C.w ks)(hok:ji ks)(hf:dD ks x 0=aa o):zQ C X h ks x o es:=by
 have F:=pV hf;have hlen:=hks.length;rw[Jv]at hlen;have A1:∀j e,es[j]?=aa e->∃k,ks[j]?=aa k/\keyOk 8 k=af/\aq C X h k e.key/\e.hash=dM C.w k/\dw d7 k x=aa (decide (o=aa j))/\(o=aa j↔k=x):=by
  intro j e he;have hj:j<es.length:=(Jw.mp he).1;have hk:ks[j]?=aa ks[j]:=Jt (hlen▸hj);refine aj (hks.get hk) λv hv hr=>?_;rw[List.getElem?_map,he]at hv;obtain rfl:=Jd hv;have h1:=pR (w:=C.w) hk;rw[← hh,List.getElem?_map,he]at h1;have h2:=F.1 j _ hk;rw[Nat.zero_add]at h2;have hok':=hok ks[j] (List.getElem_mem _);refine CI _ hk hok' hr (by simpa using h1) h2 ?_;rw[← qN _ _ _ _ _ hok' h2,decide_eq_true_eq]
 refine⟨A1,λm hm=>?_⟩;have:=F.2 m hm;have he:es[m]?=aa es[m]:=Jt (by omega);refine jI (A1 m _ he) λk zz zz hr hhash zz hiff=>?_;have:=hiff.mp hm;clear hf F A1 zz hiff;subst this;exact aU _ he hhash hr
theorem zQ.findIdx{h:Heap}{ks:List V}{x:V}{o:Option Nat}{es:List I2}(N:zQ C X h ks x o es){p:I2->Bool}(hp:∀j e,es[j]?=aa e->p e=decide (o=aa j)):es.toArray.findIdx? p=o:=by
 induction o using Option.casesOn with
 | none=>
  refine Array.findIdx?_eq_none_iff.mpr λe he=>?_;obtain⟨j,hj,rfl⟩:=Array.mem_iff_getElem.mp he;have:=hp j es.toArray[j] (by simp);simpa using this
 | some m=>
  refine aj (N.hit m rfl) λe he zz=>?_;refine aw (Jw.mp he) λhm he=>?_;refine Array.findIdx?_eq_some_iff_getElem.mpr (au (by simpa using hm) ?_ (λj hj=>?_))
  ·have:=hp m es[m] (by simp[hm]);simpa using this
  ·have:=hp j es[j] (by simp[show j<es.length by exact Nat.lt_trans hj hm]);simp only[List.getElem_toArray,this,Je];simp;exact Nat.ne_of_gt hj
theorem Bf{α β:Type}{M:Model}{A:I0}{E:IZ->IY->Prop}{f:α->β->Sem (ForInStep β)}(I:List α->β->IY->Prop){Q:β->IY->Prop}
  (turn:∀g,g=f->∀(Y:ForInStep β->IY->Prop)(x:α)(rest:List α)(b:β)(s:IY),(∀b' s',I rest b' s'->Y (.yield b') s')->(∀b' s',Q b' s'->Y (.done b') s')->I (x::rest) b s->wpAny M A (g x b) Y E s)
  (fin:∀b s,I [] b s->Q b s) (l:List α) (b:β) (s:IY) (h:I l b s):wpAny M A (forIn l b f) Q E s:=
 wpAny_forIn_list f I Q (λx rest b s i=>turn f rfl _ x rest b s (λJ J h=>h) (λJ J h=>h) i) fin l b h
theorem Bg{β:Type}{M:Model}{A:I0}{E:IZ->IY->Prop}{s:IY}{c:Prop}{i:Decidable c}{x:Sem Bool}{R:Bool->Sem β}{Q:β->IY->Prop}(hx:∀Q:Bool->IY->Prop,Q ag s->wpAny M A x Q E s)(h:wpAny M A (R ag) Q E s):wpAny M A (if c then pure ag >>= R else x >>= R) Q E s:=by
 by_cases q:c
 ·refine rwl (if_pos q) ?_;exact IQ (IP h)
 ·refine rwl (if_neg q) ?_;exact IQ (hx _ h)
theorem ma{d:I1}{n:Nat}{es:List I2}{ks:List V}{x:V}{key:IZ}{o:Option Nat}{Q:Option Nat->IY->Prop}(hd:s.heap.get? d=aa (dH es n))(hks:av C X s.heap ks (es.map (·.key)))
  (hh:es.map (·.hash)=bq C.w ks) (hok:ji ks) (hx:keyOk 8 x=af) (hkey:aq C X s.heap x key) (hu:A.units+100<cLine) (hf:dD ks x 0=aa o) (hQ:Q o s):
  wpAny (model C.prog C.w) A (dictFind d key (dM C.w x)) Q E s:=by
 have N:=ents hks hh hok hf;rcases gO hx with⟨i,rfl⟩|⟨i,rfl⟩|⟨l,m,rfl,_,hl⟩
 ·dsimp only[aq]at hkey;refine aw hkey λt z0=>?_;clear hkey;subst z0;have K1:∀j e,es[j]?=aa e->∃k u,e.key=.int k u/\e.hash=hashInt k/\(o=aa j↔k=i):=by
   intro j e he;refine jI (N.at_ j e he) λk zz hk hr hhash heq hiff=>?_;refine aw (rK heq) λk z0=>?_;clear zz hk heq;subst z0;dsimp only[aq]at hr;refine aw hr λu hr=>?_;exact bX k u hr (by simpa [dM]using hhash) (by rw[hiff];simp)
  refine wpAny_dictFind_of (knd:=intKind C.prog C.w) (k:=i) (by simp[intKind,Value.isInt]) hd rfl ?_ ?_
  ·intro e he;obtain⟨j,hj,rfl⟩:=Array.mem_iff_getElem.mp he;refine aW (K1 j es.toArray[j] (by simp)) λk u h1 h2 zz=>?_;exact au k (by rw[h1];simp[intKind,Value.isInt]) h2
  ·rw[N.findIdx (λj e he=>?_)]
   ·exact hQ
   ·refine aW (K1 j e he) λk u h1 zz h3=>?_;rw[h1];show(k==i)=_;by_cases hki:k=i
    ·rw[decide_eq_true (h3.mpr hki)];simpa using hki
    ·rw[decide_eq_false (λx=>hki (h3.mp x))];simpa using hki
 ·dsimp only[aq]at hkey;refine bY hkey λy t z0 z1=>?_;clear hkey;subst z0;clear hx hf;subst z1;have K1:∀j e,es[j]?=aa e->∃k u,e.key=.str k u/\e.hash=hashStr C.w k/\(o=aa j↔k=y):=by
   intro j e he;refine jI (N.at_ j e he) λk zz hk hr hhash heq hiff=>?_;refine aw (rJ heq) λk z0=>?_;subst z0;dsimp only[aq]at hr;clear zz hk heq;obtain⟨z,u,hr,rfl⟩:=hr;refine bX z u hr (by rw[lE];simpa [dM]using hhash) ?_;rw[hiff];have:=toList_beq z y;rw[Bool.eq_iff_iff]at this;simpa using this
  have hsh:dM C.w (.str y.cps.toList)=(PySem.strKind C.prog C.w).hash y:=by
   show _=hashStr C.w y;rw[lE];simp[dM]
  rw[hsh];refine wpAny_dictFind_of (knd:=PySem.strKind C.prog C.w) (k:=y) (by simp[PySem.strKind,Value.isStrOf]) hd rfl ?_ ?_
  ·intro e he;obtain⟨j,hj,rfl⟩:=Array.mem_iff_getElem.mp he;refine aW (K1 j es.toArray[j] (by simp)) λk u h1 h2 zz=>?_;exact au k (by rw[h1];simp[PySem.strKind,Value.isStrOf]) h2
  ·rw[N.findIdx (λj e he=>?_)]
   ·exact hQ
   ·refine aW (K1 j e he) λk u h1 zz h3=>?_;rw[h1];show(k==y)=_;by_cases hki:k=y
    ·rw[decide_eq_true (h3.mpr hki)];simpa using hki
    ·rw[decide_eq_false (λx=>hki (h3.mp x))];simpa using hki
 ·have hrep:=hkey;dsimp only[aq]at hkey;refine dO hkey λa vs z0 zz z1 zz=>?_;clear hkey;subst z0;obtain⟨_,na,hta⟩:=z1;have K1:∀j e,es[j]?=aa e->∃k b,aq C X s.heap k e.key/\keyOk 8 k=af/\e.key=.ref b/\EqAt A s e.key (.ref a) (decide (o=aa j))/\e.hash=dM C.w k/\(o=aa j↔k=.tup l)/\dw d7 k (.tup l)=aa (decide (o=aa j)):=by
   intro j e he;refine jI (N.at_ j e he) λk zz hk hr hhash heq hiff=>?_;have E1:=(jb (Pn:=λJ=>False) _ _ _ _ _ _ A heq (.inl hr) (.inl hrep) (by show A.units+60<cLine;lia)).1;clear zz;rcases rI heq with rfl|⟨k,rfl⟩
   ·exact fT hk
   ·have hr':=hr;dsimp only[aq]at hr;refine bY hr λb ws hb zz=>?_;exact CH _ b hr' hk hb E1 hhash hiff heq
  have hany:¬(es.toArray.any λe=>e.key==Value.ref a&&e.hash !=dM C.w (.tup l))=af:=by
   rw[← Array.any_toList,List.any_eq_true];rintro ⟨e,hin,hc⟩;refine aw (List.mem_iff_getElem?.mp hin) λj hj=>?_;refine yi (K1 j e (by simpa using hj)) λk b hr hk hb zz hhash zz hr1=>?_;simp only[Jn,beq_iff_eq,bne_iff_ne,ne_eq]at hc;refine ao hc λh1 h2=>?_;rw[h1]at hr;have:k=.tup l:=(qN _ _ _ _ _ hk hr1).mp (l6 (Pn:=λJ=>False) _ _ _ _ _ hr1 (.inl hr) (.inl hrep));clear hr hk zz hr1;subst this;exact h2 hhash
  generalize hH:dM C.w (.tup l)=H at *;generalize hP:placesWithHash es.toArray.size (λi=>es.toArray[i]?.map (·.hash)) H=places;have hpl:∀j∈places,∃e,es[j]?=aa e/\e.hash=H:=by
   intro j hj;rw[← hP]at hj;refine ao (List.mem_filter.mp hj) λzz hj=>?_;simp only[List.getElem?_toArray,beq_iff_eq,Option.map_eq_some_iff]at hj;exact hj
  have hnd:places.Nodup:=by rw[← hP];exact List.nodup_range.filter _
  have hmem:∀m,o=aa m->m∈places:=by
   intro m hm;refine aQ (N.hit m hm) λe he hh' zz=>?_;rw[hH]at hh';rw[← hP];refine List.mem_filter.mpr ⟨List.mem_range.mpr ?_,?_⟩
   ·simpa using(Jw.mp he).1
   ·simp[he,hh']
  have hst:∀v∈places.filterMap (λi=>es.toArray[i]?.map (·.key)),∃k,aq C X s.heap k v/\keyOk 8 k=af:=by
   intro v hv;refine aj (List.mem_filterMap.mp hv) λi zz hi=>?_;simp only[List.getElem?_toArray,Option.map_eq_some_iff]at hi;refine aj hi λe he z0=>?_;clear hi;clear hv;subst z0;refine aW (K1 i e he) λk b hr hk zz=>?_;exact au k hr hk
  have hquiet:∀(stored:List IZ),(∀v∈stored,∃k,aq C X s.heap k v/\keyOk 8 k=af)->∀(Q:Bool->IY->Prop),Q ag s->wpAny (model C.prog C.w) A (tableMayTell (.ref a) stored) Q E s:=by
   intro stored hst Q hQ;delta tableMayTell
   split
   ·exact IP hQ
   ·refine az (uR (X:=X) 8 _ _ _ _ _ _ hx hrep ?_);dsimp only[Bool.not_true,Jo,if_false];refine az ?_;refine wpAny_forIn_list _ (λrest r s'=>s'=s/\r=(ae,())/\∀v∈rest,∃k,aq C X s.heap k v/\keyOk 8 k=af) _ ?_ ?_ _ _ ⟨rfl,rfl,hst⟩
    ·rintro x rest r s' ⟨rfl,rfl,hr⟩;refine aj (hr x Js) λk' hb hk'=>?_;refine IQ (uR (X:=X) 8 _ _ _ _ _ _ hk' hb ?_);simp only[Bool.not_true,Jo,if_false];exact IP ⟨rfl,rfl,λv hv=>hr v (Jr _ hv)⟩
    ·rintro r s' ⟨rfl,rfl,_⟩;exact IP hQ
  delta dictFind
  try with_reducible refine IS ?_
  refine IQ (wpAny_dictEntries hd rfl ?_);dsimp only;rw[hP];refine eU (by simp[carriedByValue]) (eU hany ?_);refine Bg (hquiet _ hst) (eU Bool.false_ne_true ?_);refine az (Bf
   (λrest b s'=>s'=s/\∃done hit,b=(ae,hit)/\places=done++rest/\((hit=ae/\∀j∈done,o≠aa j)\/∃j∈done,hit=aa j/\o=aa j)) ?_ ?_ _ _ _
   ⟨rfl,[],ae,rfl,rfl,.inl ⟨rfl,λJ h=>nomatch h⟩⟩)
  ·rintro g hg Y x rest b s' hy hdn ⟨rfl,done,hit,rfl,hr,hI⟩;refine aj (hpl x (by rw[hr];simp)) λe he hh'=>?_;have hea:es.toArray[x]?=aa e:=by simpa using he
   refine yi (K1 x e he) λk kb hrk hk hb E1 hhash hiff heq=>?_;have hxd:x∉done:=by
    rw[hr]at hnd;exactλh=>(List.nodup_append.mp hnd).2.2 x h x (by simp) rfl
   subst hg;dsimp only;rw[hea];dsimp only;refine pe (by simpa using hh') ?_;refine az (wpAny_dictEpoch hd rfl (IQ (E1 _ _ _ _ (IQ (wpAny_dictEpoch hd rfl ?_)))));refine eU (by simp) ?_;by_cases hox:o=aa x
   ·rw[decide_eq_true hox];rcases hI with⟨rfl,_⟩|⟨j,hj,_,hoj⟩
    ·first|rw[if_pos rfl]|skip
     dsimp only[Option.isSome_none,Jo,if_false]
     first|refine az (IP ?_)|skip
     refine IQ (wpAny_rule ?_)
     split
     ·exact IP (hdn _ _ (IP (hox▸hQ)))
     ·exact IP (hy _ _ ⟨rfl,done++[x],aa x,rfl,by simp[hr],.inr ⟨x,by simp,rfl,hox⟩⟩)
    ·rw[hox]at hoj;clear left_2;obtain rfl:=Jd hoj;exact absurd hj hxd
   ·rw[decide_eq_false hox];have hI':((hit=ae/\∀j∈done++[x],o≠aa j)\/∃j∈done++[x],hit=aa j/\o=aa j):=by
     rcases hI with⟨h0,hno⟩|⟨j,hj,h1,h2⟩
     ·refine .inl ⟨h0,λj hj=>?_⟩;rcases List.mem_append.mp hj with hj|hj
      ·exact hno j hj
      ·simp only[List.mem_singleton]at hj;clear hr he hea E1 hiff heq hxd;subst hj;exact hox
     ·exact .inr (aU j (by simp[hj]) h1 h2)
    simp only[Jo,if_false];refine az (wpAny_rule ?_)
    first|rw[if_neg (by simp)]|skip
    first
     | exact IP (hy _ _ (bX (done++[x]) hit rfl (by simp[hr]) hI'))
     | exact az (IP (IP (hy _ _ ⟨rfl,done++[x],hit,rfl,by simp[hr],hI'⟩)))
  ·rintro b s' ⟨rfl,done,hit,rfl,hr,hI⟩;rw[List.append_nil]at hr;subst hr;rcases hI with⟨rfl,hno⟩|⟨j,hj,rfl,hoj⟩
   ·have:o=ae:=by
     induction o using Option.casesOn with
     | none=>rfl
     | some m=>exact absurd rfl (hno m (hmem m rfl))
    clear hf hmem N K1 hno;subst this;exact IP hQ
   ·clear hf hmem N K1;subst hoj;exact IP hQ
end
end
section
open PySem PySem.Calls PyProof.Rows PySem.SeqAt PySem.MeetsSeq PySem.MeetsSeq2 PySem.MeetsSeq3 PySem.SeqRoads2
open AutoSeq1 (wpAny_loadPart')
noncomputable def nY(A:I0)(s:IY)(x:IZ):List IZ->Bool->Prop
 | y::ys,r=>(EqAt A s y x af/\r=af)\/(EqAt A s y x ag/\nY A s x ys r)
 | [],r=>r=ag
set_option tactic.hygienic true
theorem ph(l:I1)(items:List IZ)(n:Nat)(x:IZ)(r:Bool):
  Meets (Builtin.«tuple.__contains__» ⟨[.ref l,x],[]⟩)
   (λA R s=>s.heap.get? l=aa { cls:=.type "tuple",dict:=ae,data:=.seq items.toArray n,slots:=#[] }/\nY A.in1 s x items r/\R (.ok (.ret (.bool r))) s):=
 .of_wp λprog w A R s h=>by
  obtain⟨hp,g,d,tk,os⟩:=s;refine bM h λhl he h=>?_
  wp_walk using IT hl,wpAny_forIn_array _ (λrest b s'=>b.1=ae/\s'=⟨hp,g,d,tk,os⟩/\nY A.in1 ⟨hp,g,d,tk,os⟩ x rest r) _
  case turn=>
   rintro y rest b s' ⟨hb,rfl,hR⟩;rcases hR with⟨e,rfl⟩|⟨e,hR⟩
   ·refine az (e prog w _ _ ?_)
    wp_walk
    exact au _ rfl h
   ·refine az (e prog w _ _ ?_)
    wp_walk
    exact⟨rfl,rfl,hR⟩
  case fin=>
   rintro ⟨b1,b2⟩ s' ⟨hb,rfl,hR⟩;simp only at hb;subst hb;have hr:r=ag:=hR;subst hr
   wp_walk
   exact au _ rfl (by simpa using h)
  case h=>
   exact⟨rfl,rfl,by simpa using he⟩
set_option tactic.hygienic false
theorem mW(l:I1)(items:List IZ)(n:Nat)(x:IZ)(r:Bool)(k:Nat):
  ∀i:Nat,items.length-i=k->Meets (Builtin.«list.__contains__.loop» ⟨[.ref l,x,rawInt i],[]⟩)
   (λA R s=>s.heap.get? l=aa { cls:=.type "list",dict:=ae,data:=.seq items.toArray n,slots:=#[] }/\nY A.in1 s x (items.drop i) r/\R (.ok (.ret (.bool r))) s):=by
 induction k with
 | zero=>
  intro i hk prog w A R s h;obtain⟨hp,g,d,tk,os⟩:=s;refine bM h λhl he h=>?_
  wp_walk using IT hl
  have hi:items.toArray[((i:Nat):Int).toNat]?=ae:=by simp;exact Nat.le_of_sub_eq_zero hk
  have hd:items.drop i=[]:=by simp;exact Nat.le_of_sub_eq_zero hk
  replace he:=hd▸he;have hr:r=ag:=he;subst hr;refine rwl hi ?_
  wp_walk
  exact h
 | succ k ih=>
  intro i hk prog w A R s h;obtain⟨hp,g,d,tk,os⟩:=s;refine bM h λhl he h=>?_
  wp_walk using IT hl
  have hlt:i<items.length:=jQ hk;have hi:items.toArray[((i:Nat):Int).toNat]?=aa items[i]:=by rw[Int.toNat_natCast,List.getElem?_toArray,Jt hlt]
  have hd:items.drop i=items[i]::items.drop (i+1):=List.drop_eq_getElem_cons hlt;replace he:=hd▸he;refine rwl hi ?_;rcases he with⟨e,rfl⟩|⟨e,he⟩
  ·refine az (e prog w _ _ ?_)
   wp_walk
   exact h
  ·refine az (e prog w _ _ ?_);have hc:((i:Int)+1)=((i+1:Nat):Int):=by push_cast;rfl
   wp_walk
   refine rwl hc ?_;exact⟨plainId_quiet plain_contains_loop _,I9 entry_contains_loop (by
    refine rwl (Around.under_plainId plain_contains_loop _) ?_;exact ih (i+1) (by lia) prog w A R _ ⟨hl,he,h⟩)⟩
theorem qB(l:I1)(items:List IZ)(n:Nat)(x:IZ)(r:Bool):
  Meets (Builtin.«list.__contains__» ⟨[.ref l,x],[]⟩)
   (λA R s=>s.heap.get? l=aa { cls:=.type "list",dict:=ae,data:=.seq items.toArray n,slots:=#[] }/\nY A.in1 s x items r/\R (.ok (.ret (.bool r))) s):=by
 intro prog w A R s h;obtain⟨hp,g,d,tk,os⟩:=s;refine bM h λhl he h=>?_
 wp_walk using IT hl
 exact⟨plainId_quiet plain_contains_loop _,I9 entry_contains_loop (by
  refine rwl (Around.under_plainId plain_contains_loop _) ?_;exact mW l items n x r _ 0 rfl prog w A R _ ⟨hl,he,h⟩)⟩
section
variable{X Pn:AP}{s s':IY}{A:I0}{n:Nat}{p:List V}{Q E:IZ->IY->Prop}
theorem bp.units(P:bp C n X Pn p A s):A.units+500<cLine:=by have:=P.room.units;lia
theorem iA{o:Option Bool}{v:V}(h:nV o=aa v):∃b,o=aa b/\v=.bool b:=by
 induction o using Option.casesOn with
 | none=>exact nS h
 | some b=>obtain rfl:=Jd h;exact au b rfl rfl
theorem ri{o:Option Bool}{b:Bool}(h:yP o=aa b):o=aa (!b):=by
 induction o using Option.casesOn with
 | none=>exact nS h
 | some c=>
  have:aa (kK c)=aa b:=h;rw[kZ]at this;clear h;obtain rfl:=Jd this;simp
theorem Gs:cU C aS (compareOp .Eq):=by
 intro n X Pn p s A Q E a b v va vb P hf ha hb h;refine aj (iA hf) λr hr z0=>?_;clear hf;subst z0;have:=P.units;exact(jb _ _ _ _ _ _ A hr ha hb (by show A.units+60<cLine;exact JE (JG (by decide) _) this)).2 _ _ _ _ (eT rfl h)
set_option tactic.hygienic true
theorem HL:∀(n:Nat)(a b:V)(r:Bool)(x y:IZ)(A:I0),dw n a b=aa r->bC C X Pn s.heap a x->bC C X Pn s.heap b y->A.units+n<cLine->RcNeAt A s x y (!r)
 | 0,_,_,_,_,_,_,h,_,_,_=>by exact nS h
 | n+1,a,b,r,x,y,A,h,ha,hb,hu=>by
  have hL:∀(xs ys:List V)(vs ws:List IZ)(r:Bool),lu (dw n) xs ys=aa r->av C X s.heap xs vs->av C X s.heap ys ws->fb A.in1 s vs ws r:=by
   intro xs;induction xs with
   | nil=>
    intro ys vs ws r h hx hy;simp only[av]at hx;subst hx;induction ys using List.casesOn with
    | nil=>simp only[av]at hy;subst hy;obtain rfl:=Jd h;rfl
    | cons y ys=>simp only[av]at hy;refine xs22 ws hy λv rest zz=>?_;obtain rfl:=Jd h;rfl
   | cons u us ih=>
    intro ys vs ws r h hx hy;simp only[av]at hx;refine xs23 vs hx λv rest h1 h2=>?_;induction ys using List.casesOn with
    | nil=>simp only[av]at hy;subst hy;obtain rfl:=Jd h;rfl
    | cons y ys=>
     simp only[av]at hy;refine xs23 ws hy λv' rest' h1' h2'=>?_;simp only[l7]at h;refine oc (dw n u y) (λhf=>?_) λq hf=>?_
     ·simp only[hf]at h;exact nS h
     ·
      simp only[hf]at h;have e:=(jb (Pn:=Pn) n u y q v v' A.in1 hf (.inl h1) (.inl h1') (by show A.units+1+n<cLine;lia)).1;induction q using Bool.casesOn with
      | true=>exact .inl ⟨e,ih ys rest rest' r h h2 h2'⟩
      | false=>obtain rfl:=Jd h;exact .inr ⟨e,rfl⟩
  have hu':A.units<cLine:=JE (Nat.le_add_right _ _) hu;revert ha hb;refine eqV_inv a b r h ?_ (λl=>?_) (λu v=>?_) (λu v=>?_) (λu v=>?_) (λl=>?_) (λu v r h=>?_) (λu v r h=>?_)<;>intro ha hb
  ·simp only[ha.none,hb.none];exact RcNeAt.none_none
  ·
   refine xs23 y hb.tup λa vs h1 zz=>?_;simp only[ha.none];exact RcNeAt.none_tuple h1.fH hu'
  ·
   simp only[ha.bool,hb.bool];have e:(@Jp (λJ=>Bool) (kK v) v u)=(u==v):=by clear ha;induction u using Bool.casesOn<;>induction v using Bool.casesOn<;>rfl
   simp only[e];exact RcNeAt.bool_bool _ _
  ·
   refine xs11 x ha.int λt=>?_;refine xs11 y hb.int λt'=>?_;simp only[m7];exact RcNeAt.int_int _ _ _ _
  ·
   refine xs22 x ha.str λy t z1=>?_;clear ha;subst z1;refine bY hb.str λy' t' z0 z1=>?_;subst z0;clear hb;subst z1;simp only[uG];exact RcNeAt.str_str _ _ _ _
  ·
   refine xs23 x ha.tup λa vs h1 zz=>?_;simp only[hb.none];exact RcNeAt.tuple_none h1.fH hu'
  ·
   refine xs23 x ha.tup λy vs z1 h2=>?_;refine ao z1 λzz zq=>?_;refine aw zq λn1 ho=>?_;refine aW hb.tup λy' vs' z0 z1 h2'=>?_;clear hb;subst z0;refine ao z1 λzz zq=>?_;refine aw zq λn2 ho2=>?_;intro prog w E Q hQ;exact richCompare_meets_room (op:=.NotEq) (au _ ho rfl) (au _ ho2 rfl) F.slot_tuple_ne F.entry_tuple_ne (F.args_tuple_ne_2 _ _) (w0 y y' vs vs' n1 n2 r)
    ⟨ho,ho2,hL u v vs vs' r h h2 h2',show Value.bool (!r)≠Value.notImplemented/\Q (.bool (!r)) s from⟨(λx=>nomatch x),hQ⟩⟩ hu'
  ·
   refine xs23 x ha.lst λy vs h1 h2=>?_;refine aW hb.lst λy' vs' z0 h1' h2'=>?_;clear hb;subst z0;have hl:=h2.length;have hl':=h2'.length;rcases gi h with⟨hz,h⟩|⟨hz,h⟩
   ·have:=Nat.eq_of_beq_eq_true hz;simp only[cj,cj]at this;refine ao h1 λzz zq=>?_;refine aw zq λn1 ho=>?_;refine ao h1' λzz zq=>?_;refine aw zq λn2 ho2=>?_;intro prog w E Q hQ;exact richCompare_meets_room (op:=.NotEq) (au _ ho rfl) (au _ ho2 rfl) F.slot_list_ne F.entry_list_ne (F.args_list_ne_2 _ _) (yT y y' vs vs' n1 n2 r (by lia))
     ⟨ho,ho2,hL u v vs vs' r h h2 h2',show Value.bool (!r)≠Value.notImplemented/\Q (.bool (!r)) s from⟨(λx=>nomatch x),hQ⟩⟩ hu'
   ·have:=Nat.ne_of_beq_eq_false hz;simp only[cj,cj]at this;obtain rfl:=Jd h;exact RcNeAt.lists_lengths h1.isList h1'.isList (by simp;lia) hu'
set_option tactic.hygienic false
theorem Gk:cU C dF (compareOp .NotEq):=by
 intro n X Pn p s A Q E a b v va vb P hf ha hb h;refine aj (iA hf) λr hr z0=>?_;clear hf;subst z0;have hr':=ri hr;have:=P.units;exact HL _ _ _ _ _ _ A hr' ha hb (by show A.units+60<cLine;exact JE (JG (by decide) _) this) _ _ _ _ (eT (by simp) h)
theorem qD{A:I0}{x:V}{vx:IZ}(hx:bC C X Pn s.heap x vx)(hu:A.units+d7<cLine):∀{l:List V}{vs:List IZ}{r:Bool},xQ x l=aa r->av C X s.heap l vs->nY A s vx vs r
 | [],vs,r,h,hl=>by simp only[av]at hl;subst hl;obtain rfl:=Jd h;rfl
 | y::l,vs,r,h,hl=>by
  simp only[av]at hl;refine xs23 vs hl λv rest h1 h2=>?_;have e:xQ x (y::l)=@Option.rec Bool (λJ=>Option Bool) ae (λb=>@Jp (λJ=>Option Bool) (xQ x l) (aa af) b) (dw d7 y x):=rfl;rw[e]at h;refine oc (dw d7 y x) (λq=>?_) λb q=>?_
  ·rw[q]at h;exact nS h
  ·
   rw[q]at h;have E1:=(jb (Pn:=Pn) _ _ _ _ _ _ A q (.inl h1) hx hu).1;induction b using Bool.casesOn with
   | true=>obtain rfl:=Jd h;exact .inl ⟨E1,rfl⟩
   | false=>exact .inr ⟨E1,qD hx hu h h2⟩
end
end
set_option backward.eqns.nonrecursive false
section
open PySem PySem.Calls PyProof.Rows PySem.SeqAt PySem.SeqRoads2
section
variable{X Pn:AP}{s s':IY}{A:I0}{n:Nat}{p:List V}{Q E:IZ->IY->Prop}
theorem nf{d:I1}{es:List I2}{ks:List V}{x:V}{key:IZ}{o:Option Nat}{Q:Option IZ->IY->Prop}(hd:eO s.heap d es)(hks:av C X s.heap ks (es.map (·.key)))
  (hh:es.map (·.hash)=bq C.w ks) (hok:ji ks) (hx:keyOk 8 x=af) (hkey:aq C X s.heap x key) (hu:A.units+100<cLine) (hf:dD ks x 0=aa o)
  (hQ:∀tk,Q (o.bind λi=>es[i]?.map (·.val)) { s with toks:=tk }):wpAny (model C.prog C.w) A (dictGet d key) Q E s:=by
 refine ao hd λzz zq=>?_;refine aw zq λn hd=>?_;unfold dictGet
 try with_reducible refine IS ?_
 refine az (oN (X:=X) 8 x key _ _ _ _ hx hkey (JE (JG (by decide) _) hu) λtk=>az (ma (X:=X) (s:={ s with toks:=tk }) hd hks hh hok hx hkey hu hf ?_));induction o using Option.casesOn with
 | none=>exact IP (hQ tk)
 | some i=>
  refine az (wpAny_dictEntries (s:={ s with toks:=tk }) hd rfl ?_);exact IP (by simpa using hQ tk)
theorem bC.tl{x:V}{v:IZ}{h:Heap}(hx:keyOk 8 x=af)(r:bC C X Pn h x v):aq C X h x v:=by
 rcases r with r|⟨a,_,_,r⟩
 ·exact r
 ·rcases gO hx with⟨i,rfl⟩|⟨i,rfl⟩|⟨l,m,rfl,_⟩<;>simp[aP]at r
theorem tV{d:I1}{es:List I2}{ks:List V}{x:V}{key:IZ}{o:Option Nat}{Q:Bool->IY->Prop}(hd:eO s.heap d es)(hks:av C X s.heap ks (es.map (·.key)))
  (hh:es.map (·.hash)=bq C.w ks) (hok:ji ks) (hx:keyOk 8 x=af) (hkey:aq C X s.heap x key) (hu:A.units+200<cLine) (hf:dD ks x 0=aa o)
  (hQ:∀tk,Q o.isSome { s with toks:=tk }):wpAny (model C.prog C.w) A (contains (.ref d) key) Q E s:=by
 have hT:s.TypeIs (.ref d) "dict" := let ⟨_,n,hd⟩:=hd;(au _ hd rfl)
 have N:=ents hks hh hok hf;unfold contains
 try with_reducible refine IS ?_
 refine az (wpAny_specialOf hT slot_dict_contains.lookup ?_);show wpAny _ _ (if (aa (Value.builtin "dict.__contains__")==aa Value.none)=af then _ else _) _ E s
 refine eU (by rw[beq_builtin_none];exact Bool.false_ne_true) ?_;refine az (wpAny_callSpecialUnlessNone?_slot (name:=Jf "__contains__") hT slot_dict_contains
  (IU slot_dict_contains hT entry_dict_contains ?_ (args_dict_contains _ _)))
 show wpAny _ _ (dictGet d key >>= _) _ _ s;refine az (nf hd hks hh hok hx hkey (by show A.units+1+100<cLine;lia) hf λtk=>?_);induction o using Option.casesOn with
 | some m=>
  refine aj (N.hit m rfl) λe he zz=>?_;rw[show(aa m).bind (λi=>es[i]?.map (·.val))=aa e.val by simp[he]];skip;exact IP (au _ rfl (wpAny_truthy_bool (hQ tk)))
 | none=>
  skip;exact az (wpAny_pendingKey_other hd.1.1 (IP (au _ rfl (wpAny_truthy_bool (hQ tk)))))
set_option tactic.hygienic true
theorem u0{x c:V}{r:Bool}{vx vc:IZ}(P:bp C n X Pn p A s)(hf:Al x c=aa r)(hx:bC C X Pn s.heap x vx)(hc:bC C X Pn s.heap c vc){Q:Bool->IY->Prop}(hQ:∀tk,Q r { s with toks:=tk }):
  wpAny (model C.prog C.w) A (contains vc vx) Q E s:=by
 have hu:=P.units;induction c using V.casesOn<;>(first|exact nS hf|exact fT hf|(dsimp only[Al]at hf<;>(try cases hf)))
 case tup l=>
  refine aW hc.tup λa vs z0 z1 hl=>?_;clear hc;subst z0;refine ao z1 λzz zq=>?_;refine aw zq λk ht=>?_;have hR:=qD (A:=A.in1) hx (by show A.units+1+60<cLine;lia) hf hl;refine wpAny_contains_slot (au _ ht rfl) F.slot_tuple_contains (call_meets F.slot_tuple_contains (au _ ht rfl) F.entry_tuple_contains (F.args_tuple_contains_2 _ _) (ph a vs k vx r) ⟨ht,hR,wpAny_truthy_bool (hQ _)⟩)
 case lst l=>
  refine aW hc.lst λa vs z0 z1 hl=>?_;clear hc;subst z0;refine ao z1 λzz zq=>?_;refine aw zq λk ht=>?_;have hR:=qD (A:=A.in1) hx (by show A.units+1+60<cLine;lia) hf hl;refine wpAny_contains_slot (au _ ht rfl) F.slot_list_contains (call_meets F.slot_list_contains (au _ ht rfl) F.entry_list_contains (F.args_list_contains_2 _ _) (qB a vs k vx r) ⟨ht,hR,wpAny_truthy_bool (hQ _)⟩)
 case bh ks vs=>
  dsimp only[vT,vL,vD]at hf;refine jH hc.bh λd es z0 hd h1 h2 h3 h4=>?_;clear hc;subst z0;refine kY (keyOk 8 x) (λhk=>?_) λhk=>?_
  ·rw[hk]at hf;exact nS hf
  ·
   rw[hk]at hf;induction hq:dD ks x 0 using Option.casesOn with
   | none=>rw[hq]at hf;exact nS hf
   | some o=>
    rw[hq]at hf;have e:r=o.isSome:=by clear hq;induction o using Option.casesOn<;>cases hf<;>rfl
    clear hf;subst e;exact tV hd h1 h3 h4 hk (hx.tl hk) (JE (JG (by decide) _) hu) hq hQ
set_option tactic.hygienic false
theorem Gp:cU C m5 (compareOp .In):=by
 intro n X Pn p s A Q E a b v va vb P hf ha hb h;refine aj (iA hf) λr hr z0=>?_;clear hf;subst z0;skip;exact az (u0 P hr ha hb λtk=>IP (h _ _ (.toks _) (by simp[aq])))
theorem Dr:cU C yQ (compareOp .NotIn):=by
 intro n X Pn p s A Q E a b v va vb P hf ha hb h;refine aj (iA hf) λr hr z0=>?_;clear hf;subst z0;have hr:=ri hr;skip;exact az (u0 P hr ha hb λtk=>IP (h _ _ (.toks _) (by simp[aq])))
theorem pL{l:List V}{i:Int}{v:V}(h:pM l i=aa v):∃k,seqIndex? i l.length=aa k/\l[k]?=aa v/\k<l.length/\(-(l.length:Int)<=i/\i<l.length):=by
 induction i using Int.casesOn with
 | ofNat n=>
  have h:eY l n=aa v:=h;rw[hJ]at h;have hn:=(Jw.mp h).1;refine fm n ?_ h hn (by dsimp only[JH];omega);simp only[seqIndex?,JH,show ¬((n:Int)<0) by exact j9 _,if_false];rw[if_pos (by simp;exact hn)];simp
 | negSucc n=>
  have h:@Jp (λJ=>Option V) ae (eY l (Nat.pred (Nat.sub (dA l) n))) (Nat.blt n (dA l))=aa v:=h;refine ao (cL h) λh1 h2=>?_;rw[blt_dec,decide_eq_true_eq,cj]at h1;rw[hJ,cj]at h2;have hlt:Nat.pred (Nat.sub l.length n)<l.length:=(Jw.mp h2).1;have hp:Nat.pred (Nat.sub l.length n)=l.length-n-1:=rfl;rw[hp]at h2 hlt;refine fm _ ?_ h2 hlt (by rw[Int.negSucc_eq];omega);dsimp only[seqIndex?,Int.negSucc_lt_zero,if_true,Int.negSucc_eq];rw[if_pos (by simp;omega)]
  congr 1;omega
set_option tactic.hygienic true
theorem nH {value slice:Expr} {o i:IZ} {T id:String} (hT:s.TypeIs o T) (hl:typeLookup (.type T) "__getitem__" = pure (aa (.builtin id))) (h:wpAny (model C.prog C.w) A (getItem o i) Q E s):
  wpAny (model C.prog C.w) A (subscriptTail value slice o i) Q E s:=by
 have hs:∃ops,subscripted slice ag o i=operate ops (getItem o i):=by
  induction slice using Expr.casesOn
  case Slice lo hi st p=>induction st using Option.casesOn<;>exact⟨_,rfl⟩
  all_goals exact⟨_,rfl⟩
 refine aw hs λops hs=>?_;unfold subscriptTail;refine az ?_;rw[getitemInPython_of_ne hT.not_modules];refine az (wpAny_specialOf hT hl ?_);have fin:wpAny (model C.prog C.w) A (subscripted slice ag o i) (λr br=>wpAny (model C.prog C.w) A (letTemporaryGo value o r >>= λJ=>pure r) Q E br) E s:=by
  rw[hs];exact wpAny_operating (IX h (λr br kN=>az (wpAny_letTemporaryGo (IP kN))) λJ J x=>x)
 first
  | exact IP (az fin)
  | exact az (IP (az fin))
  | exact az fin
set_option tactic.hygienic false
theorem listItem{a:I1}{vs:List IZ}{i:Int}{t:Tok}{k:Nat}{y:IZ}(hl:LstAt s.heap a vs)(hi:-(vs.length:Int)<=i/\i<vs.length)(hk:seqIndex? i vs.length=aa k)(hy:vs[k]?=aa y)(h:Q y s):
  wpAny (model C.prog C.w) A (getItem (.ref a) (.int i t)) Q E s:=by
 have hz:=hl.1;have hm:most=8000:=rfl;by_cases h0:0<=i
 ·have e:k=i.toNat:=by
   simp only[seqIndex?,show ¬(i<0) by lia,if_false]at hk;rw[if_pos (by simp;lia)]at hk;clear hy;obtain rfl:=Jd hk;rfl
  clear hk;subst e;exact wpAny_getItem_list hl.isList h0 (by lia) (by simpa using hy) h
 ·have e:=seqIndex_neg (k:=i) (n:=vs.length) (by lia) (hi.1);rw[e]at hk;obtain rfl:=Jd hk;exact wpAny_getItem_list_neg hl.isList (by lia) (by simp;exact hi.1) (by lia) (by simpa using hy) h
theorem zp{d:I1}{es:List I2}{ks:List V}{x:V}{key:IZ}{m:Nat}{v:IZ}(hd:eO s.heap d es)(hks:av C X s.heap ks (es.map (·.key)))
  (hh:es.map (·.hash)=bq C.w ks) (hok:ji ks) (hx:keyOk 8 x=af) (hkey:aq C X s.heap x key) (hu:A.units+200<cLine) (hf:dD ks x 0=aa (aa m)) (hm:(es.map (·.val))[m]?=aa v)
  (hQ:∀tk,Q v { s with toks:=tk }):wpAny (model C.prog C.w) A (getItem (.ref d) key) Q E s:=by
 have hT:s.TypeIs (.ref d) "dict" := let ⟨_,n,hd⟩:=hd;(au _ hd rfl)
 unfold getItem
 try with_reducible refine IS ?_
 refine IQ (wpAny_sequenceKey hT (by decide) ?_);refine IQ (wpAny_callSpecial?_slot (name:=Jf "__getitem__") hT slot_dict_getitem
  (IU slot_dict_getitem hT entry_dict_getitem ?_ (args_dict_getitem _ _)))
 show wpAny _ _ (dictGet d key >>= _) _ _ s;refine IQ (nf hd hks hh hok hx hkey (by show A.units+1+100<cLine;lia) hf λtk=>?_);rw[List.getElem?_map]at hm;rw[show(aa m).bind (λi=>es[i]?.map (·.val))=aa v from hm];exact IP (au _ rfl (IP (hQ tk)))
set_option tactic.hygienic true
theorem xN{o i v:V}{vo vi:IZ}(P:bp C n X Pn p A s)(hf:aD o i=aa v)(ho:bC C X Pn s.heap o vo)(hi:bC C X Pn s.heap i vi)
  (h:∀val s',Kp s s'->aq C X s'.heap v val->Q val s'):
  ∃T id,s.TypeIs vo T/\typeLookup (.type T) "__getitem__" = pure (aa (.builtin id))/\wpAny (model C.prog C.w) A (getItem vo vi) Q E s:=by
 have hu:=P.units;have hm:most=8000:=rfl;induction o using V.casesOn<;>(first|exact nS hf|exact fT hf|(dsimp only[aD]at hf<;>(try cases hf)))
 case tup l=>
  revert hi;refine xs12 i (jv (f:=λi=>pM l i) hf) λi hf hi=>?_;refine aw hi.int λt z0=>?_;clear hi;subst z0;refine aW ho.tup λa vs z0 z1 hl=>?_;clear ho;subst z0;refine ao z1 λhz zq=>?_;refine aw zq λk ht=>?_;refine de (pL hf) λj hj hv hlt hb=>?_;refine aj (hl.get hv) λy hy hr=>?_;have hlen:=hl.length;exact bX ("tuple") _ (au _ ht rfl) slot_tuple_getitem.lookup (PySem.P.getItem_tuple ht (by lia) (by lia) (by simpa [hlen]using hj) (by simpa using hy) (h _ _ .refl hr))
 case lst l=>
  revert hi;refine xs12 i (jv (f:=λi=>pM l i) hf) λi hf hi=>?_;refine aw hi.int λt z0=>?_;clear hi;subst z0;refine aW ho.lst λa vs z0 ht hl=>?_;clear ho;subst z0;refine de (pL hf) λj hj hv hlt hb=>?_;refine aj (hl.get hv) λy hy hr=>?_;have hlen:=hl.length;exact bX ("list") _ (let ⟨_,k,e⟩:=ht;(au _ e rfl)) list_getitem_lookup (listItem ht (by rw[hlen];exact hb) (by rw[hlen];exact hj) hy (h _ _ .refl hr))
 case bh ks vs=>
  dsimp only[vT,vL,vD]at hf;refine jH ho.bh λd es z0 hd h1 h2 h3 h4=>?_;clear ho;subst z0;refine kY (keyOk 8 i) (λhk=>?_) λhk=>?_
  ·rw[hk]at hf;exact nS hf
  ·
   rw[hk]at hf;induction hq:dD ks i 0 using Option.casesOn with
   | none=>rw[hq]at hf;exact nS hf
   | some o=>
    rw[hq]at hf;induction o using Option.casesOn with
    | none=>exact nS hf
    | some m=>
     have hf:eY vs m=aa v:=hf;rw[hJ]at hf;refine aj (h2.get hf) λy hy hr=>?_;exact bX ("dict") _ (let ⟨_,k,e⟩:=hd;(au _ e rfl)) slot_dict_getitem.lookup (zp hd h1 h3 h4 hk (hi.tl hk) (JE (JG (by decide) _) hu) hq hy λtk=>h _ _ (.toks _) hr)
set_option tactic.hygienic false
theorem uU{value slice:Expr}:cU C aD (subscriptTail value slice):=by
 intro n X Pn p s A Q E a b v va vb P hf ha hb h;refine aW (xN (Q:=Q) (E:=E) P hf ha hb h) λT id h1 h2 h3=>?_;exact nH h1 h2 h3
end
end
section
open PySem PySem.Calls PyProof.Rows
section
variable{cx:Cx}{b:Bool}{X Pn:AP}{s s':IY}{A:I0}{n:Nat}{ρ:Fr}{p p':List V}{env:Env}{Q E:IZ->IY->Prop}
def bL(C:Cfg)(X Pn:AP)(r:Res)(K:V->IY->Prop)(E:IZ->IY->Prop)(s:IY):Prop:=
 r≠.stuck/\(∀v p,r=.ok v p->∀s',Nx C Pn s s'->bA C X Pn s'.heap p->K v s')/\
 (∀k p,r=.exc k p->∀e s',Nx C Pn s s'->bA C X Pn s'.heap p->iE C s.heap k s'.heap e->E e s')
def uV(C:Cfg)(b:Bool)(X Pn:AP)(Q:IZ->IY->Prop)(v:V)(s':IY):Prop:=∀val,jo b C X Pn s'.heap v val->Q val s'
def rg(Q:Bool->IY->Prop)(v:V)(s':IY):Prop:=∃b,v=.bool b/\Q b s'
theorem Ends.g{r:Res}(N:Ends C b X Pn r Q E s):bL C X Pn r (uV C b X Pn Q) E s:=
 ⟨N.1,λv p e s' hn hp val hv=>N.2.1 v p e val s' hn hp hv,N.2.2⟩
theorem bL.e{r:Res}(N:bL C X Pn r (uV C b X Pn Q) E s):Ends C b X Pn r Q E s:=
 ⟨N.1,λv p e val s' hn hp hv=>N.2.1 v p e s' hn hp val hv,N.2.2⟩
abbrev wW(C:Cfg)(X Pn:AP)(r:Res)(Q:Bool->IY->Prop)(E:IZ->IY->Prop)(s:IY):Prop:=bL C X Pn r (rg Q) E s
theorem bL.bind{r:Res}{K:V->List V->Res}{O O1:V->IY->Prop}(N:bL C X Pn (@Res.rec (λJ=>Res) Res.stuck K Res.exc r) O E s)
  (h:∀v p₁ s₁,r=.ok v p₁->Nx C Pn s s₁->bA C X Pn s₁.heap p₁->bL C X Pn (K v p₁) O E s₁->O1 v s₁):bL C X Pn r O1 E s:=by
 induction hr:r using Res.casesOn with
 | stuck=>replace N:=hr▸N;exact absurd rfl N.1
 | exc k q=>
  replace N:=hr▸N;exact⟨by simp,λJ J e=>(nomatch e),λk' p' e e' s' hn hp hx=>N.2.2 k' p' (by clear hp hx;injection e with zq1 zq2;(try subst zq1);(try subst zq2);rfl) e' s' hn hp hx⟩
 | ok v q=>
  replace N:=hr▸N;refine⟨by simp,λv' p₁ e s₁ hn hp=>?_,λJ J e=>(nomatch e)⟩;injection e with zq1 zq2;(try subst zq1);(try subst zq2)
  exact h v q s₁ hr hn hp ⟨N.1,λv' p' e s' hn'=>N.2.1 v' p' e s' (hn.trans hn'),λk p' e e' s' hn' hp' hx=>N.2.2 k p' e e' s' (hn.trans hn') hp' (hx.back λb o eb=>hn.ext.lt hp b ⟨o,eb⟩)⟩
theorem bL.d4{r:Res}{K:V->List V->Res}{O:V->IY->Prop}{Q₁:Bool->IY->Prop}(N:bL C X Pn (@Res.rec (λJ=>Res) Res.stuck K Res.exc r) O E s)
  (hK:∀v p,K v p≠.stuck->∃q,v=.bool q)
  (h:∀q p₁ s₁,r=.ok (.bool q) p₁->Nx C Pn s s₁->bA C X Pn s₁.heap p₁->bL C X Pn (K (.bool q) p₁) O E s₁->Q₁ q s₁):wW C X Pn r Q₁ E s:=
 N.bind λv p₁ s₁ hr hn hp N1=>by
  refine aw (hK v p₁ N1.1) λq z0=>?_;subst z0;exact au q rfl (h q p₁ s₁ hr hn hp N1)
theorem bL.mono{r:Res}{O O1:V->IY->Prop}(N:bL C X Pn r O E s)(h:∀v s',O v s'->O1 v s'):bL C X Pn r O1 E s:=
 ⟨N.1,λv p e s' hn hp=>h v s' (N.2.1 v p e s' hn hp),N.2.2⟩
theorem bL.jr{v:V}{O:V->IY->Prop}(N:bL C X Pn (.ok v p') O E s)(hb:Base C s.heap)(hp:bA C X Pn s.heap p'):O v s:=N.2.1 v p' rfl s (.refl hb) hp
def cO(C:Cfg)(cx:Cx)(e:Expr)(d:aA):Prop:=
 ∀(n:Nat)(call:Call),dJ C n call->∀(X Pn:AP)(env:Env)(ρ:Fr)(p:List V)(s:IY)(A:I0)(Q:Bool->IY->Prop)(E:IZ->IY->Prop),
  Vw C cx X Pn env ρ p s.heap->bf C A s.heap->dU A n->wW C X Pn (d call ρ p) Q E s->wpAny (model C.prog C.w) A (isTrue e env (eval e env)) Q E s
theorem aL.weak{e:Expr}{d:aA}(h:aL C cx ag e d):aL C cx b e d:=by
 intro n call hc X Pn env ρ p s A Q E hv hk hr N;exact h n call hc X Pn env ρ p s A Q E hv hk hr ⟨N.1,λv p e val s' hn hp hx=>N.2.1 v p e val s' hn hp (.of hx),N.2.2⟩
theorem aL.test{e:Expr}{d:aA}(h:aL C cx af e d)(he:∀env whole,isTrue e env whole=(do let v ← whole;standAt e.pos;holding [v] (truthy v))):cO C cx e d:=by
 intro n call hc X Pn env ρ p s A Q E hv hk hr N;refine wpAny_isTrue_value ?_ (he _ _);refine h n call hc X Pn env ρ p s A _ E hv hk hr (bL.e (N.mono λv s' ho val hval=>?_));refine aj ho λq z0 hq=>?_;clear ho;subst z0;have:=bC.bool hval;clear hval;subst this;exact wpAny_truthy_bool hq
theorem aL.Bn{l r:Expr}{op:CmpOp}{pos:Pos}{x y:aA}{f:V->V->Option V}(hx:aL C cx af l x)(hy:aL C cx af r y)(ho:cU C f (compareOp op))(hm:behindInMarks op r=ag):cO C cx (.Compare l [op] [r] pos) (Internal.c2 f x y):=by
 intro n call hc X Pn env ρ p s A Q E hv hk hr N;refine wpAny_isTrue_Compare1 ?_ hm;refine hx n call hc X Pn env ρ p s A _ E hv hk hr (bL.e (bL.bind N λv p₁ s₁ J hn hp N1 val hval=>?_));have v1:=hv.next hn.ext hp;have k₁:=hk.ext hn.ext hv.aE;refine hy n call hc X Pn env ρ p₁ s₁ A _ E v1 k₁ hr (bL.e (bL.bind N1 λv' bg s₂ J hn' hp' N2 val' hval'=>?_));have v2:=v1.next hn'.ext hp';refine oc (f v v') (λhf=>?_) λr hf=>?_
 ·rw[hf]at N2;exact absurd rfl N2.1
 ·
  rw[hf]at N2;refine ho n X Pn bg s₂ A _ E v v' r val val' (v2.pre (k₁.ext hn'.ext hp) hr) hf (hval.b.ext hn'.ext hv.pnX) hval'.b λval'' s' hkp hrep=>?_;refine aj (N2.2.1 r bg rfl s' (hkp.nx v2.base) (hkp.aE hp')) λq z0 hq=>?_;clear N2 hf;subst z0;simp only[aq]at hrep;subst hrep;exact wpAny_truthy_bool hq
theorem cO.not{x:Expr}{pos:Pos}{d:aA}(h:cO C cx x d):cO C cx (.UnaryOp .Not x pos) (c1 kJ d):=by
 intro n call hc X Pn env ρ p s A Q E hv hk hr N;refine wpAny_isTrue_Not (h n call hc X Pn env ρ p s A _ E hv hk hr (bL.d4 N (λv p hne=>?_) λq p₁ s₁ J hn hp N1=>?_))
 ·induction v using V.casesOn with
  | bool q=>exact⟨q,rfl⟩
  | _=>exact absurd rfl hne
 ·refine aj (N1.jr hn.ext.base hp) λq' e hq=>?_;(injection e with h9;subst h9);rw[kZ]at hq;exact hq
theorem ly{v:V}{p:List V}{x y:List V->Res}(h:(vB Res.stuck (λq=>@Jp (λJ=>Res) (y p) (x p) q) v)≠.stuck):∃q,v=.bool q:=by
 induction v using V.casesOn with
 | bool q=>exact⟨q,rfl⟩
 | _=>exact absurd rfl h
theorem aL.ite{t x y:Expr}{pos:Pos}{dt dx dy:aA}(ht:cO C cx t dt)(hx:aL C cx b x dx)(hy:aL C cx b y dy):aL C cx b (.IfExp t x y pos) (bo dt dx dy):=by
 intro n call hc X Pn env ρ p s A Q E hv hk hr N;refine wpAny_IfExp (ht n call hc X Pn env ρ p s A _ E hv hk hr (bL.d4 N.g (λv p hne=>ly (x:=dx call ρ) (y:=dy call ρ) hne) λq p₁ s₁ J hn hp N1=>?_));have v1:=hv.next hn.ext hp;have k₁:=hk.ext hn.ext hv.aE;induction q using Bool.casesOn with
 | true=>exact hx n call hc X Pn env ρ p₁ s₁ A Q E v1 k₁ hr N1.e
 | false=>exact hy n call hc X Pn env ρ p₁ s₁ A Q E v1 k₁ hr N1.e
theorem mx{M:Model}{t x y:Expr}{pos:Pos}{whole:Sem IZ}{Q:Bool->IY->Prop}
  (h:wpAny M A (isTrue t env (eval t env)) (λb s₁=>if b then wpAny M A (isTrue x env (eval x env)) Q E s₁ else wpAny M A (isTrue y env (eval y env)) Q E s₁) E s):
  wpAny M A (isTrue (.IfExp t x y pos) env whole) Q E s:=by
 have e:PySem.isTrue (.IfExp t x y pos) env whole=(do if ← PySem.isTrue t env (eval t env) then PySem.isTrue x env (eval x env) else PySem.isTrue y env (eval y env)):=rfl
 refine rwl e ?_;refine IQ (IX h (λb s₁ aT=>?_) λJ J x=>x);induction b using Bool.casesOn<;>exact aT
theorem cO.ite{t x y:Expr}{pos:Pos}{dt dx dy:aA}(ht:cO C cx t dt)(hx:cO C cx x dx)(hy:cO C cx y dy):cO C cx (.IfExp t x y pos) (bo dt dx dy):=by
 intro n call hc X Pn env ρ p s A Q E hv hk hr N;refine mx (ht n call hc X Pn env ρ p s A _ E hv hk hr (bL.d4 N (λv p hne=>ly (x:=dx call ρ) (y:=dy call ρ) hne) λq p₁ s₁ J hn hp N1=>?_));have v1:=hv.next hn.ext hp;have k₁:=hk.ext hn.ext hv.aE;induction q using Bool.casesOn with
 | true=>exact hx n call hc X Pn env ρ p₁ s₁ A Q E v1 k₁ hr N1
 | false=>exact hy n call hc X Pn env ρ p₁ s₁ A Q E v1 k₁ hr N1
def jn(C:Cfg)(cx:Cx)(b:Bool)(op:BoolOp)(xs:List Expr)(d:aA):Prop:=
 ∀(n:Nat)(call:Call),dJ C n call->∀(X Pn:AP)(env:Env)(ρ:Fr)(p:List V)(s:IY)(A:I0)(Q E:IZ->IY->Prop)(pos:Pos),
  Vw C cx X Pn env ρ p s.heap->bf C A s.heap->dU A n->Ends C b X Pn (d call ρ p) Q E s->wpAny (model C.prog C.w) A (boolOp pos op (evalEach xs env)) Q E s
def gY(C:Cfg)(cx:Cx)(op:BoolOp)(xs:List Expr)(d:aA):Prop:=
 ∀(n:Nat)(call:Call),dJ C n call->∀(X Pn:AP)(env:Env)(ρ:Fr)(p:List V)(s:IY)(A:I0)(Q:Bool->IY->Prop)(E:IZ->IY->Prop),
  Vw C cx X Pn env ρ p s.heap->bf C A s.heap->dU A n->wW C X Pn (d call ρ p) Q E s->wpAny (model C.prog C.w) A (allTrue op xs env) Q E s
theorem jn.one{op:BoolOp}{x:Expr}{d:aA}(h:aL C cx b x d):jn C cx b op [x] d:=by
 intro n call hc X Pn env ρ p s A Q E pos hv hk hr N;skip;exact h n call hc X Pn env ρ p s A Q E hv hk hr N
theorem gY.one{op:BoolOp}{x:Expr}{d:aA}(h:cO C cx x d):gY C cx op [x] d:=by
 intro n call hc X Pn env ρ p s A Q E hv hk hr N;induction op using BoolOp.casesOn with
 | And=>
  refine wpAny_allTrue_And_cons (h n call hc X Pn env ρ p s A _ E hv hk hr (N.mono λv s' z9=>aj z9 λq e hq=>au q e ?_));induction q using Bool.casesOn with
  | true=>exact wpAny_allTrue_And_nil hq
  | false=>exact hq
 | Or=>
  refine wpAny_allTrue_Or_cons (h n call hc X Pn env ρ p s A _ E hv hk hr (N.mono λv s' z9=>aj z9 λq e hq=>au q e ?_));induction q using Bool.casesOn with
  | true=>exact hq
  | false=>exact wpAny_allTrue_Or_nil hq
theorem jn.and{x y:Expr}{ys:List Expr}{d d':aA}(hx:aL C cx b x d)(hy:jn C cx b .And (y::ys) d'):jn C cx b .And (x::y::ys) (cC d d'):=by
 intro n call hc X Pn env ρ p s A Q E pos hv hk hr N;show wpAny _ _ (do
  let v ← eval x env
  standAt pos
  let t ← holding [v] (truthy v)
  match BoolOp.And,t with
  | .And,ag|.Or,af=>pure v
  | _,_=>boolOp pos .And (evalEach (y::ys) env)) Q E s
 refine az (hx n call hc X Pn env ρ p s A _ E hv hk hr (bL.e (bL.bind N.g λv p₁ s₁ J hn hp N1 val hval=>?_)));have v1:=hv.next hn.ext hp;have k₁:=hk.ext hn.ext hv.aE;refine aw (ly (p:=p₁) (x:=d' call ρ) (y:=λp=>Res.ok (V.bool ag) p) N1.1) λq z0=>?_;subst z0;have:=hval.b.bool;subst this;refine az (IV (az (IS (wpAny_truthy_bool ?_))));induction q using Bool.casesOn with
 | true=>exact hy n call hc X Pn env ρ p₁ s₁ A Q E pos v1 k₁ hr N1.e
 | false=>exact IP (N1.jr hn.ext.base hp _ hval)
theorem jn.or{x y:Expr}{ys:List Expr}{d d':aA}(hx:aL C cx b x d)(hy:jn C cx b .Or (y::ys) d'):jn C cx b .Or (x::y::ys) (je d d'):=by
 intro n call hc X Pn env ρ p s A Q E pos hv hk hr N;show wpAny _ _ (do
  let v ← eval x env
  standAt pos
  let t ← holding [v] (truthy v)
  match BoolOp.Or,t with
  | .And,ag|.Or,af=>pure v
  | _,_=>boolOp pos .Or (evalEach (y::ys) env)) Q E s
 refine az (hx n call hc X Pn env ρ p s A _ E hv hk hr (bL.e (bL.bind N.g λv p₁ s₁ J hn hp N1 val hval=>?_)));have v1:=hv.next hn.ext hp;have k₁:=hk.ext hn.ext hv.aE;refine aw (ly (p:=p₁) (x:=λp=>Res.ok (V.bool af) p) (y:=d' call ρ) N1.1) λq z0=>?_;subst z0;have:=hval.b.bool;subst this;refine az (IV (az (IS (wpAny_truthy_bool ?_))));induction q using Bool.casesOn with
 | true=>exact IP (N1.jr hn.ext.base hp _ hval)
 | false=>exact hy n call hc X Pn env ρ p₁ s₁ A Q E pos v1 k₁ hr N1.e
theorem gY.and{x y:Expr}{ys:List Expr}{d d':aA}(hx:cO C cx x d)(hy:gY C cx .And (y::ys) d'):gY C cx .And (x::y::ys) (cC d d'):=by
 intro n call hc X Pn env ρ p s A Q E hv hk hr N;refine wpAny_allTrue_And_cons (hx n call hc X Pn env ρ p s A _ E hv hk hr (bL.d4 N (λv p hne=>ly (x:=d' call ρ) (y:=λp=>Res.ok (V.bool ag) p) hne) λq p₁ s₁ J hn hp N1=>?_));have v1:=hv.next hn.ext hp;have k₁:=hk.ext hn.ext hv.aE;induction q using Bool.casesOn with
 | true=>exact hy n call hc X Pn env ρ p₁ s₁ A Q E v1 k₁ hr N1
 | false=>
  refine aj (N1.jr hn.ext.base hp) λq e hq=>?_;(injection e with h9;subst h9);exact hq
theorem gY.or{x y:Expr}{ys:List Expr}{d d':aA}(hx:cO C cx x d)(hy:gY C cx .Or (y::ys) d'):gY C cx .Or (x::y::ys) (je d d'):=by
 intro n call hc X Pn env ρ p s A Q E hv hk hr N;refine wpAny_allTrue_Or_cons (hx n call hc X Pn env ρ p s A _ E hv hk hr (bL.d4 N (λv p hne=>ly (x:=λp=>Res.ok (V.bool af) p) (y:=d' call ρ) hne) λq p₁ s₁ J hn hp N1=>?_));have v1:=hv.next hn.ext hp;have k₁:=hk.ext hn.ext hv.aE;induction q using Bool.casesOn with
 | true=>
  refine aj (N1.jr hn.ext.base hp) λq e hq=>?_;(injection e with h9;subst h9);exact hq
 | false=>exact hy n call hc X Pn env ρ p₁ s₁ A Q E v1 k₁ hr N1
theorem jn.e{op:BoolOp}{xs:List Expr}{pos:Pos}{d:aA}(h:jn C cx b op xs d):aL C cx b (.BoolOp op xs pos) d:=by
 intro n call hc X Pn env ρ p s A Q E hv hk hr N;have e:eval (.BoolOp op xs pos) env=boolOp pos op (evalEach xs env):=rfl;refine rwl e ?_;exact h n call hc X Pn env ρ p s A Q E pos hv hk hr N
theorem gY.t{op:BoolOp}{xs:List Expr}{pos:Pos}{d:aA}(h:gY C cx op xs d):cO C cx (.BoolOp op xs pos) d:=by
 intro n call hc X Pn env ρ p s A Q E hv hk hr N;exact wpAny_isTrue_BoolOp (h n call hc X Pn env ρ p s A Q E hv hk hr N)
end
set_option genInjectivity true in
inductive Out(α:Type) where
 | stuck
 | ok (v:α) (p:List V)
 | exc (k:List Nat) (p:List V)
noncomputable def Out.ctorIdx{α:Type}(x:Out α):Nat:=Out.casesOn x 0 (λJ J=>1) (λJ J=>2)
noncomputable def Out.bind{α β:Type}(o:Out α)(f:α->List V->Out β):Out β:=match o with
 | .stuck=>.stuck
 | .ok v p=>f v p
 | .exc k p=>.exc k p
set_option backward.eqns.nonrecursive false in
noncomputable def Res.out:Res->Out V
 | .stuck=>.stuck
 | .ok v p=>.ok v p
 | .exc k p=>.exc k p
set_option backward.eqns.nonrecursive false in
noncomputable def aI.out:aI->Out (List V)
 | .stuck=>.stuck
 | .ok v p=>.ok v p
 | .exc k p=>.exc k p
set_option backward.eqns.nonrecursive false in
noncomputable def aV.out:aV->Out (List Slot)
 | .stuck=>.stuck
 | .ok v p=>.ok v p
 | .exc k p=>.exc k p
theorem dj(r:Res)(K:V->List V->Res):(@Res.rec (λJ=>Res) Res.stuck K Res.exc r).out=r.out.bind λv p=>(K v p).out:=by induction r using Res.casesOn<;>rfl
theorem pD(r:Res)(K:V->List V->aI):(@Res.rec (λJ=>aI) aI.stuck K aI.exc r).out=r.out.bind λv p=>(K v p).out:=by induction r using Res.casesOn<;>rfl
theorem Dl(r:Res)(K:V->List V->aV):(@Res.rec (λJ=>aV) aV.stuck K aV.exc r).out=r.out.bind λv p=>(K v p).out:=by induction r using Res.casesOn<;>rfl
theorem pF(r:aI)(K:List V->List V->aI):(@aI.rec (λJ=>aI) aI.stuck K aI.exc r).out=r.out.bind λv p=>(K v p).out:=by induction r using aI.casesOn<;>rfl
theorem pE(r:aI)(K:List V->List V->Res):(@aI.rec (λJ=>Res) Res.stuck K Res.exc r).out=r.out.bind λv p=>(K v p).out:=by induction r using aI.casesOn<;>rfl
theorem sO(r:aV)(K:List Slot->List V->aV):(@aV.rec (λJ=>aV) aV.stuck K aV.exc r).out=r.out.bind λv p=>(K v p).out:=by induction r using aV.casesOn<;>rfl
theorem Dm(r:aV)(K:List Slot->List V->Res):(@aV.rec (λJ=>Res) Res.stuck K Res.exc r).out=r.out.bind λv p=>(K v p).out:=by induction r using aV.casesOn<;>rfl
def bH{α:Type}(C:Cfg)(X Pn:AP)(o:Out α)(K:α->IY->Prop)(E:IZ->IY->Prop)(s:IY):Prop:=
 o≠.stuck/\(∀v p,o=.ok v p->∀s',Nx C Pn s s'->bA C X Pn s'.heap p->K v s')/\
 (∀k p,o=.exc k p->∀e s',Nx C Pn s s'->bA C X Pn s'.heap p->iE C s.heap k s'.heap e->E e s')
section
variable{cx:Cx}{b:Bool}{X Pn:AP}{s s':IY}{A:I0}{n:Nat}{ρ:Fr}{p p':List V}{env:Env}{Q E:IZ->IY->Prop}
theorem bL.o{r:Res}{K:V->IY->Prop}:bL C X Pn r K E s↔bH C X Pn r.out K E s:=by
 constructor
 ·intro N;refine⟨λe=>N.1 ?_,λv p e=>N.2.1 v p ?_,λk p e=>N.2.2 k p ?_⟩<;>induction r using Res.casesOn<;>simp_all [Res.out]
 ·intro N;refine⟨λe=>N.1 ?_,λv p e=>N.2.1 v p ?_,λk p e=>N.2.2 k p ?_⟩<;>subst e<;>rfl
theorem bH.bind{α β:Type}{o:Out α}{f:α->List V->Out β}{O:β->IY->Prop}{O1:α->IY->Prop}(N:bH C X Pn (o.bind f) O E s)
  (h:∀v p₁ s₁,o=.ok v p₁->Nx C Pn s s₁->bA C X Pn s₁.heap p₁->bH C X Pn (f v p₁) O E s₁->O1 v s₁):bH C X Pn o O1 E s:=by
 induction o using Out.casesOn with
 | stuck=>exact absurd rfl N.1
 | exc k q=>
  exact⟨by simp,λJ J e=>(nomatch e),λk' p' e e' s' hn hp hx=>N.2.2 k' p' (by clear hp hx;injection e with zq1 zq2;(try subst zq1);(try subst zq2);rfl) e' s' hn hp hx⟩
 | ok v q=>
  refine⟨by simp,λv' p₁ e s₁ hn hp=>?_,λJ J e=>(nomatch e)⟩;injection e with zq1 zq2;(try subst zq1);(try subst zq2)
  exact h v q s₁ rfl hn hp ⟨N.1,λv' p' e s' hn'=>N.2.1 v' p' e s' (hn.trans hn'),λk p' e e' s' hn' hp' hx=>N.2.2 k p' e e' s' (hn.trans hn') hp' (hx.back λb o eb=>hn.ext.lt hp b ⟨o,eb⟩)⟩
theorem bH.jr{α:Type}{v:α}{O:α->IY->Prop}(N:bH C X Pn (.ok v p') O E s)(hb:Base C s.heap)(hp:bA C X Pn s.heap p'):O v s:=N.2.1 v p' rfl s (.refl hb) hp
theorem bH.kp{α:Type}{v:α}{O:α->IY->Prop}(N:bH C X Pn (.ok v p') O E s)(hb:Base C s.heap)(hp:bA C X Pn s.heap p')(k:Kp s s'):O v s':=N.2.1 v p' rfl s' (k.nx hb) (k.aE hp)
def ID(C:Cfg)(X:AP)(Q:List IZ->IY->Prop)(l:List V)(s':IY):Prop:=∀vals,av C X s'.heap l vals->Q vals s'
theorem bH.e{r:Res}(N:bH C X Pn r.out (uV C b X Pn Q) E s):Ends C b X Pn r Q E s:=(bL.o.mpr N).e
theorem Ends.o{r:Res}(N:Ends C b X Pn r Q E s):bH C X Pn r.out (uV C b X Pn Q) E s:=bL.o.mp N.g
theorem aL.run{β:Type}{f:V->List V->Out β}{O:β->IY->Prop}{call:Call}{x:Expr}{d:aA}{Q₁:IZ->IY->Prop}(h:aL C cx b x d)(hc:dJ C n call)(hv:Vw C cx X Pn env ρ p s.heap)(hk:bf C A s.heap)(hr:dU A n)
  (N:bH C X Pn ((d call ρ p).out.bind f) O E s)
  (go:∀v p₁ val s₁,Nx C Pn s s₁->Vw C cx X Pn env ρ p₁ s₁.heap->bf C A s₁.heap->jo b C X Pn s₁.heap v val->bH C X Pn (f v p₁) O E s₁->Q₁ val s₁):wpAny (model C.prog C.w) A (eval x env) Q₁ E s:=
 h n call hc X Pn env ρ p s A Q₁ E hv hk hr (bH.e (N.bind λv p₁ s₁ J hn hp N1 val hval=>go v p₁ val s₁ hn (hv.next hn.ext hp) (hk.ext hn.ext hv.aE) hval N1))
def iB(C:Cfg)(cx:Cx)(xs:List Expr)(ds:List aA):Prop:=
 ∀(n:Nat)(call:Call),dJ C n call->∀(X Pn:AP)(env:Env)(ρ:Fr)(p:List V)(s:IY)(A:I0)(Q:List IZ->IY->Prop)(E:IZ->IY->Prop)(pos:Pos),
  Vw C cx X Pn env ρ p s.heap->bf C A s.heap->dU A n->bH C X Pn (bB ds call ρ p).out (ID C X Q) E s->wpAny (model C.prog C.w) A (spliced (backTo pos (starEach xs env))) Q E s
theorem iB.nil:iB C cx [] []:=by
 intro n call hc X Pn env ρ p s A Q E pos hv hk hr N;exact wpAny_items_nil (N.jr (v:=[]) hv.base hv.aE _ .nil)
theorem aZ{x:Expr}{xs:List Expr}(hx:∀e p,x≠.Starred e p)(env:Env):starEach (x::xs) env=(ag,eval x env)::starEach xs env:=by
 induction x using Expr.casesOn<;>first|exact absurd rfl (hx _ _)|rfl
theorem iB.cons{x:Expr}{xs:List Expr}{d:aA}{ds:List aA}(hx:aL C cx ag x d)(hs:∀e p,x≠.Starred e p)(hxs:iB C cx xs ds):iB C cx (x::xs) (d::ds):=by
 intro n call hc X Pn env ρ p s A Q E pos hv hk hr N;refine wpAny_items_cons ?_ (aZ hs env);have e:(bB (d::ds) call ρ p).out=(d call ρ p).out.bind λv p=>(bB ds call ρ p).out.bind λl p=>.ok (v::l) p:=by
  show(@Res.rec (λJ=>aI) aI.stuck (λv p=>(@aI.rec (λJ=>aI) aI.stuck (λl p=>aI.ok (v::l) p) aI.exc (bB ds call ρ p))) aI.exc (d call ρ p)).out=_;rw[pD]
  congr 1;funext v p
  rw[pF];rfl
 rw[e]at N;refine hx.run hc hv hk hr N λv p₁ val s₁ hn v1 k₁ hval N1=>hxs n call hc X Pn env ρ p₁ s₁ A _ E pos v1 k₁ hr (N1.bind λl bg s₂ J cJ hp2 N2 vals hvals=>?_);exact N2.jr cJ.ext.base hp2 _ (.cons (aq.ext cJ.ext hv.pnX hval) hvals)
theorem ku{call:Call}:∀{ds:List aA}{p p':List V}{l:List V},(bB ds call ρ p).out=.ok l p'->l.length=ds.length
 | [],_,_,_,e=>by(injection e with h9;subst h9);rfl
 | d::ds,p,p',l,e=>by
  have e':(bB (d::ds) call ρ p).out=(d call ρ p).out.bind λv p=>(bB ds call ρ p).out.bind λl p=>.ok (v::l) p:=by
   show(@Res.rec (λJ=>aI) aI.stuck (λv p=>(@aI.rec (λJ=>aI) aI.stuck (λl p=>aI.ok (v::l) p) aI.exc (bB ds call ρ p))) aI.exc (d call ρ p)).out=_;simp only[pD]
   congr 1;funext v p
   simp only[pF];rfl
  simp only[e']at e;induction hd:(d call ρ p).out using Out.casesOn with
  | stuck=>simp only[hd]at e;exact(nomatch e)
  | exc k q=>simp only[hd]at e;exact(nomatch e)
  | ok v q=>
   simp only[hd]at e;have e:(bB ds call ρ q).out.bind (λl p=>Out.ok (v::l) p)=.ok l p':=e;induction hs:(bB ds call ρ q).out using Out.casesOn with
   | stuck=>simp only[hs]at e;exact(nomatch e)
   | exc k q'=>simp only[hs]at e;exact(nomatch e)
   | ok m q'=>
    simp only[hs]at e;(injection e with h9;clear e;subst h9);simp only[List.length_cons,List.length_cons,ku hs]
theorem aL.tup{xs:List Expr}{ds:List aA}{k:Nat}{pos:Pos}(h:iB C cx xs ds)(hz:ds.length<=100):aL C cx b (.Tuple xs k pos) (aF ds):=by
 intro n call hc X Pn env ρ p s A Q E hv hk hr N;have e:(aF ds call ρ p).out=(bB ds call ρ p).out.bind λl p=>.ok (V.tup l) p:=pE _ _;have N:=N.o;rw[e]at N;refine wpAny_Tuple (h n call hc X Pn env ρ p s A _ E pos hv hk hr (N.bind λl p₁ s₁ hl hn hp N1 vals hvals=>?_));have hz':=ku hl;have hlen:=hvals.length;have v1:=hv.next hn.ext hp;refine⟨by rw[bt];omega,N1.kp v1.base hp (.push _) _ (.of (aq.pH (v1.pre (hk.ext hn.ext hv.aE) hr) hvals (by show _<=8000;omega)))⟩
theorem aL.lst{xs:List Expr}{ds:List aA}{pos:Pos}(h:iB C cx xs ds)(hz:ds.length<=100):aL C cx b (.List xs pos) (aH ds):=by
 intro n call hc X Pn env ρ p s A Q E hv hk hr N;have e:(aH ds call ρ p).out=(bB ds call ρ p).out.bind λl p=>.ok (V.lst l) p:=pE _ _;have N:=N.o;rw[e]at N;refine wpAny_List (h n call hc X Pn env ρ p s A _ E pos hv hk hr (N.bind λl p₁ s₁ hl hn hp N1 vals hvals=>?_));have hz':=ku hl;have hlen:=hvals.length;have v1:=hv.next hn.ext hp;refine⟨by rw[bt];omega,N1.kp v1.base hp (.push _) _ (.of (aq.newList (v1.pre (hk.ext hn.ext hv.aE) hr) hvals (by show _<=8000;omega)))⟩
set_option tactic.hygienic true
theorem ia{o:Expr}{name:Str}(ho:sR o=af)(env:Env)(m:Sem IZ):attributeBase o name env m=m:=by
 unfold attributeBase;induction o using Expr.casesOn<;>try rfl
 case Call f args kw pos=>
  induction f using Expr.casesOn<;>try rfl
  case Name x q=>
   induction args using List.casesOn with
   | nil=>simp[sR]at ho
   | cons a r=>rfl
set_option tactic.hygienic false
theorem aL.get{o k d:Expr}{dx dk dd:aA}{ap cp:Pos}(hx:aL C cx af o dx)(hk':aL C cx ag k dk)(hd:aL C cx ag d dd)(h1:∀e p,k≠.Starred e p)(h2:∀e p,d≠.Starred e p)(ho:jS o ap cp=af):
  aL C cx b (.Call (.Attribute o "get" ap) [k,d] [] cp) (kO dx dk dd):=by
 intro n call hc X Pn env ρ p s A Q E hv hk hr N;simp only[jS,Jn]at ho;have N:=N.o;have e:(kO dx dk dd call ρ p).out=(dx call ρ p).out.bind λo p=>
   (@V.rec (λJ=>Res) (λJ=>Unit) Res.stuck (λJ=>Res.stuck) (λJ=>Res.stuck) (λJ=>Res.stuck) (λJ J=>Res.stuck) (λJ J=>Res.stuck) (λks vs J J=>
    (@Res.rec (λJ=>Res) Res.stuck (λa p=>(@Res.rec (λJ=>Res) Res.stuck (λb p=>(@Option.rec V (λJ=>Res) Res.stuck (λv=>Res.ok v p) (m9 (V.bh ks vs) a b))) Res.exc (dd call ρ p))) Res.exc (dk call ρ p))) (λJ J J=>Res.stuck) () (λJ J J J=>()) o).out:=by
  unfold kO;rw[dj]
 rw[e]at N;refine wpAny_Call_method (T := "dict") (id := "dict.get") (ia ho.1 _ _) ?_ ho.2 F.plainAttrs_dict F.slot_dict_get F.type_dict_get ?_
 ·rw[aZ h1,aZ h2];rfl
 refine hx.run hc hv hk hr N λvo p₁ val s₁ hn v1 k₁ hval N1=>?_
 -- the base must be a dict
 have hdct:∃ks vs,vo=.bh ks vs:=by
  induction vo using V.casesOn with
  | bh ks vs=>exact fU ks vs rfl
  | _=>exact absurd rfl N1.1
 refine dX hdct λks vs z0=>?_;clear hdct;subst z0;have e:∀p,(@Res.rec (λJ=>Res) Res.stuck (λa p=>(@Res.rec (λJ=>Res) Res.stuck (λb p=>(@Option.rec V (λJ=>Res) Res.stuck (λv=>Res.ok v p) (m9 (V.bh ks vs) a b))) Res.exc (dd call ρ p))) Res.exc (dk call ρ p)).out=
   (dk call ρ p).out.bind λa p=>(dd call ρ p).out.bind λb p=>(@Option.rec V (λJ=>Res) Res.stuck (λv=>Res.ok v p) (m9 (V.bh ks vs) a b)).out:=by
  intro p;rw[dj];congr 1;funext a p;rw[dj]
 have N1:bH C X Pn ((dk call ρ p₁).out.bind λa p=>(dd call ρ p).out.bind λb p=>(@Option.rec V (λJ=>Res) Res.stuck (λv=>Res.ok v p) (m9 (V.bh ks vs) a b)).out) (uV C b X Pn Q) E s₁:=by
  rw[← e];exact N1
 refine aW hval.b.bh λa es z0 hdc zz=>?_;subst z0;refine ao hdc λzz zq=>?_;refine aw zq λm ho'=>?_;refine⟨(au _ ho' rfl),λa' ea=>by(injection ea with h9;subst h9);exact au _ ho' rfl,?_⟩;rw[aZ h1,aZ h2];refine method2_meetsIn F.slot_dict_get F.entry_dict_get ?_;refine hk'.run hc v1 k₁ hr N1 λva bg vala s₂ cJ v2 k₂ hvala N2=>?_;refine hd.run hc v2 k₂ hr N2 λvb iL valb br rU v3 bJ hvalb N3=>?_;have hval3:=(hval.b.ext cJ.ext v1.pnX).ext rU.ext v2.pnX;have hvala3:=aq.ext rU.ext v2.pnX hvala;refine jH hval3.bh λa' es ea hdc r1 r2 r3 r4=>?_;(injection ea with h9;subst h9);have hdc':=hdc;refine ao hdc' λz0 zq=>?_;obtain⟨hsys,_⟩:=z0;refine aw zq λm ho'=>?_;refine⟨⟨_,ho',rfl⟩,F.args_dict_get_3 _ _ _,λA' R' s'=>A=A'/\br=s'/\wants Q E=R',?_,rfl,rfl,rfl⟩;refine .of_wp λA' R' s' z9=>bM z9 λh1 h2 h3=>?_;subst h1 h2 h3;show wpAny _ _ (dictGet a vala >>= _) _ _ _;have hu:=(v3.pre bJ hr).units;refine kY (keyOk 8 va) (λhkey=>?_) λhkey=>?_
 ·simp only[m9,vD,hkey]at N3;exact absurd rfl N3.1
 ·
  induction hf:dD ks va 0 using Option.casesOn with
  | none=>simp only[m9,vD,hkey,hf]at N3;exact absurd rfl N3.1
  | some o=>
   simp only[m9,vD,hkey,hf]at N3;refine az (nf hdc r1 r3 r4 hkey hvala3 (by show A.units+1+100<cLine;omega) hf λtk=>?_);induction o using Option.casesOn with
   | some i=>
    simp only at N3;rw[hJ]at N3;cases hv':vs[i]? with
    | none=>rw[hv']at N3;exact absurd rfl N3.1
    | some v=>
     rw[hv']at N3;refine aj (r2.get hv') λy hy hry=>?_;rw[List.getElem?_map]at hy;rw[show(aa i).bind (λi=>es[i]?.map (·.val))=aa y from hy];exact IP (au y rfl (N3.kp v3.base v3.aE (.toks _) _ (.of hry)))
   | none=>
    skip;exact az (wpAny_missed_other hsys (IP (au valb rfl (N3.kp v3.base v3.aE (.toks _) _ (.of hvalb)))))
end
theorem Cm(n:Nat)(i:Int):jZ n i=clipAt n i:=by
 induction i using Int.casesOn with
 | ofNat k=>
  show@Jp (λJ=>Nat) n k (Nat.ble k n)=_;have:=clipAt_nat n k;dsimp only[JH];refine rwl this ?_;induction h:Nat.ble k n using Bool.casesOn with
  | true=>exact(Nat.min_eq_left (Nat.le_of_ble_eq_true h)).symm
  | false=>
   have:¬k<=n:=λq=>by replace h:=(Nat.ble_eq_true_of_le q)▸h;exact tF h
   exact(Nat.min_eq_right (Nat.le_of_not_le this)).symm
 | negSucc k=>
  show n-(k+1)=_;have:=clipAt_neg n (k+1) (Nat.succ_pos _);refine rwl this.symm ?_;rfl
section
variable{cx:Cx}{b:Bool}{X Pn:AP}{s s':IY}{A:I0}{n:Nat}{ρ:Fr}{p p':List V}{env:Env}{Q E:IZ->IY->Prop}
theorem av.drop{h:Heap}:∀{l:List V}{vs:List IZ}(k:Nat),av C X h l vs->av C X h (l.drop k) (vs.drop k)
 | _,_,0,r=>by simpa using r
 | [],_,k+1,r=>by dsimp only[av]at r;subst r;simpa using av.nil
 | x::l,_,k+1,r=>by
  dsimp only[av]at r;obtain⟨v,rest,rfl,_,r⟩:=r;simpa using r.drop k
theorem av.take{h:Heap}:∀{l:List V}{vs:List IZ}(k:Nat),av C X h l vs->av C X h (l.take k) (vs.take k)
 | _,_,0,r=>by simpa using av.nil
 | [],_,k+1,r=>by dsimp only[av]at r;subst r;simpa using av.nil
 | x::l,_,k+1,r=>by
  dsimp only[av]at r;obtain⟨v,rest,rfl,r1,r⟩:=r;simpa using av.cons r1 (r.take k)
theorem av.reverse{h:Heap}:∀{l:List V}{vs:List IZ},av C X h l vs->av C X h l.reverse vs.reverse
 | [],_,r=>by dsimp only[av]at r;subst r;simpa using av.nil
 | x::l,_,r=>by
  dsimp only[av]at r;obtain⟨v,rest,rfl,r1,r⟩:=r;simpa using r.reverse.append (.cons r1 .nil)
theorem xf(l:List V)(lo hi:Option Int):mH l lo hi=(l.take (hi.elim l.length (clipAt l.length))).drop (lo.elim 0 (clipAt l.length)):=by
 delta mH;rw[l9,oH,cj];induction lo using Option.casesOn<;>induction hi using Option.casesOn<;>simp[Cm]
theorem qm(vs:List IZ)(lo hi:Option Int):slicePick vs.toArray lo hi ae=((vs.take (hi.elim vs.length (clipAt vs.length))).drop (lo.elim 0 (clipAt vs.length))).toArray:=by
 simp only[slicePick_plain];simp only[Ju];simp only[List.drop_take]
theorem filterMap_some{α β:Type}{f:α->Option β}{g:α->β}:∀{l:List α},(∀x∈l,f x=aa (g x))->l.filterMap f=l.map g
 | [],_=>rfl
 | a::l,h=>by rw[List.filterMap_cons,h a (by simp),List.map_cons,filterMap_some λx hx=>h x (by simp[hx])]
theorem rE(vs:List IZ):slicePick vs.toArray ae ae (aa (-1))=vs.reverse.toArray:=by
 delta slicePick
 congr 1
 have e:sliceBounds ae ae (aa (-1)) vs.toArray.size=((vs.length:Int)-1,-1,-1):=by simp[sliceBounds]
 refine rwl e ?_;delta sliceRange;have e1:((if (-1:Int)>0 then(if (vs.length:Int)-1 < -1 then(-1-((vs.length:Int)-1) + -1-1) / -1 else 0) else(if (vs.length:Int)-1 > -1 then((vs.length:Int)-1 - -1 - -1-1) / (- -1) else 0)):Int).toNat=vs.length:=by
  refine rwl (if_neg (by decide)) ?_
  split
  ·simp
  ·omega
 dsimp only;refine rwl e1 ?_;apply List.ext_getElem?;intro i;refine rwl List.filterMap_map ?_;have hf:∀k∈List.range vs.length,((λx:Nat=>vs.toArray[x]?)∘λ(k:Nat)=>((vs.length:Int)-1 + -1*(k:Int)).toNat) k=aa (vs[vs.length-1-k]?.getD .none):=by
  intro k hk;have hk:=List.mem_range.mp hk;have e:((vs.length:Int)-1 + -1*(k:Int)).toNat=vs.length-1-k:=by omega
  simp only[Function.comp,e,List.getElem?_toArray];refine rwl (Jt (show vs.length-1-k<vs.length by omega)) ?_;rfl
 refine rwl (filterMap_some (g:=λk=>vs[vs.length-1-k]?.getD .none) hf) ?_;by_cases hi:i<vs.length
 ·refine rwl (List.getElem?_reverse hi) ?_;simp[hi,Jt (show vs.length-1-i<vs.length by omega)]
 ·rw[List.getElem?_eq_none (by simp;exact Nat.not_lt.mp hi),List.getElem?_eq_none (by simp;exact Nat.not_lt.mp hi)]
theorem IsPart.of{i:Int}{x:IZ}{h:Heap}(r:bC C X Pn h (.int i) x):IsPart x (aa i):=by
 refine xs11 x r.int λt=>?_;exact .int i t
set_option tactic.hygienic true
theorem xe{value slice:Expr}{o v:V}{lo hi:Option Int}{vo vl vu:IZ}(P:bp C n X Pn p A s)(hf:mG o lo hi=aa v)(ho:bC C X Pn s.heap o vo)(pl:IsPart vl lo)(pu:IsPart vu hi)
  (h:∀val s',Kp s s'->aq C X s'.heap v val->Q val s'):
  wpAny (model C.prog C.w) A (subscriptTail value slice vo (.ref s.heap.objs.size)) Q E { s with heap:=s.heap.push { cls:=.type "slice",data:=.fields #[vl,vu,.none] } }:=by
 have hm:most=8000:=rfl;have K:=Kp.push (s:=s) { cls:=.type "slice",data:=.fields #[vl,vu,.none] };have hP:bp C n X Pn p A { s with heap:=s.heap.push { cls:=.type "slice",data:=.fields #[vl,vu,.none] } }:=
  ⟨P.room,P.stk.ext (K.nx (Pn:=Pn) P.base).ext P.aE,K.aE P.aE,P.pnX,(K.nx (Pn:=Pn) P.base).ext.base,λb hb=>let ⟨o,ho⟩:=P.lt b hb;⟨o,K.keep _ _ ho⟩,P.fresh,P.tab.wm K.keep⟩
 have ho':=ho.ext (K.nx (Pn:=Pn) P.base).ext P.pnX;induction o using V.casesOn<;>(first|exact nS hf|exact fT hf|(dsimp only[mG]at hf<;>(try cases hf)))
 case tup l=>
  induction hi using Option.casesOn with
  | some i=>exact nS hf
  | none=>induction lo using Option.casesOn with
   | none=>exact nS hf
   | some i=>induction i using Int.casesOn with
    | negSucc k=>exact nS hf
    | ofNat k=>
     refine ao (cL hf) λh1 hf=>?_;refine ao (cL hf) λh2 hf=>?_;obtain rfl:=Jd hf;have h1:=Nat.le_of_ble_eq_true h1;have h2:=Nat.le_of_ble_eq_true h2;rw[cj]at h2;refine xs23 vo ho'.tup λa vs z1 hl=>?_;obtain⟨hz,m,ht⟩:=z1;have hlen:=hl.length;cases pl with
     | int _ t=>
      clear ho';cases pu;refine nH (au _ ht rfl) slot_tuple_getitem.lookup (getItem_tuple_from (items:=vs.toArray) (a:=k) (u:=t) (aU _ ht rfl ⟨m,rfl⟩) (Heap.IsSliceOf.new ..) h1 (by simp;exact hlen▸h2) ?_ (by simp[sizeLine];lia));rw[l9]at h;exact h _ _ (K.trans (.push _)) (aq.pH hP (hl.drop k) (by simp;lia))
 case lst l=>
  refine xs23 vo ho'.lst λa vs z1 hl=>?_;obtain⟨hz,m,ht⟩:=z1;have hlen:=hl.length;refine nH (au _ ht rfl) list_getitem_lookup (wpAny_getItem_list_slice (items:=vs.toArray) (aU _ ht rfl ⟨m,rfl⟩) (Heap.IsSliceOf.new ..) pl pu .none (by simp) ?_ (by simp[sizeLine];lia));rw[qm];rw[xf]at h;refine h _ _ (K.trans (.push _)) (aq.newList hP ?_ (by simp;lia));refine rwl hlen ?_;exact(hl.take _).drop _
noncomputable def qT(C:Cfg)(cx:Cx):Option Expr->Option aA->Prop
 | none,ae=>True
 | some e,aa d=>aL C cx af e d
 | _,_=>False
set_option tactic.hygienic false
theorem qT.run{O:V->IY->Prop}{call:Call}{x:Option Expr}{d:Option aA}{k:Option Int->List V->Res}{Q₁:IZ->IY->Prop}(h:qT C cx x d)(hc:dJ C n call)(hv:Vw C cx X Pn env ρ p s.heap)(hk:bf C A s.heap)(hr:dU A n)
  (N:bH C X Pn (sQ d call ρ p k).out O E s)
  (go:∀i p₁ val s₁,Nx C Pn s s₁->Vw C cx X Pn env ρ p₁ s₁.heap->bf C A s₁.heap->IsPart val i->bH C X Pn (k i p₁).out O E s₁->Q₁ val s₁):wpAny (model C.prog C.w) A (evalPart x env) Q₁ E s:=by
 induction x using Option.casesOn with
 | none=>induction d using Option.casesOn with
  | none=>exact IP (go ae p _ s (.refl hv.base) hv hk .none N)
  | some d=>exact h.elim
 | some e=>induction d using Option.casesOn with
  | none=>exact h.elim
  | some d=>
   have h:aL C cx af e d:=h;have N:bH C X Pn ((d call ρ p).out.bind λa p=>(vI Res.stuck (λi=>k (aa i) p) a).out) O E s:=by
    rw[← dj];exact N
   refine h.run hc hv hk hr N λv p₁ val s₁ hn v1 k₁ hval N1=>?_;induction v using V.casesOn with
   | int i=>exact go (aa i) p₁ val s₁ hn v1 k₁ (IsPart.of hval) N1
   | _=>exact absurd rfl N1.1
theorem aL.slice{o:Expr}{lo hi:Option Expr}{dx:aA}{dl dh:Option aA}{sp pos:Pos}(hx:aL C cx af o dx)(hl:qT C cx lo dl)(hh:qT C cx hi dh):
  aL C cx b (.Subscript o (.Slice lo hi ae sp) pos) (dp dx dl dh):=by
 intro n call hc X Pn env ρ p s A Q E hv hk hr N;have N:=N.o;refine Subscript_ ?_;have e:(dp dx dl dh call ρ p).out=(dx call ρ p).out.bind λo p=>(sQ dl call ρ p (λj p=>sQ dh call ρ p (λi p=>@Option.rec V (λJ=>Res) Res.stuck (λv=>Res.ok v p) (mG o j i)))).out:=dj _ _;rw[e]at N;clear e;refine hx.run hc hv hk hr N λvo p₁ val s₁ hn v1 k₁ hval N1=>wpAny_Slice ?_;refine hl.run hc v1 k₁ hr N1 λj bg vj s₂ cJ v2 k₂ hj N2=>?_;refine hh.run hc v2 k₂ hr N2 λi iL vi br rU v3 bJ hi N3=>?_;refine IP ?_;refine oc (mG vo j i) (λhf=>?_) λv hf=>?_
 ·rw[hf]at N3;exact absurd rfl N3.1
 ·
  rw[hf]at N3;refine xe (v3.pre bJ hr) hf ((hval.b.ext cJ.ext v1.pnX).ext rU.ext v2.pnX) hj hi λval' s' hkp hrep=>?_;exact N3.kp v3.base v3.aE hkp _ (.of hrep)
set_option tactic.hygienic true
theorem aL.rev{o:Expr}{dx:aA}{sp pos p1 p2:Pos}{k1:Nat}(hx:aL C cx af o dx):
  aL C cx b (.Subscript o (.Slice ae ae (aa (.UnaryOp .USub (.Constant (.int 1) k1 p1) p2)) sp) pos) (Internal.c1 lK dx):=by
 intro n call hc X Pn env ρ p s A Q E hv hk hr N;have N:=N.o;refine Subscript_ ?_;have e:(Internal.c1 lK dx call ρ p).out=(dx call ρ p).out.bind λo p=>(@Option.rec V (λJ=>Res) Res.stuck (λv=>Res.ok v p) (lK o)).out:=dj _ _;rw[e]at N;refine hx.run hc hv hk hr N λvo p₁ val s₁ hn v1 k₁ hval N1=>wpAny_Slice (IP (IP ?_));refine wpAny_UnaryOp (wpAny_Constant_int (PyProof.Rows.neg_int ?_));induction vo using V.casesOn<;>dsimp only[lK]at N1<;>try exact absurd rfl N1.1
 case lst l=>
  refine xs23 val hval.b.lst λa vs z1 hl=>?_;obtain⟨hz,m,ht⟩:=z1;have hm:most=8000:=rfl;have K:Kp s₁ { s₁ with toks:=s₁.toks+1+1,heap:=s₁.heap.push { cls:=.type "slice",data:=.fields #[.none,.none,.int (-1) (s₁.toks+1)] } }:=(Kp.toks (s:=s₁) (s₁.toks+1+1)).trans (.push _);have P:=v1.pre (A:=A) k₁ hr;have hP:bp C n X Pn p₁ A { s₁ with toks:=s₁.toks+1+1,heap:=s₁.heap.push { cls:=.type "slice",data:=.fields #[.none,.none,.int (-1) (s₁.toks+1)] } }:=
   ⟨P.room,P.stk.ext (K.nx (Pn:=Pn) P.base).ext P.aE,K.aE P.aE,P.pnX,(K.nx (Pn:=Pn) P.base).ext.base,λb hb=>let ⟨o,ho⟩:=P.lt b hb;⟨o,K.keep _ _ ho⟩,P.fresh,P.tab.wm K.keep⟩
  refine nH (au _ (K.keep _ _ ht) rfl) list_getitem_lookup (wpAny_getItem_list_slice (items:=vs.toArray) (lo:=ae) (hi:=ae) (st:=aa (-1)) (aU _ (K.keep _ _ ht) rfl ⟨m,rfl⟩) (Heap.IsSliceOf.new ..) .none .none (.int _ _) (by simp) ?_ (by simp[sizeLine];lia));rw[rE];refine N1.kp v1.base v1.aE (K.trans (.push _)) _ (.of ?_);rw[uO,List.append_nil];exact aq.newList hP (av.tr K.tr hl).reverse (by simp;exact hz)
end
section
variable{prog:Program}{w:World}{A:I0}{E:IZ->IY->Prop}{s:IY}
theorem xI{v d:I1}{es:List I2}{ep:Nat}{Q:IZ->IY->Prop}(hv:s.heap.IsItemsView v d)(hd:s.heap.get? d=aa (dH es ep))(hz:es.length<=most)
  (hQ:Q (.ref s.heap.objs.size) { s with heap:=s.heap.push { cls:=.type "dict_itemiterator",data:=.fields #[.none,.bool ag,.ref d,.int 0 0,.int es.length 0,.int ep 0,.none,.none] } }):
  wpAny (model prog w) A (pyIter (.ref v)) Q E s:=by
 have hm:most=8000:=rfl;refine aQ (id hv) λov hov hcv hdv=>?_;refine wpAny_pyIter_slot hv.typeIs F.slot_dict_items_iter (IU F.slot_dict_items_iter hv.typeIs F.entry_dict_items_iter ?_ (F.args_dict_items_iter_1 _));unfold Builtin.«dict_items.__iter__»;refine az (IP ?_);refine az ?_;unfold Builtin.Dict_items.dictOf;refine az (wpAny_field hov hdv (x:=.ref d) rfl (IP ?_));refine az ?_;unfold Builtin.Dict_items.newIterator;refine az (wpAny_dictEntries hd rfl ?_);refine az (wpAny_dictEpoch hd rfl ?_);have hown:Builtin.Dict_items.ownsTuple "dict_itemiterator" = af:=by decide
 simp only[hown,if_true];refine wpAny_newObj_type (IP (au _ rfl ⟨"dict_itemiterator",_,(au _ (Jh _ rfl) rfl),F.slot_dict_itemiterator_next.lookup,?_⟩))
  (by simp only[sizeOk,Builtin.Dict_items.ownedTupleFields,Ju,List.length_append,List.length_cons,List.length_nil,sizeLine_eq];decide)
 simpa [rawInt,Builtin.Dict_items.ownedTupleFields]using hQ
theorem wo{it d:I1}{i ep:Nat}{es:List I2}{e:I2}{ok ov:IZ}{Q:Option IZ->IY->Prop}(hit:IsItemIter s.heap it d i es.length ep ok ov)
  (hd:s.heap.get? d=aa (dH es ep)) (hx:es[i]?=aa e)
  (hQ:∀h',IsItemIterOut h' it d (i+1) es.length ep e.key e.val s.heap.objs.size->
   h'.get? s.heap.objs.size=aa (oF [e.key,e.val] 0)->(∀b o,b≠it->s.heap.get? b=aa o->h'.get? b=aa o)->Q (aa (.ref s.heap.objs.size)) { s with heap:=h' }):
  wpAny (model prog w) A (pyNext (.ref it)) Q E s:=by
 obtain⟨hp,g,dr,tk,os⟩:=s;have hT:Shared.TypeIs ⟨hp,g,dr,tk,os⟩ (.ref it) "dict_itemiterator" := au _ hit rfl;unfold pyNext;refine az (wpAny_attempt (wpAny_callSpecial?_slot (name:=Jf "__next__") hT F.slot_dict_itemiterator_next
  (IU F.slot_dict_itemiterator_next hT F.entry_dict_itemiterator_next ?_ (F.args_dict_itemiterator_next_1 _))))
 refine az (IP ?_);refine IQ ?_;refine IQ ?_;refine IQ (wpAny_typeNameOfWhole_itemiter hT (IP ?_));refine IQ (wpAny_fieldsOf hit rfl ?_);have hown:Builtin.Dict_items.ownsTuple "dict_itemiterator" = af:=by decide
 dsimp only[hown,if_true];show wpAny _ _ (if (Value.ref d==Value.none)=af then _ else _) _ _ _
 refine eU (show ¬((Value.ref d==Value.none)=af) from Bool.false_ne_true) ?_;refine IQ (IP ?_);refine IQ (wpAny_dictEntries hd rfl ?_);refine eU (by simp) ?_;refine IQ (IP ?_);refine IQ (wpAny_dictEpoch hd rfl ?_);refine eU (by simp) ?_;refine IP ?_;refine aw (Jw.mp hx) λhlt hxe=>?_;have hga:es.toArray[i]?=aa e:=by simpa using hx
 simp only[show ¬((i:Int)<0) from by exact j9 _,if_false,Int.toNat_natCast,hga];refine az ?_;refine az (wpAny_typeNameOfWhole_itemiter hT (IP ?_));refine az (wpAny_isOneOf_itemiter hT ?_);show wpAny _ _ (setField (.ref it) 3 (rawInt ((i:Int)+1)) >>= _) _ _ ⟨hp,g,dr,tk,os⟩;refine az (wpAny_setField_rec hit (by simp) λaT he1 dB=>?_);replace dB:Jk it hp aT:=dB;replace he1:IsItemIter aT it d (i+1) es.length ep ok ov:=by
  have e:((i+1:Nat):Int)=(i:Int)+1:=rfl;unfold IsItemIter;refine rwl e ?_;simpa [rawInt]using he1
 have hT1:Shared.TypeIs ⟨aT,g,dr,tk,os⟩ (.ref it) "dict_itemiterator" := au _ he1 rfl;refine az (IS ?_);refine az (wpAny_isOneOf_itemiter hT1 ?_);refine az (wpAny_isOneOf_itemiter hT1 ?_);show wpAny _ _ (Builtin.Dict_items.pairFromOwner (.ref it) 6 e.key e.val) _ _ ⟨aT,g,dr,tk,os⟩;unfold Builtin.Dict_items.pairFromOwner;refine az (wpAny_newTuple ?_);have he2:IsItemIter (aT.push { cls:=.type "tuple",data:=.seq #[e.key,e.val] }) it d (i+1) es.length ep ok ov:=Jg _ he1;generalize hh2:aT.push { cls:=.type "tuple",data:=.seq #[e.key,e.val] }=bS at he2;have hz1:aT.objs.size=hp.objs.size:=dB.1;have hil:it<hp.objs.size:=Jj hit;have ht2:bS.get? hp.objs.size=aa (oF [e.key,e.val] 0):=by refine rwl hh2.symm (rwl hz1.symm ?_);exact Jh _ rfl
 have km:∀b o,b≠it->hp.get? b=aa o->bS.get? b=aa o:=λb o hb e=>by refine rwl hh2.symm ?_;exact Jg _ (dB.extBut b o hb e)
 show wpAny _ _ (Builtin.Dict_items.ownedTupleIsFree (.ref it) >>= _) _ _ ⟨bS,g,dr,tk,os⟩;refine rwl hz1 ?_;clear hh2 he1 dB hT1 hz1 aT;refine az ?_;unfold Builtin.Dict_items.ownedTupleIsFree;refine az (wpAny_field he2 rfl (x:=.none) rfl (IP ?_));dsimp only[if_true];refine az (wpAny_field he2 rfl (x:=ok) rfl ?_);refine az (wpAny_field he2 rfl (x:=ov) rfl ?_);refine az (wpAny_setField_rec he2 (by simp) λkN he3 rT=>?_);replace rT:Jk it bS kN:=rT;replace he3:IsItemIter kN it d (i+1) es.length ep e.key ov:=he3;refine az (wpAny_setField_rec he3 (by simp) λzb he4 hs4=>?_);replace hs4:Jk it kN zb:=hs4;replace he4:IsItemIter zb it d (i+1) es.length ep e.key e.val:=he4;refine az (wpAny_setField_rec he4 (by simp) λtE he5 hs5=>?_);replace hs5:Jk it zb tE:=hs5;replace he5:IsItemIterOut tE it d (i+1) es.length ep e.key e.val hp.objs.size:=he5;refine az (wpAny_setField_rec he5 (by simp) λtD he6 hs6=>?_);replace hs6:Jk it tE tD:=hs6;replace he6:IsItemIterOut tD it d (i+1) es.length ep e.key e.val hp.objs.size:=he6;refine az (wpAny_letGo (IP (IP (au _ rfl (IP (hQ tD he6 ?_ ?_))))))
 ·exact hs6.extBut _ _ (Nat.ne_of_gt hil) (hs5.extBut _ _ (Nat.ne_of_gt hil) (hs4.extBut _ _ (Nat.ne_of_gt hil) (rT.extBut _ _ (Nat.ne_of_gt hil) ht2)))
 ·exactλb o hb e=>hs6.extBut b o hb (hs5.extBut b o hb (hs4.extBut b o hb (rT.extBut b o hb (km b o hb e))))
theorem xK{it d:I1}{i ep:Nat}{es:List I2}{ok ov:IZ}{Q:Option IZ->IY->Prop}(hh:A.handled=ae)(hit:IsItemIter s.heap it d i es.length ep ok ov)
  (hd:s.heap.get? d=aa (dH es ep)) (hx:es[i]?=ae)
  (hQ:∀h',Heap.ExtBut it s.heap h'->Q ae { s with heap:=h' }):wpAny (model prog w) A (pyNext (.ref it)) Q E s:=by
 have hT:s.TypeIs (.ref it) "dict_itemiterator" := au _ hit rfl;unfold pyNext;refine az (wpAny_attempt (wpAny_callSpecial?_slot (name:=Jf "__next__") hT F.slot_dict_itemiterator_next
  (IU F.slot_dict_itemiterator_next hT F.entry_dict_itemiterator_next ?_ (F.args_dict_itemiterator_next_1 _))))
 refine az (IP ?_);refine IQ ?_;refine IQ ?_;refine IQ (wpAny_typeNameOfWhole_itemiter hT (IP ?_));refine IQ (wpAny_fieldsOf hit rfl ?_);have hown:Builtin.Dict_items.ownsTuple "dict_itemiterator" = af:=by decide
 dsimp only[hown,if_true];show wpAny _ _ (if (Value.ref d==Value.none)=af then _ else _) _ _ s
 refine eU (show ¬((Value.ref d==Value.none)=af) from Bool.false_ne_true) ?_;refine IQ (IP ?_);refine IQ (wpAny_dictEntries hd rfl ?_);refine eU (by simp) ?_;refine IQ (IP ?_);refine IQ (wpAny_dictEpoch hd rfl ?_);refine eU (by simp) ?_;refine IP ?_;have hga:es.toArray[i]?=ae:=by simpa using hx
 simp only[show ¬((i:Int)<0) from by exact j9 _,if_false,Int.toNat_natCast,hga];refine az ?_;refine az (wpAny_typeNameOfWhole_itemiter hT (IP ?_));show wpAny _ _ (setField (.ref it) 2 .none >>= _) _ _ s;refine az (wpAny_setField hit rfl (by simp) ?_);skip;refine az ?_;dsimp only[newExc,newTuple];refine az (wpAny_newObj_type ?_ (by size_fits));refine az (m:=firstArgMember _ _) (wpAny_of_eq (a:=Value.none) (by first|rfl|(dsimp only[firstArgMember];rfl)) ?_)
 refine wpAny_newObj_type ?_ (by size_fits);dsimp only[raiseNew];refine az (wpAny_handled ?_);refine rwl (show A.in1.handled=ae from hh) ?_;refine az (IP (wpAny_throw ?_));refine az (wpAny_isInstance (T := "StopIteration") (b:=af) (au _ (Jh _ rfl) rfl) isSubtype_stop ?_);exact IP (hQ _ (((Jl ..).extBut.push _).push _))
end
inductive bW(C:Cfg)(X Pn:AP)(h:Heap):I1->List I1->I1->Bool->List V->Prop
 | list {I a:I1} {k:Nat} {vs:List IZ} {l:List V}:h.IsListIter I a k->LstAt h a vs->¬Pn a->av C X h l (vs.drop k)->bW C X Pn h I [I] a ag l
 | tup {I a:I1} {k:Nat} {vs:List IZ} {l:List V}:h.IsTupleIter I a k->TupAt h a vs->¬Pn a->av C X h l (vs.drop k)->bW C X Pn h I [I] a ag l
 | range {I:I1} {x:Int} {n:Nat}:IsRangeIter h I x n 1->bW C X Pn h I [I] I ag (cE n x)
 | rev {I a:I1} {k:Nat} {vs:List IZ} {l:List V}:h.IsRevIter I a ((k:Int)-1)->LstAt h a vs->¬Pn a->k<=vs.length->av C X h l (vs.take k).reverse->bW C X Pn h I [I] a ag l
 | enum {e it a:I1} {k:Nat} {vs:List IZ} {l:List V} {old:IZ}:IsEnum h e it k old->h.IsListIter it a k->LstAt h a vs->¬Pn a->av C X h l (vs.drop k)->bW C X Pn h e [e,it] a af (oX l k)
 | items {I d:I1} {k ep:Nat} {es:List I2} {ok ov:IZ} {ks xs:List V}:IsItemIter h I d k es.length ep ok ov->h.get? d=aa (dH es ep)->¬Pn d->es.length<=most->
   av C X h ks ((es.drop k).map (·.key))->av C X h xs ((es.drop k).map (·.val))->bW C X Pn h I [I] d af (vz ks xs)
structure jg(wr:List I1)(s s':IY):Prop where
 keep:∀b o,b∉wr->s.heap.get? b=aa o->s'.heap.get? b=aa o
 gens:s'.gens=s.gens
 os:s'.os=s.os
set_option backward.eqns.nonrecursive false in
noncomputable def fP:Expr->Bool->Bool
 | .Name _ _,o=>!o
 | .Tuple _ _ _,_=>af
 | _,_=>ag
section
variable{X X' Pn Y:AP}{h h':Heap}{s s':IY}{A:I0}{I a:I1}{wr:List I1}{o:Bool}{l:List V}{E:IZ->IY->Prop}
theorem bW.tr(t:∀b o,h.get? b=aa o->Kc o->¬Y b->h'.get? b=aa o)(hY:∀b,Y b->X b)(hw:∀b∈wr,¬Y b)(ha:¬Y a)(r:bW C X Pn h I wr a o l):bW C X Pn h' I wr a o l:=by
 have T:Tr X h X h':=λb o e hc hx=>⟨t b o e hc.ne λq=>hx (hY b q),hx⟩;induction r using bW.casesOn with
 | list h1 h2 h3 h4=>
  refine aQ h1 λx e c d=>?_;refine ao h2 λz zq=>?_;refine aw zq λn e2=>?_;exact .list (aU x (t _ _ e (bx c (by decide)) (hw _ (by simp))) c d) ⟨z,n,t _ _ e2 (bx rfl (by decide)) ha⟩ h3 (h4.tr T)
 | tup h1 h2 h3 h4=>
  refine aQ h1 λx e c d=>?_;refine ao h2 λz zq=>?_;refine aw zq λn e2=>?_;exact .tup (aU x (t _ _ e (bx c (by decide)) (hw _ (by simp))) c d) ⟨z,n,t _ _ e2 (bx rfl (by decide)) ha⟩ h3 (h4.tr T)
 | range h1=>exact .range (t _ _ h1 (bx rfl (by decide)) (hw _ (by simp)))
 | rev h1 h2 h3 h4 h5=>
  refine aQ h1 λx e c d=>?_;refine ao h2 λz zq=>?_;refine aw zq λn e2=>?_;exact .rev (aU x (t _ _ e (bx c (by decide)) (hw _ (by simp))) c d) ⟨z,n,t _ _ e2 (bx rfl (by decide)) ha⟩ h3 h4 (h5.tr T)
 | enum h1 h2 h3 h4 h5=>
  refine aQ h2 λx e c d=>?_;refine ao h3 λz zq=>?_;refine aw zq λn e2=>?_;exact .enum (t _ _ h1 (bx rfl (by decide)) (hw _ (by simp))) (aU x (t _ _ e (bx c (by decide)) (hw _ (by simp))) c d) ⟨z,n,t _ _ e2 (bx rfl (by decide)) ha⟩ h4 (h5.tr T)
 | items h1 h2 h3 h4 h5 h6=>
  exact .items (t _ _ h1 (bx rfl (by decide)) (hw _ (by simp))) (t _ _ h2 (bx rfl (by decide)) ha) h3 h4 (h5.tr T) (h6.tr T)
theorem bW.mono(t:Tr X h X' h)(r:bW C X Pn h I wr a o l):bW C X' Pn h I wr a o l:=by
 induction r using bW.casesOn with
 | list h1 h2 h3 h4=>exact .list h1 h2 h3 (h4.tr t)
 | tup h1 h2 h3 h4=>exact .tup h1 h2 h3 (h4.tr t)
 | range h1=>exact .range h1
 | rev h1 h2 h3 h4 h5=>exact .rev h1 h2 h3 h4 (h5.tr t)
 | enum h1 h2 h3 h4 h5=>exact .enum h1 h2 h3 h4 (h5.tr t)
 | items h1 h2 h3 h4 h5 h6=>exact .items h1 h2 h3 h4 (h5.tr t) (h6.tr t)
theorem bW.own (r:bW C X Pn h I wr a o l):I∈wr/\∀b∈wr,∃ob n,h.get? b=aa ob/\ob.cls=.type n/\¬cv (.type n)/\n ≠ "frame" /\ n ≠ "code" := by
 induction r using bW.casesOn with
 | list h1=>refine aQ h1 λx e c d=>?_;exact⟨by simp,λb hb=>by simp at hb;clear h1;subst hb;exact gv x _ e c (by simp[cv]) (by decide) (by decide)⟩
 | tup h1=>refine aQ h1 λx e c d=>?_;exact⟨by simp,λb hb=>by simp at hb;clear h1;subst hb;exact gv x _ e c (by simp[cv]) (by decide) (by decide)⟩
 | range h1=>exact⟨by simp,λb hb=>by simp at hb;subst hb;exact gv _ _ h1 rfl (by simp[cv]) (by decide) (by decide)⟩
 | rev h1=>refine aQ h1 λx e c d=>?_;exact⟨by simp,λb hb=>by simp at hb;clear h1;subst hb;exact gv x _ e c (by simp[cv]) (by decide) (by decide)⟩
 | enum h1 h2=>
  refine aQ h2 λx e c d=>?_;refine⟨by simp,λb hb=>?_⟩;simp at hb;rcases hb with rfl|rfl
  ·exact gv _ _ h1 rfl (by simp[cv]) (by decide) (by decide)
  ·exact gv x _ e c (by simp[cv]) (by decide) (by decide)
 | items h1=>exact⟨by simp,λb hb=>by simp at hb;subst hb;exact gv _ _ h1 rfl (by simp[cv]) (by decide) (by decide)⟩
theorem bW.mQ(r:bW C X Pn h I wr a o l):∀b∈wr,∀ob,h.get? b=aa ob->¬cv ob.cls:=λb hb ob e=>by
 refine dO (r.own.2 b hb) λob' n e' hc hr zz=>?_;replace e':=e▸e';obtain rfl:=Jd e';refine rwl hc ?_;exact hr
theorem iR{b c:I1}{ob oc:Obj}{n:String}(hb:h.get? b=aa ob)(hc:h.get? c=aa oc)(e:oc.cls=.type n)(ne:ob.cls≠.type n):b≠c:=λq=>by
 subst q;rw[hb]at hc;obtain rfl:=Jd hc;exact ne e
theorem Gy{x:Str}{p:Pos}{it v:IZ}:I8 (.Name x p) it v=pure ():=rfl
set_option tactic.hygienic true
theorem iU{tg:Expr}{v:IZ}{ob:Obj}{n:String}{Q:Unit->IY->Prop}(ht:fP tg ag=af)(ho:s.heap.get? I=aa ob)(hc:ob.cls=.type n)
  (hn:(["enumerate","zip","dict_itemiterator","dict_reverseitemiterator","odict_iterator","itertools.zip_longest","itertools.pairwise"].contains n)=ag) (q:Q () s):
  wpAny (model C.prog C.w) A (I8 tg (.ref I) v) Q E s:=by
 induction tg using Expr.casesOn<;>simp[fP]at ht
 case Name=>exact IP q
 case Tuple=>
  induction v using Value.casesOn with
  | ref b=>
   unfold I8;refine az (IW ho ?_);obtain⟨c,d,dt,sl⟩:=ob;simp only at hc;subst hc;induction dt using Data.casesOn with
   | fields vs=>
    show wpAny _ A (if ((["enumerate","zip","dict_itemiterator","dict_reverseitemiterator","odict_iterator","itertools.zip_longest","itertools.pairwise"].contains n)&&vs[0]?==aa (rawInt b))=af then _ else _) Q E s
    rw[hn,Bool.false_and,if_neg (by simp)];exact IP q
   | _=>exact IP q
  | _=>exact IP q
theorem qu{n:Nat}{x:Int}{v:V}{l:List V}(e:cE n x=v::l):∃m,n=m+1/\v=.int x/\l=cE m (x+1):=by
 induction n using Nat.casesOn with
 | zero=>cases e
 | succ m=>
  have e:V.int x::cE m (cQ x (.ofNat 1))=v::l:=e;rw[jE]at e;injection e with zq1 zq2;(try subst zq1);(try subst zq2);exact aU m rfl rfl rfl
theorem bW.next{L:List V}{v:V}{tg:Expr}{Q:IZ->IY->Prop}(hlt:∀b,X b->∃o,s.heap.get? b=aa o)(r:bW C X Pn s.heap I wr a o L)(e:L=v::l)(ht:fP tg o=af)
  (hQ:∀val s',jg wr s s'->aq C X s'.heap v val->bW C X Pn s'.heap I wr a o l->Q val s'):
  wpAny (model C.prog C.w) A (pyNext (.ref I)) (λr s₁=>∃val,r=aa val/\wpAny (model C.prog C.w) A (I8 tg (.ref I) val) (λJ s₂=>Q val s₂) E s₁) E s:=by
 have hnew:¬X s.heap.objs.size:=λq=>let ⟨_,ho⟩:=hlt _ q;JB _ (Jj ho)
 have hW:=r.mQ;cases r with
 | list h1 h2 h3 h4=>
  rename_i k vs;subst e;have hlt:k<vs.length:=by
   have:=h4.length;simp at this;exact jQ this
  simp only[List.drop_eq_getElem_cons hlt,av.fz]at h4;refine aQ (id h1) λoI eI cI dI=>?_;refine ao (id h2) λz zq=>?_;refine aw zq λn ea=>?_;have hne:a≠I:=iR ea eI cI (by simp[dn]);refine wpAny_pyNext_list_item h1 h2.isList (x:=vs[k]) (by simp) λh' hit hs=>au _ rfl ?_;refine aQ (id hit) λoI' eI' cI' zz=>?_;have T:Tr X s.heap X h':=λb ob eb hc hx=>⟨hs.extBut b ob (λq=>hW b (by simp[q]) ob eb hc) eb,hx⟩;refine iU (I:=I) ht eI' cI' (by decide) (hQ _ _ ⟨λb ob hb eb=>hs.extBut b ob (by simpa using hb) eb,rfl,rfl⟩ (h4.1.tr T) (.list hit ⟨z,n,hs.extBut a _ hne ea⟩ h3 (h4.2.tr T)))
 | tup h1 h2 h3 h4=>
  rename_i k vs;subst e;have hlt:k<vs.length:=by
   have:=h4.length;simp at this;exact jQ this
  simp only[List.drop_eq_getElem_cons hlt,av.fz]at h4;refine aQ (id h1) λoI eI cI dI=>?_;refine ao (id h2) λz zq=>?_;refine aw zq λn ea=>?_;have hne:a≠I:=iR ea eI cI (by simp[oF]);refine wpAny_pyNext_tuple_item h1 h2.fH (x:=vs[k]) (by simp) λh' hit hs=>au _ rfl ?_;refine aQ (id hit) λoI' eI' cI' zz=>?_;have T:Tr X s.heap X h':=λb ob eb hc hx=>⟨hs.extBut b ob (λq=>hW b (by simp[q]) ob eb hc) eb,hx⟩;refine iU (I:=I) ht eI' cI' (by decide) (hQ _ _ ⟨λb ob hb eb=>hs.extBut b ob (by simpa using hb) eb,rfl,rfl⟩ (h4.1.tr T) (.tup hit ⟨z,n,hs.extBut a _ hne ea⟩ h3 (h4.2.tr T)))
 | range h1=>
  refine aQ (qu e) λm z0 z1 z2=>?_;subst z0;subst z1;clear e;subst z2;refine wpAny_pyNext_range_item h1 (by omega) λh' hit hs=>au _ rfl ?_;have e2:((m+1:Nat):Int)-1=(m:Int):=Af _;simp only[e2]at hit;refine iU (I:=I) ht hit rfl (by decide) (hQ _ _ ⟨λb ob hb eb=>hs.extBut b ob (by simpa using hb) eb,rfl,rfl⟩ (by simp[aq]) (.range hit))
 | rev h1 h2 h3 hk h4=>
  rename_i k vs;subst e;induction k using Nat.casesOn with
  | zero=>simp[av]at h4
  | succ k=>
   have hlt:k<vs.length:=hk;have et:vs.take (k+1)=vs.take k++[vs[k]]:=by simp
   simp only[et,List.reverse_append,List.reverse_singleton,List.singleton_append,av.fz]at h4;refine aQ (id h1) λoI eI cI dI=>?_;refine ao (id h2) λz zq=>?_;refine aw zq λn ea=>?_;have hne:a≠I:=iR ea eI cI (by simp[dn]);have e3:((k+1:Nat):Int)-1=(k:Int):=Af _;simp only[e3]at h1;refine wpAny_pyNext_rev_item h1 h2.isList (x:=vs[k]) (by simp) λh' hit hs=>au _ rfl ?_;refine aQ (id hit) λoI' eI' cI' zz=>?_;have T:Tr X s.heap X h':=λb ob eb hc hx=>⟨hs.extBut b ob (λq=>hW b (by simp[q]) ob eb hc) eb,hx⟩;refine iU (I:=I) ht eI' cI' (by decide) (hQ _ _ ⟨λb ob hb eb=>hs.extBut b ob (by simpa using hb) eb,rfl,rfl⟩ (h4.1.tr T) (.rev hit ⟨z,n,hs.extBut a _ hne ea⟩ h3 (JA hlt) (h4.2.tr T)))
 | enum h1 h2 h3 h4 h5=>
  rename_i it k vs ll old;induction ll using List.casesOn with
  | nil=>cases e
  | cons u ll=>
   have e:V.tup [.int (.ofNat k),u]::oX ll (k+1)=v::l:=e;injection e with zq1 zq2;(try subst zq1);(try subst zq2)
   have hlt:k<vs.length:=by
    have:=h5.length;simp at this;exact jQ this
   simp only[List.drop_eq_getElem_cons hlt,av.fz]at h5;refine aQ (id h2) λoI eI cI dI=>?_;refine ao (id h3) λz zq=>?_;refine aw zq λn ea=>?_;have hn1:a≠it:=iR ea eI cI (by simp[dn]);have hn2:a≠I:=iR ea h1 rfl (by simp[dn]);have hn3:I≠it:=iR h1 eI cI (by simp);have hT:I≠s.heap.objs.size:=Jz (Jj h1);induction tg using Expr.casesOn<;>simp[fP]at ht
   refine wpAny_pyNext_enum_item h1 h2 h3.isList (x:=vs[k]) (by simp) hn3 λh' hit hit2 htup J hs=>au _ rfl ?_;refine wpAny_letOwnedTupleGo_enum hit λbS he2 gq=>?_;have kp:∀b ob,b≠I->b≠it->s.heap.get? b=aa ob->bS.get? b=aa ob:=λb ob hb hb' eb=>gq.extBut b ob hb (hs b ob hb hb' eb);have T:Tr X s.heap X bS:=λb ob eb hc hx=>⟨kp b ob (λq=>hW b (by simp[q]) ob eb hc) (λq=>hW b (by simp[q]) ob eb hc) eb,hx⟩;have htup2:TupAt bS s.heap.objs.size [.int (k:Int) s.toks,vs[k]]:=⟨by simp[most],0,gq.extBut _ _ (Ne.symm hT) htup⟩;refine hQ _ _ ⟨λb ob hb eb=>kp b ob (λq=>hb (by simp[q])) (λq=>hb (by simp[q])) eb,rfl,rfl⟩ ?_ ?_
   ·simp only[aq];exact d8 _ _ rfl hnew htup2 (.cons (by simp[aq]) (.cons (h5.1.tr T) .nil))
   ·exact .enum (by simpa using he2) (hit2.extBut gq.extBut (Ne.symm hn3)) ⟨z,n,kp a _ hn2 hn1 ea⟩ h4 (h5.2.tr T)
 | items h1 h2 h3 h4 h5 h6=>
  rename_i k ep es ok ov ks xs;induction ks using List.casesOn with
  | nil=>cases e
  | cons u ks=>induction xs using List.casesOn with
   | nil=>cases e
   | cons y xs=>
    have e:V.tup [u,y]::vz ks xs=v::l:=e;injection e with zq1 zq2;(try subst zq1);(try subst zq2)
    have hlt:k<es.length:=by
     have:=h5.length;simp at this;exact jQ this
    simp only[List.drop_eq_getElem_cons hlt,List.map_cons,av.fz]at h5 h6;have hn2:a≠I:=iR h2 h1 rfl (by simp[dH]);have hT:I≠s.heap.objs.size:=Jz (Jj h1);induction tg using Expr.casesOn<;>simp[fP]at ht
    refine wo h1 h2 (e:=es[k]) (by simp) λh' hit htup hs=>au _ rfl ?_;refine wpAny_letOwnedTupleGo_items hit λbS he2 gq=>?_;have kp:∀b ob,b≠I->s.heap.get? b=aa ob->bS.get? b=aa ob:=λb ob hb eb=>gq.extBut b ob hb (hs b ob hb eb);have T:Tr X s.heap X bS:=λb ob eb hc hx=>⟨kp b ob (λq=>hW b (by simp[q]) ob eb hc) eb,hx⟩;have htup2:TupAt bS s.heap.objs.size [es[k].key,es[k].val]:=⟨by simp[most],0,gq.extBut _ _ (Ne.symm hT) htup⟩;refine hQ _ _ ⟨λb ob hb eb=>kp b ob (λq=>hb (by simp[q])) eb,rfl,rfl⟩ ?_ ?_
    ·simp only[aq];exact d8 _ _ rfl hnew htup2 (.cons (h5.1.tr T) (.cons (h6.1.tr T) .nil))
    ·exact .items he2 (kp a _ hn2 h2) h3 h4 (h5.2.tr T) (h6.2.tr T)
theorem bW.stop{L:List V}{Q:Option IZ->IY->Prop}(hh:A.handled=ae)(r:bW C X Pn s.heap I wr a o L)(e:L=[])(hQ:∀s',jg wr s s'->Q ae s'):
  wpAny (model C.prog C.w) A (pyNext (.ref I)) Q E s:=by
 cases r with
 | list h1 h2 h3 h4=>
  rename_i k vs;subst e;have hge:vs.length<=k:=by have:=h4.length;simp at this;exact Nat.le_of_sub_eq_zero this
  exact wpAny_pyNext_list_end hh h1 h2.isList (by simp;exact hge) λh' he=>hQ _ ⟨λb ob hb eb=>he b ob (by simpa using hb) eb,rfl,rfl⟩
 | tup h1 h2 h3 h4=>
  rename_i k vs;subst e;have hge:vs.length<=k:=by have:=h4.length;simp at this;exact Nat.le_of_sub_eq_zero this
  exact wpAny_pyNext_tuple_end hh h1 h2.fH (by simp;exact hge) λh' he=>hQ _ ⟨λb ob hb eb=>he b ob (by simpa using hb) eb,rfl,rfl⟩
 | range h1=>
  rename_i x n;induction n using Nat.casesOn with
  | succ n=>cases e
  | zero=>exact wpAny_pyNext_range_end hh h1 (by decide) λh' he=>hQ _ ⟨λb ob hb eb=>he b ob (by simpa using hb) eb,rfl,rfl⟩
 | rev h1 h2 h3 hk h4=>
  rename_i k vs;subst e;have hk0:k=0:=by have:=h4.length;simp only[List.length_reverse,List.length_take,List.length_nil]at this;lia
  clear hk h4;subst hk0;exact wpAny_pyNext_rev_end hh h1 λh' he=>hQ _ ⟨λb ob hb eb=>he b ob (by simpa using hb) eb,rfl,rfl⟩
 | enum h1 h2 h3 h4 h5=>
  rename_i it k vs ll old;induction ll using List.casesOn with
  | cons u ll=>cases e
  | nil=>
   have hge:vs.length<=k:=by have:=h5.length;simp at this;exact Nat.le_of_sub_eq_zero this
   exact wpAny_pyNext_enum_end hh h1 h2 h3.isList (by simp;exact hge) λh' he=>hQ _ ⟨λb ob hb eb=>he b ob (λq=>hb (by simp[q])) eb,rfl,rfl⟩
 | items h1 h2 h3 h4 h5 h6=>
  rename_i k ep es ok ov ks xs;have hl:=h5.length;have hl':=h6.length;have hge:es.length<=k:=by
   induction ks using List.casesOn with
   | nil=>simp at hl;exact Nat.le_of_sub_eq_zero hl
   | cons u ks=>induction xs using List.casesOn with
    | nil=>simp at hl';exact Nat.le_of_sub_eq_zero hl'
    | cons y xs=>cases e
  exact xK hh h1 h2 (by simp;exact hge) λh' he=>hQ _ ⟨λb ob hb eb=>he b ob (by simpa using hb) eb,rfl,rfl⟩
theorem mv:entryFor table "dict_itemiterator.__iter__" = aa Builtin.«dict_keyiterator.__iter__»:=
 entryFor_alias (id' := "dict_keyiterator.__iter__") (by kernel_rfl) rfl (by decide +kernel) (by kernel_rfl)
set_option tactic.hygienic false
theorem bW.self{L:List V}{Q:IZ->IY->Prop}(r:bW C X Pn s.heap I wr a o L)(h:Q (.ref I) s):wpAny (model C.prog C.w) A (pyIter (.ref I)) Q E s:=by
 induction r using bW.casesOn with
 | list h1=>exact wpAny_pyIter_listiter h1 h
 | tup h1=>exact wpAny_pyIter_tupleiter h1 h
 | range h1=>exact wpAny_pyIter_rangeiter h1 h
 | rev h1=>exact wpAny_pyIter_revIter h1 h
 | enum h1=>exact wpAny_pyIter_enum h1 h
 | items h1=>
  have hT:s.TypeIs (.ref I) "dict_itemiterator" := au _ h1 rfl;refine wpAny_pyIter_slot hT PySem.F.slot_dict_itemiterator_iter (IU PySem.F.slot_dict_itemiterator_iter hT mv ?_ (PySem.F.args_dict_itemiterator_iter_1 _));skip;exact IP (au _ rfl ⟨"dict_itemiterator",_,hT,PySem.F.slot_dict_itemiterator_next.lookup,h⟩)
end
noncomputable def el:List Str:=["len","abs","any","dict","list","tuple","sorted","str","sum","max","min","range","enumerate","reversed","isinstance"]
structure dG(C:Cfg)(fns:List (Str×Nat))(glb:List (Str×V))(mg mb:Str->Option IZ):Prop where
 g:C.h₀.Ns I4 mg
 b:C.h₀.Ns I5 mb
 bi:∀x:Str,x ≠ "__name__" -> mb x=bootBuiltins x
 free:∀x∈el,mg x=ae
 defs:∀x i,fns.lookup x=aa i->mg x=aa (.ref (C.fa i))
 fobj:∀x i,fns.lookup x=aa i->∃o fd,C.h₀.get? (C.fa i)=aa o/\o.data=.func fd
 consts:∀x v,glb.lookup x=aa v->∃val,mg x=aa val/\aq C (λJ=>False) C.h₀ v val
 nolimit:C.h₀.NoLimit
 sys:∃o,C.h₀.get? sysModules=aa o
 cls:∃q,C.cls=.ref q
section
variable{fns:List (Str×Nat)}{glb:List (Str×V)}{mg mb:Str->Option IZ}{cx:Cx}{b:Bool}{X Pn:AP}{s s':IY}{A:I0}{n:Nat}{ρ:Fr}{p p':List V}{env:Env}{Q E:IZ->IY->Prop}
theorem Base.ns{h:Heap}(hb:Base C h){a:I1}{m:Str->Option IZ}(x:C.h₀.Ns a m):h.Ns a m:=x.at' λo e=>hb a o e
theorem Base.rep{h:Heap}(hb:Base C h)(hf:∀b,X b->C.h₀.get? b=ae){v:V}{val:IZ}(r:aq C (λJ=>False) C.h₀ v val):aq C X h v val:=
 r.tr λa o e J J=>⟨hb a o e,λhx=>by replace e:=(hf a hx)▸e;exact nS e⟩
theorem ke{x:Str}{pos:Pos}{val:IZ}(W:dG C fns glb mg mb)(hv:Vw C cx X Pn env ρ p s.heap)(hx:bc x=af)(hG:cx.d5 x=af)(hm:mg x=aa val)(q:Q val s):
  wpAny (model C.prog C.w) A (eval (.Name x pos) env) Q E s:=
 Name_function_global hv.kind (hv.glob x hG) (loadGlobal_global (by refine rwl hv.globals ?_;exact hv.base.ns W.g) hm q) (cP hx)
theorem ei{x:Str}{pos:Pos}{val:IZ}(W:dG C fns glb mg mb)(hv:Vw C cx X Pn env ρ p s.heap)(hx:bc x=af)(hG:cx.d5 x=af)(hm:x∈el)(hb:bootBuiltins x=aa val)(q:Q val s):
  wpAny (model C.prog C.w) A (eval (.Name x pos) env) Q E s:=
 Name_function_global hv.kind (hv.glob x hG) (loadGlobal_builtin (mg:=mg) (mb:=mb) (by refine rwl hv.globals ?_;exact hv.base.ns W.g) (W.free x hm) (by refine rwl hv.builtins ?_;exact hv.base.ns W.b)
  (by refine rwl (W.bi x (by rintro rfl;revert hm;decide)) ?_;exact hb) q) (cP hx)
theorem aL.glob{x:Str}{pos:Pos}{v:V}(W:dG C fns glb mg mb)(hx:bc x=af)(hG:cx.d5 x=af)(hl:glb.lookup x=aa v):aL C cx b (.Name x pos) (cK v):=by
 intro n call hc X Pn env ρ p s A Q E hv hk hr N;refine aj (W.consts x v hl) λval hm hrep=>?_;exact ke W hv hx hG hm (N.ok rfl (.refl hv.base) hv.aE (hv.base.rep hv.fresh hrep))
theorem pj{e:Expr}{pos:Pos}(hs:∀x p,e≠.Starred x p):backTo pos (starEach [e] env)=[(ag,eval e env)]:=by rw[aZ hs];rfl
theorem mz{e f:Expr}{pos:Pos}(hs:∀x p,e≠.Starred x p)(hs':∀x p,f≠.Starred x p):backTo pos (starEach [e,f] env)=[(ag,eval e env),(ag,eval f env)]:=by
 rw[aZ hs,aZ hs'];rfl
inductive nC:IZ->Prop
 | fn (id:String):nC (.builtin id)
 | ty (T:String):nC (.type T)
theorem qa{f:IZ}(hf:nC f){M:Model}{pos:Pos}{first:List IZ}{args:List (Bool×Sem IZ)}(hplain:args.any (·.1)=ag)
  (h:wpAny M A (evalArgs f af args []) (λa s₁=>wpAny M A (PySem.call f (first++a.pos) a.kw) Q E s₁) E s):wpAny M A (callWith pos f first args []) Q E s:=by
 induction hf using nC.casesOn with
 | fn id=>exact callWith_builtin hplain h
 | ty T=>exact PyProof.Rows.callWith_type hplain h
theorem mf{f:IZ}(hf:nC f){M:Model}{pos:Pos}{t:Sem IZ}(h:wpAny M A t (λv s₁=>wpAny M A (PySem.call f [v]) Q E s₁) E s):wpAny M A (callWith pos f [] [(ag,t)] []) Q E s:=
 qa hf rfl (evalArgs_plain (spliced_cons (IX h (λJ J aT=>spliced_nil aT) λJ J x=>x)))
theorem call2{f:IZ}(hf:nC f){M:Model}{pos:Pos}{t u:Sem IZ}(h:wpAny M A t (λv s₁=>wpAny M A u (λw s₂=>wpAny M A (PySem.call f [v,w]) Q E s₂) E s₁) E s):
  wpAny M A (callWith pos f [] [(ag,t),(ag,u)] []) Q E s:=
 qa hf rfl (evalArgs_plain (spliced_cons (IX h (λJ J aT=>spliced_cons (IX aT (λJ J bS=>spliced_nil bS) λJ J x=>x)) λJ J x=>x)))
theorem aL.b1{f:Str}{g:V->Option V}{fv:IZ}{x:Expr}{d:aA}{np pos:Pos}(W:dG C fns glb mg mb)(hf:bc f=af)(hG:cx.d5 f=af)(hm:f∈el)(hb:bootBuiltins f=aa fv)(hB:nC fv)
  (hx:aL C cx af x d) (hs:∀e p,x≠.Starred e p) (ho:iF C g (λv=>PySem.call fv [v])):aL C cx b (.Call (.Name f np) [x] [] pos) (Internal.c1 g d):=by
 intro n call hc X Pn env ρ p s A Q E hv hk hr N;have N:=N.o;replace N:=(show(Internal.c1 g d call ρ p).out=(d call ρ p).out.bind λa p=>(@Option.rec V (λJ=>Res) Res.stuck (λv=>Res.ok v p) (g a)).out from dj _ _)▸N;refine wpAny_Call_NameR (ei W hv hf hG hm hb ?_);refine rwl (pj hs) ?_;refine mf hB (hx.run hc hv hk hr N λv p₁ val s₁ hn v1 k₁ hval N1=>?_);refine oc (g v) (λhg=>?_) λr hg=>?_
 ·replace N1:=hg▸N1;exact absurd rfl N1.1
 ·
  replace N1:=hg▸N1;exact ho n X Pn p₁ s₁ A Q E v r val (v1.pre k₁ hr) hg hval.b λval' s' hkp hrep=>N1.kp v1.base v1.aE hkp _ (.of hrep)
theorem aL.b2{f:Str}{g:V->V->Option V}{fv:IZ}{x y:Expr}{d d':aA}{np pos:Pos}(W:dG C fns glb mg mb)(hf:bc f=af)(hG:cx.d5 f=af)(hm:f∈el)(hb:bootBuiltins f=aa fv)(hB:nC fv)
  (hx:aL C cx af x d) (hs:∀e p,x≠.Starred e p) (hy:aL C cx af y d') (hs':∀e p,y≠.Starred e p) (ho:cU C g (λv w=>PySem.call fv [v,w])):aL C cx b (.Call (.Name f np) [x,y] [] pos) (Internal.c2 g d d'):=by
 intro n call hc X Pn env ρ p s A Q E hv hk hr N;have N:=N.o;rw[show(Internal.c2 g d d' call ρ p).out=(d call ρ p).out.bind λa p=>(@Res.rec (λJ=>Res) Res.stuck (λb p=>@Option.rec V (λJ=>Res) Res.stuck (λv=>Res.ok v p) (g a b)) Res.exc (d' call ρ p)).out from dj _ _]at N;refine wpAny_Call_NameR (ei W hv hf hG hm hb ?_);rw[mz hs hs'];refine call2 hB (hx.run hc hv hk hr N λv p₁ val s₁ hn v1 k₁ hval N1=>?_);rw[dj]at N1;refine hy.run hc v1 k₁ hr N1 λw bg val' s₂ cJ v2 k₂ hval' N2=>?_;refine oc (g v w) (λhg=>?_) λr hg=>?_
 ·rw[hg]at N2;exact absurd rfl N2.1
 ·
  rw[hg]at N2;exact ho n X Pn bg s₂ A Q E v w r val val' (v2.pre k₂ hr) hg (hval.b.ext cJ.ext v1.pnX) hval'.b λval'' s' hkp hrep=>N2.kp v2.base v2.aE hkp _ (.of hrep)
end
section
variable{cx:Cx}{b:Bool}{X Pn:AP}{s s':IY}{A:I0}{n:Nat}{ρ:Fr}{p p':List V}{env:Env}{Q E:IZ->IY->Prop}
theorem p9 {T id:String} {B:Builtin} {v:IZ} {n:Nat} {Q:IZ->IY->Prop} (hT:s.TypeIs v T) (slot:PySem.Slot T "__len__" id)
  (entry:entryFor table id=aa B) (args:argsOk id ⟨[v],[]⟩) (g:∀(E:IZ->IY->Prop)(Q':Fin->IY->Prop)(A':I0),Q' (.done (.ret (.int n s.toks))) { s with toks:=s.toks+1 }->wpAny (model C.prog C.w) A' (B ⟨[v],[]⟩) Q' E s) (hfit:n<=100000)
  (h:Q (.int n (s.toks+1)) { s with toks:=s.toks+1+1 }):wpAny (model C.prog C.w) A (call (.builtin "len") [v]) Q E s:=by
 refine Calls.call_function_entry kind_len plain_len entry_len (args_len1 _) ?_;unfold Builtin.«len»;refine az (m:=oneArg "len" _) (IP ?_);refine az (m:=callSpecial? v (Jf "__len__")) (wpAny_callSpecial?_slot (name:=Jf "__len__") hT slot
  (IU slot hT entry (g _ _ _ (au _ rfl ?_)) args))
 show wpAny _ _ _ _ _ { s with toks:=s.toks+1 };refine az (IS (IP ?_));refine az (wpAny_letGo ?_);show wpAny _ _ (if (n:Int)<0 then _ else _) _ _ _
 refine eU (j9 _) ?_;show wpAny _ _ (if (n:Int)≥2^63 then _ else _) _ _ _
 refine eU (by lia) ?_;exact az (wpAny_mkInt (IP (au _ rfl h)))
set_option tactic.hygienic true
theorem GV:iF C cc (λv=>PySem.call (.builtin "len") [v]):=by
 intro n X Pn p s A Q E a v va P hf ha h;have hm:most=8000:=rfl;induction a using V.casesOn<;>(first|exact nS hf|exact fT hf|(dsimp only[cc]at hf<;>(try obtain rfl:=Jd hf)))
 case tup l=>
  refine aW ha.tup λa vs z0 z1 hl=>?_;clear ha;subst z0;refine ao z1 λhz zq=>?_;refine aw zq λk ht=>?_;have hlen:=hl.length;refine PySem.P.len_tuple (n:=k) (items:=vs.toArray) ht (by simp;lia) (h _ _ (.toks _) ?_);rw[cj];simp[aq,hlen]
 case lst l=>
  refine aW ha.lst λa vs z0 ht hl=>?_;clear ha;subst z0;have hlen:=hl.length;have hz:=ht.1;refine call_len_list (items:=vs.toArray) ht.isList (by simp;lia) (h _ _ (.toks _) ?_);rw[cj];simp[aq,hlen]
 case bh ks xs=>
  refine jH ha.bh λd es z0 z1 h1 h2 h3 h4=>?_;clear ha;subst z0;refine ao z1 λz0 zq=>?_;obtain⟨hsys,hz⟩:=z0;refine aw zq λk hd=>?_;have hlen:=h1.length;have hT:s.TypeIs (.ref d) "dict" := au _ hd rfl;refine p9 (n:=es.length) hT F.slot_dict_len F.entry_dict_len (F.args_dict_len_1 _) (λE' Q' A' hq=>?_) (by lia) (h _ _ (.toks _) ?_)
  ·show wpAny _ _ (dictSize d >>= _) _ _ s;unfold dictSize;refine az (az (wpAny_dictEntries hd rfl (IP ?_)));skip;refine az (wpAny_pendingCount_other hsys ?_);refine az (wpAny_mkInt (IP ?_));simpa using hq
  ·rw[cj];simp only[Jv]at hlen;simp[aq,hlen]
theorem GX:iF C j3 (λv=>PySem.call (.builtin "abs") [v]):=by
 intro n X Pn p s A Q E a v va P hf ha h;revert ha;refine xs12 a (jv hf) λi hf ha=>?_;obtain rfl:=Jd hf;refine aw ha.int λt z0=>?_;subst z0;refine call_abs_int λu tk=>h _ _ (.toks _) ?_;have e:En i=if i<0 then -i else i:=by
  induction i using Int.casesOn with
  | ofNat n=>rw[if_neg (by dsimp only[JH];exact j9 _)];rfl
  | negSucc n=>rw[if_pos (Int.negSucc_lt_zero n)];rfl
 rw[← e];simp[aq]
theorem Ei:cU C kg (λv w=>PySem.call (.builtin "max") [v,w]):=by
 refine .I .no ?_
 ·intro n X Pn p s A Q E x y v va vb P hf ha hb h;obtain rfl:=Jd hf;refine aw ha.int λt z0=>?_;clear ha;subst z0;refine aw hb.int λu z0=>?_;clear hb;subst z0;refine max_two_ints P.room.handled λh' tk hk=>h _ _ ⟨hk,rfl,rfl⟩ ?_;dsimp only[aq];unfold iO;rw[gT];by_cases hxy:y>x
  ·rw[if_pos hxy,decide_eq_true hxy];exact⟨u,rfl⟩
  ·rw[if_neg hxy,decide_eq_false hxy];exact⟨t,rfl⟩
theorem Eh:cU C wi (λv w=>PySem.call (.builtin "min") [v,w]):=by
 refine .I .no ?_
 ·intro n X Pn p s A Q E x y v va vb P hf ha hb h;obtain rfl:=Jd hf;refine aw ha.int λt z0=>?_;clear ha;subst z0;refine aw hb.int λu z0=>?_;clear hb;subst z0;refine min_two_ints P.room.handled λh' tk hk=>h _ _ ⟨hk,rfl,rfl⟩ ?_;dsimp only[aq];unfold DD;rw[gT];by_cases hxy:y<x
  ·rw[if_pos hxy,decide_eq_true hxy];exact⟨u,rfl⟩
  ·rw[if_neg hxy,decide_eq_false hxy];exact⟨t,rfl⟩
theorem Ct:iF C gQ (λv=>PySem.call (.builtin "isinstance") [v,.type "str"]):=by
 intro n X Pn p s A Q E a v va P hf ha h;induction a using V.casesOn<;>(first|exact nS hf|exact fT hf|(dsimp only[gQ]at hf<;>(try obtain rfl:=Jd hf)))
 case str x=>
  refine bY ha.str λy t z0 zz=>?_;clear ha;subst z0;exact IsiPair.str_str (h _ _ .refl (by simp[aq]))
 case tup l=>
  refine aW ha.tup λa vs z0 z1 hl=>?_;clear ha;subst z0;refine ao z1 λhz zq=>?_;refine aw zq λk ht=>?_;exact call_isinstance (isinstance_false_tuple (a:=a) (by decide +kernel) F.isi_meta_str PySem.F.sub_tuple_str) ⟨(au _ ht rfl),h _ _ (.toks _) (by simp[aq])⟩
 case lst l=>
  refine aW ha.lst λa vs z0 z1 hl=>?_;clear ha;subst z0;refine ao z1 λhz zq=>?_;refine aw zq λk ht=>?_;exact call_isinstance (isinstance_false_list (a:=a) (by decide +kernel) F.isi_meta_str PySem.F.sub_list_str) ⟨(au _ ht rfl),h _ _ (.toks _) (by simp[aq])⟩
theorem Ej:iF C d0 (λv=>PySem.call (.type "list") [v]):=by
 intro n X Pn p s A Q E a v va P hf ha h;have hm:most=8000:=rfl;have fin:∀{T:String} {a:I1} {vs:List IZ} {l:List V} {o:Obj} {k:Nat},(T = "list" \/ T = "tuple")->s.heap.get? a=aa o->o.cls=.type T->o.data=.seq vs.toArray k->vs.length<=most->av C X s.heap l vs->v=.lst l->
   wpAny (model C.prog C.w) A (PySem.call (.type "list") [.ref a]) Q E s:=by
  intro T a vs l o k hT ho hc hd hz hl e;clear hf;subst e;refine call_list_seq a hT ho hc hd (λh' c' hk hn=>?_) (by simp[bt];lia);have kp:Kp s { s with heap:=h' }:=⟨hk,rfl,rfl⟩;refine h _ _ kp ?_;dsimp only[aq];exact d8 _ vs rfl (λhx=>aw (P.lt _ hx) λzz ho=>JB _ (Jj ho)) ⟨hz,c',hn⟩ (hl.tr kp.tr)
 induction a using V.casesOn<;>(first|exact nS hf|exact fT hf|(dsimp only[d0,itemsOf]at hf<;>(try obtain rfl:=Jd hf)))
 case tup l=>
  refine aW ha.tup λa vs z0 z1 hl=>?_;clear ha;subst z0;refine ao z1 λhz zq=>?_;refine aw zq λk ht=>?_;exact fin (.inr rfl) ht rfl rfl hz hl rfl
 case lst l=>
  refine aW ha.lst λa vs z0 z1 hl=>?_;clear ha;subst z0;refine ao z1 λhz zq=>?_;refine aw zq λk ht=>?_;exact fin (.inl rfl) ht rfl rfl hz hl rfl
theorem Cs:iF C fW (λv=>PySem.call (.type "tuple") [v]):=by
 intro n X Pn p s A Q E a v va P hf ha h;have hm:most=8000:=rfl;revert ha;refine xs12 a (j6 hf) λl hf ha=>?_;obtain rfl:=Jd hf;refine aW ha.lst λa vs z0 ht hl=>?_;clear ha;subst z0;have hz:=ht.1;refine call_tuple_list ht.isList (λh' hk=>?_) (by simp[bt];lia);have kp:Kp s { s with heap:=h' }:=⟨hk,rfl,rfl⟩;have hP:bp C n X Pn p A { s with heap:=h' }:=
  ⟨P.room,P.stk.ext (kp.nx (Pn:=Pn) P.base).ext P.aE,kp.aE P.aE,P.pnX,(kp.nx (Pn:=Pn) P.base).ext.base,λb hb=>aw (P.lt b hb) λo ho=>⟨o,kp.keep _ _ ho⟩,P.fresh,P.tab.wm kp.keep⟩
 exact h _ _ (kp.trans (.push _)) (aq.pH hP (hl.tr kp.tr) hz)
theorem rB{h:Heap}:∀{l:List V}{r:Bool}{vs:List IZ},ny l=aa r->av C X h l vs->∃bs:List Bool,vs=bs.map Value.bool/\r=bs.any id
 | [],r,vs,e,q=>by
  dsimp only[ny]at e;obtain rfl:=Jd e;dsimp only[av]at q;subst q;exact au ([]) rfl rfl
 | v::l,r,vs,e,q=>by
  dsimp only[av]at q;refine aW q λx rest z0 q1 q2=>?_;clear q;subst z0;induction v using V.casesOn with
  | bool b=>
   dsimp only[aq]at q1;subst q1;refine oc (ny l) (λhl=>?_) λc hl=>?_
   ·simp[ny,hl]at e
   ·
    refine aj (rB hl q2) λbs z0 z1=>?_;clear q2;subst z0;subst z1;refine au (b::bs) rfl ?_;simp only[ny,hl,Je]at e;subst e;induction b using Bool.casesOn<;>rfl
  | _=>simp[ny]at e
set_option tactic.hygienic false
theorem wZ{Q:IZ->IY->Prop}{a:I1}{vs:List IZ}(hl:LstAt s.heap a vs)
  (h:∀s₂:IY,(s₂.heap.IsListIter s.heap.objs.size a 0/\s₂.heap.IsList a vs.toArray)->(∀b∈[s.heap.objs.size,a],b<s₂.heap.objs.size)->a≠s.heap.objs.size->
   (∀h' tk,(∀b o,b∉[s.heap.objs.size]->s₂.heap.get? b=aa o->h'.get? b=aa o)->Kp s { s₂ with heap:=h',toks:=tk })->Q (.ref s.heap.objs.size) s₂):
  wpAny (model C.prog C.w) A (pyIter (.ref a)) Q E s:=by
 have hlt:a<s.heap.objs.size:=by refine ao hl λzz zq=>?_;refine aw zq λn e=>?_;exact Jj e
 refine wpAny_pyIter_list hl.isList (h _ ⟨(aU _ (Jh _ rfl) rfl rfl),hl.isList.push _⟩ (λb hb=>?_) (Jz hlt) λh' tk hk=>⟨λb o e=>hk b o (λq=>?_) (Jg _ e),rfl,rfl⟩)
 ·show b<(s.heap.push _).objs.size;rw[Heap.size_push];simp at hb;rcases hb with rfl|rfl
  ·exact Nat.lt_succ_self _
  ·exact Nat.lt_succ_of_lt hlt
 ·simp at q;subst q;exact JB _ (Jj e)
set_option tactic.hygienic true
theorem GW:iF C anyF (λv=>PySem.call (.builtin "any") [v]):=by
 intro n X Pn p s A Q E a v va P hf ha h;revert ha;refine xs12 a (j6 hf) λl hf ha=>?_;refine aj (iA hf) λr hr z0=>?_;clear hf;subst z0;refine aW ha.lst λa vs z0 ht hl=>?_;clear ha;subst z0;refine aj (rB hr hl) λbs z0 hb=>?_;clear hl;subst z0;refine call_any_walk (wZ ht λs₂ st J hne hkp=>⟨s.heap.objs.size,_,_,(bs.map Value.bool).toArray.size,_,_,λi=>(bs[i]?).getD ag,rfl,Walks.list (A:=A.in1) P.room.handled _ a hne (bs.map Value.bool).toArray,st,λi v s' Q' E' hP hQ=>?_,λh' tk hk=>?_⟩)
 ·simp only[List.getElem?_toArray,List.getElem?_map,Option.map_eq_some_iff]at hP;refine aj hP λq e z0=>?_;clear hP;subst z0;simp only[e,Option.getD_some]at hQ;exact wpAny_truthy_bool hQ
 ·refine h _ _ (hkp h' tk hk) ?_;have e:((List.range (bs.map Value.bool).toArray.size).any λi=>(bs[i]?).getD ag)=bs.any id:=by
   rw[Ju,Jv];exact PyProof.Rows.LSm.range_any bs
  rw[e,hb];simp[aq]
theorem gm{h:Heap}:∀{l:List V}{is:List Int}{vs:List IZ},allInts l=aa is->av C X h l vs->IntsAre vs is
 | [],is,vs,e,q=>by
  dsimp only[allInts]at e;obtain rfl:=Jd e;dsimp only[av]at q;subst q;exact .nil
 | v::l,is,vs,e,q=>by
  dsimp only[av]at q;refine aW q λx rest z0 q1 q2=>?_;clear q;subst z0;induction v using V.casesOn with
  | int i=>
   dsimp only[aq]at q1;refine aw q1 λt z0=>?_;clear q1;subst z0;refine oc (allInts l) (λhl=>?_) λis' hl=>?_
   ·simp[allInts,hl]at e
   ·
    simp only[allInts,hl,Je]at e;subst e;exact .cons _ _ (gm hl q2)
  | _=>simp[allInts]at e
theorem uF:∀(l:List Int)(m:Int),lD l m=m+l.sum
 | [],m=>by simp[lD]
 | i::r,m=>by rw[lD,uF r,jE,List.sum_cons];exact Int.add_assoc _ _ _
theorem GR:iF C sumF (λv=>PySem.call (.builtin "sum") [v]):=by
 intro n X Pn p s A Q E a v va P hf ha h;revert ha;refine xs12 a (j6 hf) λl hf ha=>?_;refine aW ha.lst λa vs z0 ht hl=>?_;clear ha;subst z0;refine oc (allInts l) (λhi=>?_) λis hi=>?_
 ·rw[hi]at hf;exact nS hf
 ·
  rw[hi]at hf;obtain rfl:=Jd hf;have hI:=gm hi hl;refine aw hI.allInts.items λxs hx=>?_;have hl':s.heap.IsList a (intItems xs):=hx▸ht.isList;refine sum_intListG P.room.handled hl' λh' tk t' hk=>h _ _ ⟨hk,rfl,rfl⟩ ?_;have e1:is=xs.toList.map (·.1):=by
   rw[← nums_intItems,← hx];exact(show numsOf vs.toArray.toList=is from hI.numsOf).symm
  have e2:preSum (numAt xs) xs.size=is.sum:=by
   rw[preSum_eq,List.take_of_length_le (by simp),e1]
  rw[e2,uF];simp[aq]
set_option tactic.hygienic false
theorem mV:∀(l:List Int)(m:Int),iu l m∈m::l/\∀a∈m::l,a<=iu l m
 | [],m=>by simp[iu]
 | i::r,m=>by
  have ih:=mV r (iO m i);have e:iO m i=if m<i then i else m:=by
   unfold iO;rw[gT];by_cases h:m<i
   ·rw[decide_eq_true h,if_pos h]
   ·rw[decide_eq_false h,if_neg h]
  show iu r (iO m i)∈_/\∀a∈m::i::r,a<=iu r (iO m i);have hmi:m<=iO m i/\i<=iO m i/\(iO m i=m\/iO m i=i):=by rw[e];split<;>lia
  have h0:=ih.2 (iO m i) (by simp);refine⟨?_,λa ha=>?_⟩
  ·rcases Jx.mp ih.1 with q|q
   ·rw[q];rcases hmi.2.2 with q|q<;>rw[q]<;>simp
   ·exact Jr _ (Jr _ q)
  ·rcases Jx.mp ha with rfl|ha
   ·lia
   ·rcases Jx.mp ha with rfl|ha
    ·lia
    ·exact ih.2 a (Jr _ ha)
theorem BS{a:I1}{vs:List IZ}{i:Int}{r:List Int}(hh:A.handled=ae)(ht:LstAt s.heap a vs)(hI:IntsAre vs (i::r))(h:∀t s',Kp s s'->Q (.int (iu r i) t) s'):
  wpAny (model C.prog C.w) A (PySem.call (.builtin "max") [.ref a]) Q E s:=by
 refine aw hI.allInts.items λxs e=>?_;have hns:i::r=xs.toList.map (·.1):=by rw[← hI.numsOf,← nums_intItems,← e]
 have hlen:(i::r).length=xs.size:=by rw[hns,Jv,Array.length_toList]
 have hl':s.heap.IsList a (intItems xs):=e▸ht.isList;refine max_intList hh hl' (by rw[← hlen];simp) λv h' tk hv hk=>?_;refine aw (intItems_at hv) λt z0=>?_;clear hv;subst z0;refine ao (argBest_gt (numAt xs) (xs.size-1)) λh1 h2=>?_;have hm:=mV r i;have hz:0<xs.size:=by rw[← hlen];simp
 have e1:numAt xs (argBest (λi j=>decide (numAt xs i>numAt xs j)) (xs.size-1))∈i::r:=by
  rw[hns,numAt_eq];exact getD_mem (by rw[Jv,Array.length_toList];omega)
 have e2:=hm.2 _ e1;have e3:iu r i<=numAt xs (argBest (λi j=>decide (numAt xs i>numAt xs j)) (xs.size-1)):=by
  have:=hm.1;rw[hns]at this;refine aj (mem_getD this) λj hj q=>?_;rw[Jv,Array.length_toList]at hj;rw[← q,← numAt_eq];exact h2 j (by omega)
 have e4:numAt xs (argBest (λi j=>decide (numAt xs i>numAt xs j)) (xs.size-1))=iu r i:=by omega
 rw[e4];exact h t _ ⟨hk,rfl,rfl⟩
theorem digits_eq:∀(n:Nat),n<1000->digits 5 n []=(Jf (toString (n:Int))).cps.toList:=by decide +kernel
theorem GS:iF C lF (λv=>PySem.call (.type "str") [v]):=by
 intro n X Pn p s A Q E a v va P hf ha h;induction a using V.casesOn with
 | int i=>
  refine aw ha.int λt z0=>?_;subst z0;induction i using Int.casesOn with
  | ofNat m=>
   refine kY (Nat.blt m 1000) (λhb=>?_) λhb=>?_
   ·simp[lF,hb]at hf
   ·
    simp only[lF,hb,Je]at hf;subst hf;rw[blt_dec,decide_eq_true_eq]at hb;have hlog:(Int.ofNat m).natAbs.log2<1920:=by
     by_cases h0:m=0
     ·clear ha hb h;subst h0;decide
     ·exact(Nat.log2_lt (show(Int.ofNat m).natAbs≠0 from h0)).mpr (JD (show(Int.ofNat m).natAbs<1000 from hb) (JF (show 1000<=2^10 by decide) (Nat.pow_le_pow_right (by decide) (by decide))))
    refine PySem.P.str_of_int hlog (h _ _ (.toks _) ?_);dsimp only[aq];exact gw _ _ rfl ((digits_eq m hb).symm)
  | negSucc m=>simp[lF]at hf
 | _=>simp[lF]at hf
end
theorem mZ(x:Int):∀(l:List Int),(oU x l).Perm (x::l)
 | []=>.refl _
 | y::r=>by
  unfold oU
  split
  ·exact .refl _
  ·exact((mZ x r).cons y).trans (.swap x y r)
set_option tactic.hygienic true
theorem oi(x:Int):∀(l:List Int),l.Pairwise (·<=·)->(oU x l).Pairwise (·<=·)
 | [],_=>by simp[oU]
 | y::r,h=>by
  refine ao (List.pairwise_cons.mp h) λh1 h2=>?_;unfold oU
  split
  ·rename_i hlt;rw[gT,decide_eq_true_eq]at hlt;refine List.pairwise_cons.mpr ⟨λz hz=>?_,h⟩;rcases Jx.mp hz with rfl|hz
   ·lia
   ·have:=h1 z hz;lia
  ·rename_i hlt;rw[gT,decide_eq_false_iff_not]at hlt;refine List.pairwise_cons.mpr ⟨λz hz=>?_,oi x r h2⟩;rcases Jx.mp ((mZ x r).mem_iff.mp hz)with rfl|hz
   ·lia
   ·exact h1 z hz
theorem lH:∀(l:List Int),(lI l).Perm l
 | []=>.refl _
 | x::r=>(mZ x _).trans ((lH r).cons x)
theorem mF:∀(l:List Int),(lI l).Pairwise (·<=·)
 | []=>.nil
 | x::r=>oi x _ (mF r)
theorem vX{l m:List Int}(hp:m.Perm l)(hs:m.Pairwise (·<=·)):m=lI l:=
 List.Perm.eq_of_pairwise (le:=(·<=·)) (λa b J J h1 h2=>Int.le_antisymm h1 h2) hs (mF l) (hp.trans (lH l).symm)
section
variable{X Pn:AP}{s s':IY}{A:I0}{n:Nat}{p:List V}{Q E:IZ->IY->Prop}
theorem ints_rep{h:Heap}{vs:List IZ}{ns:List Int}(q:IntsAre vs ns):av C X h (ns.map .int) vs:=by
 induction q with
 | nil=>exact .nil
 | cons x t r ih=>exact .cons (by simp[aq]) ih
set_option tactic.hygienic false
theorem pq{src:IZ}{vs:List IZ}{Good:Array IZ->Prop}(hcol:∀(Q':List IZ->IY->Prop)(A':I0)(E':IZ->IY->Prop),A'.units<=A.units+10->A'.handled=A.handled->(∀s',Kp s s'->Q' vs s')->wpAny (model C.prog C.w) A' (collect src) Q' E' s)(h64:vs.length<64)
  (hsort:∀(n:Nat) (s:IY) (a:I1) (A':I0) (P:Fin->IY->Prop) (E':IZ->IY->Prop),s.heap.get? a=aa (seqObj "list" vs.toArray n)->(∀out,Good out->P (.done (.ret .none)) { s with heap:=sortedHeap s.heap a vs out })->wpAny (model C.prog C.w) A' (Builtin.«list.sort» ⟨[.ref a],[]⟩) P E' s)
  (h:∀a s' out e,Good out->Kp s s'->s.heap.get? a=ae->s'.heap.get? a=aa (seqObj "list" out e)->Q (.ref a) s'):wpAny (model C.prog C.w) A (PySem.call (.builtin "sorted") [src]) Q E s:=by
 refine Calls.call_function_entry kind_sorted plain_sorted entry_sorted (args_sorted1 _) ?_;unfold Builtin.«sorted»;refine az (m:=checkCount "sorted" 1 1 _) (IP ?_);refine az (hcol _ A.in1 _ (by show A.units+1<=_;lia) rfl λs₁ k₁=>?_);refine az (wpAny_newList ?_);have hoL:(s₁.heap.push (seqObj "list" vs.toArray 0)).get? s₁.heap.objs.size=aa (seqObj "list" vs.toArray 0):=Jh _ rfl;skip;refine az (IS (IU slot_list_sort (au _ hoL rfl) entry_list_sort (hsort 0 { s₁ with heap:=s₁.heap.push (seqObj "list" vs.toArray 0) } _ _ _ _ hoL λout hg=>au _ rfl ?_) (args_list_sort _)));refine aw (sortedHeap_at (h:=s₁.heap.push (seqObj "list" vs.toArray 0)) (a:=s₁.heap.objs.size) (vs:=vs) (out:=out) hoL) λe he=>?_;refine IP (au _ rfl (h s₁.heap.objs.size _ out e hg ⟨λb o eb=>?_,k₁.gens,k₁.os⟩ ?_ he))
 ·have eb:=k₁.keep b o eb;have hlt:=Jj eb;rw[sortedHeap_old (Jz hlt) (by rw[size_push'];exact Nat.lt_succ_of_lt hlt)];exact Jg _ eb
 ·induction q:s.heap.get? s₁.heap.objs.size using Option.casesOn with
  | none=>rfl
  | some o=>have:=Jj (k₁.keep _ _ q);exact absurd this (JB _)
theorem zv{a:I1}{vs:List IZ}(hl:LstAt s.heap a vs)(Q':List IZ->IY->Prop)(A':I0)(E':IZ->IY->Prop)(h:∀s',Kp s s'->Q' vs s'):wpAny (model C.prog C.w) A' (collect (.ref a)) Q' E' s:=by
 have hm:most=8000:=rfl;refine collect_list hl.isList (h _ ⟨λb o eb=>?_,rfl,rfl⟩) (by have:=hl.1;refine rwl bt ?_;lia);refine rwl (Heap.get?_update_ne _ _ _ _ (Jz (Jj eb))) ?_;exact Jg _ eb
theorem yt{src:IZ}{vs:List IZ}{ns:List Int}(P:bp C n X Pn p A s)(hI:IntsAre vs ns)(h64:vs.length<64)(hcol:∀(Q':List IZ->IY->Prop)(A':I0)(E':IZ->IY->Prop),A'.units<=A.units+10->A'.handled=A.handled->(∀s',Kp s s'->Q' vs s')->wpAny (model C.prog C.w) A' (collect src) Q' E' s)
  (h:∀val s',Kp s s'->aq C X s'.heap (.lst ((lI ns).map .int)) val->Q val s'):wpAny (model C.prog C.w) A (PySem.call (.builtin "sorted") [src]) Q E s:=by
 refine pq (Good:=λout=>∃ns',IntsAre out.toList ns'/\ns'.Perm ns/\ns'.Pairwise (·<=·)) hcol h64 (λn s a A' P' E' ho hP=>list_sort_tree ho hI h64 λout ns' a1 a2 a3=>hP out (aU ns' a1 a2 a3)) λa s' out e hg k hn he=>?_;refine aQ hg λns' a1 a2 a3=>?_;have e':=vX a2 a3;clear a2 a3;subst e';have hXa:¬X a:=λq=>by refine aw (P.lt a q) λo eo=>?_;simp only[hn]at eo;exact nS eo
 have hr:=ints_rep (X:=X) (h:=s'.heap) a1;have hlen:=hr.length;refine h _ s' k ?_;simp only[aq];refine d8 a out.toList rfl hXa ⟨?_,e,he⟩ hr;have h1:(lI ns).length=ns.length:=(lH ns).length_eq;have h2:vs.length=ns.length:=by have:=(ints_rep (X:=X) (h:=s.heap) hI).length;simpa using this
 simp only[hlen,Jv,h1,← h2];show _<=8000;lia
theorem mY(x:List Nat):∀(l:List (List Nat)),(oS x l).Perm (x::l)
 | []=>.refl _
 | y::r=>by
  unfold oS
  split
  ·exact .refl _
  ·exact((mY x r).cons y).trans (.swap x y r)
set_option tactic.hygienic true
theorem oh(x:List Nat):∀(l:List (List Nat)),l.Pairwise (·<=·)->(oS x l).Pairwise (·<=·)
 | [],_=>by simp[oS]
 | y::r,h=>by
  refine ao (List.pairwise_cons.mp h) λh1 h2=>?_;unfold oS
  split
  ·rename_i hlt;rw[kc,decide_eq_true_eq]at hlt;have hxy:x<=y:=List.le_of_lt hlt;refine List.pairwise_cons.mpr ⟨λz hz=>?_,h⟩;rcases Jx.mp hz with rfl|hz
   ·exact hxy
   ·exact List.le_trans hxy (h1 z hz)
  ·rename_i hlt;rw[kc,decide_eq_false_iff_not]at hlt;refine List.pairwise_cons.mpr ⟨λz hz=>?_,oh x r h2⟩;rcases Jx.mp ((mY x r).mem_iff.mp hz)with rfl|hz
   ·exact hlt
   ·exact h1 z hz
theorem pz:∀(l:List (List Nat)),(lG l).Perm l
 | []=>.refl _
 | x::r=>(mY x _).trans ((pz r).cons x)
theorem mE:∀(l:List (List Nat)),(lG l).Pairwise (·<=·)
 | []=>.nil
 | x::r=>oh x _ (mE r)
theorem vW{l m:List (List Nat)}(hp:m.Perm l)(hs:m.Pairwise (·<=·)):m=lG l:=
 List.Perm.eq_of_pairwise (le:=(·<=·)) (λa b J J h1 h2=>List.le_antisymm h1 h2) hs (mE l) (hp.trans (pz l).symm)
set_option tactic.hygienic false
theorem qZ:∀(ss:List Str)(p:Str),risingS p ss=af->((p::ss).map λx=>x.cps.toList).Pairwise (·<=·)
 | [],p,_=>by simp
 | x::r,p,h=>by
  unfold risingS at h;simp only[Jn]at h;have ih:=qZ r x h.2;have hpx:p.cps.toList<=x.cps.toList:=by
   have:=h.1;simp only[ltCps_eq]at this;simpa using this
  simp only[List.map_cons];refine List.pairwise_cons.mpr ⟨λz hz=>?_,ih⟩;simp only[List.map_cons]at hz ih;rcases Jx.mp hz with rfl|hz
  ·exact hpx
  ·exact List.le_trans hpx ((List.pairwise_cons.mp ih).1 z hz)
theorem vV:∀(ss:List Str),sortedS ss=af->(ss.map λx=>x.cps.toList).Pairwise (·<=·)
 | [],_=>.nil
 | x::r,h=>qZ r x h
theorem sk{h:Heap}{vs:List IZ}{ss:List Str}(q:StrsAre vs ss):av C X h (ss.map λx=>.str x.cps.toList) vs:=by
 induction q with
 | nil=>exact .nil
 | cons x t r ih=>exact .cons (by simp only[aq];exact gw x t rfl rfl) ih
theorem nz{h:Heap}:∀{l:List V}{is:List (List Nat)}{vs:List IZ},allStrs l=aa is->av C X h l vs->∃ss,StrsAre vs ss/\ss.map (λx=>x.cps.toList)=is
 | [],is,vs,e,r=>by simp only[av]at r;subst r;obtain rfl:=Jd e;exact au ([]) .nil rfl
 | v::l,is,vs,e,r=>by
  simp only[av]at r;refine aW r λx q z0 h1 h2=>?_;clear r;subst z0;induction v using V.casesOn with
  | str a=>
   unfold allStrs at e;refine oc (allStrs l) (λha=>?_) λm ha=>?_
   ·rw[ha]at e;exact nS e
   ·
    rw[ha]at e;obtain rfl:=Jd e;refine aj (nz ha h2) λss g1 g2=>?_;simp only[aq]at h1;refine bY h1 λy t z0 z1=>?_;clear h1;subst z0;clear e;subst z1;exact au (y::ss) (.cons y t g1) (by rw[List.map_cons,g2])
  | _=>exact nS e
theorem yr{src:IZ}{vs:List IZ}{ss:List Str}(P:bp C n X Pn p A s)(hI:StrsAre vs ss)(h64:vs.length<64)(hcol:∀(Q':List IZ->IY->Prop)(A':I0)(E':IZ->IY->Prop),A'.units<=A.units+10->A'.handled=A.handled->(∀s',Kp s s'->Q' vs s')->wpAny (model C.prog C.w) A' (collect src) Q' E' s)
  (h:∀val s',Kp s s'->aq C X s'.heap (.lst ((lG (ss.map λx=>x.cps.toList)).map .str)) val->Q val s'):wpAny (model C.prog C.w) A (PySem.call (.builtin "sorted") [src]) Q E s:=by
 refine pq (Good:=λout=>∃ss',StrsAre out.toList ss'/\ss'.Perm ss/\sortedS ss'=af) hcol h64 (λn s a A' P' E' ho hP=>list_sort_treeK strKind_oneLt ho hI.keysOf (λv1 v2 rest e=>keyKind_strs (by refine rwl e.symm ?_;exact hI)) h64 λst' hp hs=>by
  refine aQ (sorted_out_str hI hp hs) λss' h1 h2 h3=>?_;exact hP _ (aU ss' h1 h2 h3)) λa s' out e hg k hn he=>?_
 refine aQ hg λss' a1 a2 a3=>?_;have e':=vW (a2.map λx=>x.cps.toList) (vV _ a3);have hXa:¬X a:=λq=>by refine aw (P.lt a q) λo eo=>?_;replace eo:=hn▸eo;exact nS eo
 have hr:=sk (X:=X) (h:=s'.heap) a1;have hlen:=hr.length;have er:(ss'.map λx=>V.str x.cps.toList)=(lG (ss.map λx=>x.cps.toList)).map .str:=by refine rwl e'.symm (rwl List.map_map ?_);rfl
 rw[er]at hr;refine h _ s' k ?_;simp only[aq];refine d8 a out.toList rfl hXa ⟨?_,e,he⟩ hr;have h2:vs.length=ss.length:=by have:=(sk (X:=X) (h:=s.heap) hI).length;simpa using this
 rw[hlen,Jv,a2.length_eq,← h2];show _<=8000;lia
end
set_option tactic.hygienic false
section
variable{prog:Program}{w:World}{A:I0}{E:IZ->IY->Prop}{s:IY}
theorem tm{d:I1}{es:List I2}{ep:Nat}{Q:IZ->IY->Prop}(hd:(d==sysModules)=ag)(ho:s.heap.get? d=aa (dH es ep))
  (hQ:Q (.ref s.heap.objs.size) { s with heap:=s.heap.push { cls:=.type "dict_keyiterator",data:=.fields #[.ref d,.int 0 0,.int es.length 0,.int ep 0] } }):
  wpAny (model prog w) A (pyIter (.ref d)) Q E s:=by
 have hT:s.TypeIs (.ref d) "dict" := au _ ho rfl;refine wpAny_pyIter_slot hT F.slot_dict_iter (IU F.slot_dict_iter hT F.entry_dict_iter ?_ (F.args_dict_iter_1 _));unfold Builtin.«dict.__iter__»;refine az ?_;unfold Builtin.Dict.dictSlotNone;refine az (wpAny_notOrdered_dict hT ?_);show wpAny _ _ (pure (Value.ref d)) _ _ s;refine IP ?_;show wpAny _ _ (Builtin.Dict.showsAll d >>= _) _ _ s;unfold Builtin.Dict.showsAll;refine rwl (if_neg (by rw[hd];exact Bool.false_ne_true)) ?_;refine az (IP ?_);refine az (wpAny_dictEntries ho rfl ?_);refine az (wpAny_dictEpoch ho rfl ?_);refine az (wpAny_newObj_type (IP (au _ rfl ⟨"dict_keyiterator",_,(au _ (Jh _ rfl) rfl),F.slot_dict_keyiterator_next.lookup,?_⟩)));simpa [rawInt]using hQ
theorem xG{it d:I1}{i ep:Nat}{es:List I2}{e:I2}{Q:Option IZ->IY->Prop}(hit:s.heap.IsKeyIter it d i es.length ep)
  (hod:s.heap.get? d=aa (dH es ep)) (hx:es[i]?=aa e)
  (hQ:∀h',h'.IsKeyIter it d (i+1) es.length ep->Jk it s.heap h'->Q (aa e.key) { s with heap:=h' }):
  wpAny (model prog w) A (pyNext (.ref it)) Q E s:=by
 refine aQ (id hit) λo ho hc hd=>?_;unfold pyNext;refine az (wpAny_attempt (wpAny_callSpecial?_slot (name:=Jf "__next__") hit.typeIs F.slot_dict_keyiterator_next
  (IU F.slot_dict_keyiterator_next hit.typeIs F.entry_dict_keyiterator_next ?_ (F.args_dict_keyiterator_next_1 _))))
 refine az (IP ?_);refine IQ ?_;refine IQ ?_
 first|refine IQ (wpAny_typeNameOfWhole_keyiter hit.typeIs (IP ?_))|refine IQ (wpAny_typeNameOf_keyiter hit.typeIs (IP ?_))
 refine IQ (wpAny_fieldsOf ho hd ?_);have hown:Builtin.Dict_items.ownsTuple "dict_keyiterator" = ag:=by decide
 dsimp only[hown,Jo,if_false];show wpAny _ _ (if (Value.ref d==Value.none)=af then _ else _) _ _ s
 refine eU (show ¬((Value.ref d==Value.none)=af) from Bool.false_ne_true) ?_;refine IQ (IP ?_);refine IQ (wpAny_dictEntries hod rfl ?_);refine eU (by simp) ?_;refine IQ (IP ?_);refine IQ (wpAny_dictEpoch hod rfl ?_);refine eU (by simp) ?_;refine IP ?_;have hga:es.toArray[i]?=aa e:=by simpa using hx
 simp only[show ¬((i:Int)<0) from by exact j9 _,if_false,Int.toNat_natCast,hga];refine az ?_
 first|refine az (wpAny_typeNameOfWhole_keyiter hit.typeIs (IP ?_))|refine az (wpAny_typeNameOf_keyiter hit.typeIs (IP ?_))
 refine az (wpAny_isOneOf_keyiter hit.typeIs ?_);show wpAny _ _ (setField (.ref it) 1 (rawInt ((i:Int)+1)) >>= _) _ _ s;refine az (wpAny_setField ho hd (by simp) ?_);have hit':(s.heap.update it (Obj.mapFields (·.setIfInBounds 1 (rawInt ((i:Int)+1))))).IsKeyIter it d (i+1) es.length ep:=
  (aU _ (Ji _ ho (Obj.isFreed_of_fields (Obj.data_mapFields hd _))) ((Obj.cls_mapFields ..).trans hc) (by rw[Obj.data_mapFields hd];simp[rawInt]))
 refine az (IS ?_);refine az (wpAny_isOneOf_keyiter (s:={ s with heap:=s.heap.update it (Obj.mapFields (·.setIfInBounds 1 (rawInt ((i:Int)+1)))) }) hit'.typeIs ?_);skip;exact IP (IP (au _ rfl (IP (hQ _ hit' (Jl ..)))))
theorem y5{it d:I1}{i ep:Nat}{es:List I2}{Q:Option IZ->IY->Prop}(hh:A.handled=ae)(hit:s.heap.IsKeyIter it d i es.length ep)
  (hod:s.heap.get? d=aa (dH es ep)) (hx:es[i]?=ae)
  (hQ:∀h',Heap.ExtBut it s.heap h'->Q ae { s with heap:=h' }):wpAny (model prog w) A (pyNext (.ref it)) Q E s:=by
 refine aQ (id hit) λo ho hc hd=>?_;unfold pyNext;refine az (wpAny_attempt (wpAny_callSpecial?_slot (name:=Jf "__next__") hit.typeIs F.slot_dict_keyiterator_next
  (IU F.slot_dict_keyiterator_next hit.typeIs F.entry_dict_keyiterator_next ?_ (F.args_dict_keyiterator_next_1 _))))
 refine az (IP ?_);refine IQ ?_;refine IQ ?_
 first|refine IQ (wpAny_typeNameOfWhole_keyiter hit.typeIs (IP ?_))|refine IQ (wpAny_typeNameOf_keyiter hit.typeIs (IP ?_))
 refine IQ (wpAny_fieldsOf ho hd ?_);have hown:Builtin.Dict_items.ownsTuple "dict_keyiterator" = ag:=by decide
 dsimp only[hown,Jo,if_false];show wpAny _ _ (if (Value.ref d==Value.none)=af then _ else _) _ _ s
 refine eU (show ¬((Value.ref d==Value.none)=af) from Bool.false_ne_true) ?_;refine IQ (IP ?_);refine IQ (wpAny_dictEntries hod rfl ?_);refine eU (by simp) ?_;refine IQ (IP ?_);refine IQ (wpAny_dictEpoch hod rfl ?_);refine eU (by simp) ?_;refine IP ?_;have hga:es.toArray[i]?=ae:=by simpa using hx
 simp only[show ¬((i:Int)<0) from by exact j9 _,if_false,Int.toNat_natCast,hga];refine az ?_
 first|refine az (wpAny_typeNameOfWhole_keyiter hit.typeIs (IP ?_))|refine az (wpAny_typeNameOf_keyiter hit.typeIs (IP ?_))
 show wpAny _ _ (setField (.ref it) 0 .none >>= _) _ _ s;refine az (wpAny_setField ho hd (by simp) ?_);skip;refine az ?_;dsimp only[newExc,newTuple];refine az (wpAny_newObj_type ?_ (by size_fits));refine az (m:=firstArgMember _ _) (wpAny_of_eq (a:=Value.none) (by first|rfl|(dsimp only[firstArgMember];rfl)) ?_)
 refine wpAny_newObj_type ?_ (by size_fits);dsimp only[raiseNew];refine az (wpAny_handled ?_);refine rwl (show A.in1.handled=ae from hh) ?_;refine az (IP (wpAny_throw ?_));refine az (wpAny_isInstance (T := "StopIteration") (b:=af) (au _ (Jh _ rfl) rfl) isSubtype_stop ?_);exact IP (hQ _ (((Jl ..).extBut.push _).push _))
end
section
variable{prog:Program}{w:World}{A:I0}{E:IZ->IY->Prop}{s:IY}
theorem pf(hh:A.handled=ae)(I d:I1)(hne:d≠I)(es:List I2)(ep:Nat):
  Walks prog w A I [I,d] [I] es.length (λi v=>(es.map (·.key))[i]?=aa v) (λi h=>h.IsKeyIter I d i es.length ep/\h.get? d=aa (dH es ep)) where
 sub:=λb hb=>by simp at hb;simp[hb]
 frame:=λJ J J st hk=>⟨st.1.at λo e=>hk I (by simp) o e,hk d (by simp) _ st.2⟩
 item:=λi s Q E hi st hQ=>by
  have hx:es[i]?=aa es[i]:=by simp[hi]
  refine xG st.1 st.2 hx λh' hit' hs'=>?_;exact hQ _ h' s.toks (by simp[hi]) ⟨hit',hs'.extBut d _ hne st.2⟩ λb o hb e=>hs'.extBut b o (λh=>hb (by simp[h])) e
 done:=λs Q E st hQ=>y5 hh st.1 st.2 (by simp) λh' he'=>hQ h' s.toks λb o hb e=>he' b o (λh=>hb (by simp[h])) e
 self:=λJ J J J st hQ=>wpAny_pyIter_keyiter st.1 hQ
theorem xM{vs:List IZ}{acc:Array IZ}(h:ItemsOf (λi v=>vs[i]?=aa v) acc vs.length):acc.toList=vs:=by
 refine ao h λh1 h2=>?_;refine List.ext_getElem? λi=>?_;refine rwl (Array.getElem?_toList) ?_;cases q:acc[i]? with
 | some v=>exact(h2 i v q).symm
 | none=>rw[Array.getElem?_eq_none_iff]at q;rw[List.getElem?_eq_none (h1▸q)]
theorem uy{d:I1}{es:List I2}{Q:List IZ->IY->Prop}(hh:A.handled=ae)(hd:eO s.heap d es)(h:∀s',Kp s s'->Q (es.map (·.key)) s'):
  wpAny (model prog w) A (collect (.ref d)) Q E s:=by
 refine ao hd λz0 zq=>?_;obtain⟨hsys,hz⟩:=z0;refine aw zq λep ho=>?_;have hm:most=8000:=rfl;unfold collect;refine az (wpAny_runValue (I9 F.entry_proto_collect ?_));refine rwl (Around.under_plainId F.plain_proto_collect _) ?_;skip;refine az (wpAny_newObj_type ?_);refine IP ⟨plainId_quiet F.plain_list_iadd _,I9 F.entry_list_iadd ?_⟩;refine rwl (Around.under_plainId F.plain_list_iadd _) ?_;have hdS:d<s.heap.objs.size:=Jj ho;have gX:(s.heap.push { cls:=.type "list",data:=.seq ([]:List IZ).toArray }).get? d=aa (dH es ep):=Jg _ ho;have hS1:(s.heap.push { cls:=.type "list",data:=.seq ([]:List IZ).toArray }).get? s.heap.objs.size=aa { cls:=.type "list",data:=.seq ([]:List IZ).toArray }:=Jh _ rfl;have hT1:Shared.TypeIs { s with heap:=s.heap.push { cls:=.type "list",data:=.seq ([]:List IZ).toArray } } (.ref d) "dict" := au _ gX rfl;have hz1:(s.heap.push { cls:=.type "list",data:=.seq ([]:List IZ).toArray }).objs.size=s.heap.objs.size+1:=Heap.size_push _ _;have hk1:∀b o,s.heap.get? b=aa o->(s.heap.push { cls:=.type "list",data:=.seq ([]:List IZ).toArray }).get? b=aa o:=λb o e=>Jg _ e;generalize hh1:s.heap.push { cls:=.type "list",data:=.seq ([]:List IZ).toArray }=aT at *;show wpAny _ A.in1 (Builtin.List.listExtendWith (.ref s.heap.objs.size) (.ref d) (.ref s.heap.objs.size)) _ _ _;unfold Builtin.List.listExtendWith;refine IQ (wpAny_typeOf hT1 ?_);have h1:Builtin.List.listSameRef (.ref s.heap.objs.size) (.ref d)=ag:=by show(s.heap.objs.size==d)=ag;rw[beq_eq_false_iff_ne];exact Nat.ne_of_gt hdS
 refine eU (by rw[h1];decide) ?_;refine az (tm (s:={ s with heap:=aT }) hsys gX ?_);have hSI:s.heap.objs.size<aT.objs.size:=by refine rwl hz1 ?_;exact Nat.lt_succ_self _
 have hdI:d≠aT.objs.size:=Jz (Nat.lt_trans hdS hSI);skip;have hI2:(aT.push { cls:=.type "dict_keyiterator",data:=.fields #[.ref d,.int 0 0,.int es.length 0,.int ep 0] }).IsKeyIter aT.objs.size d 0 es.length ep:=aU _ (Jh _ rfl) rfl rfl;have iV:(aT.push { cls:=.type "dict_keyiterator",data:=.fields #[.ref d,.int 0 0,.int es.length 0,.int ep 0] }).get? d=aa (dH es ep):=Jg _ gX;have hS2:(aT.push { cls:=.type "dict_keyiterator",data:=.fields #[.ref d,.int 0 0,.int es.length 0,.int ep 0] }).get? s.heap.objs.size=aa { cls:=.type "list",data:=.seq ([]:List IZ).toArray }:=Jg _ hS1;have km:∀b o,s.heap.get? b=aa o->(aT.push { cls:=.type "dict_keyiterator",data:=.fields #[.ref d,.int 0 0,.int es.length 0,.int ep 0] }).get? b=aa o:=λb o e=>Jg _ (hk1 b o e);generalize aT.push { cls:=.type "dict_keyiterator",data:=.fields #[.ref d,.int 0 0,.int es.length 0,.int ep 0] }=bS at *;have hT2:Shared.TypeIs { s with heap:=bS } (.ref d) "dict" := au _ iV rfl;refine az (IS ?_);unfold Builtin.List.listLengthHint;refine IQ (wpAny_specialOf hT2 F.slot_dict_len.lookup ?_);(generalize hid:("dict.__len__" : String)=id0;(fail_if_success (clear hid id0));wp_delta;refine rwl (show splitId id0=aa ("dict","__len__") from by subst hid;decide +kernel) ?_;subst hid);refine az (wpAny_isInstance (b:=af) hT2 (by rw[isSubtype_type];kernel_rfl) ?_);skip;refine az (wpAny_typeOf hT2 ?_);refine IP ?_;show wpAny _ A.in1 (rule "list.extend.makes-room" >>= λJ=>Builtin.List.listTouch (.ref s.heap.objs.size) >>= λJ=>
  again (.builtin "list.extend.loop" ⟨[.ref s.heap.objs.size,.ref aT.objs.size,.ref s.heap.objs.size],[]⟩)) _ _ _
 refine az (wpAny_rule ?_);refine az ?_;skip;refine az (wpAny_updateSeq hS2 rfl ?_);have hS3:=Ji (Obj.mapSeq (·.push Value.none)) hS2 rfl;refine wpAny_updateSeq hS3 rfl ?_;have hS4:=Ji (Obj.mapSeq (·.pop)) hS3 rfl;have oth:∀b o,b≠s.heap.objs.size->bS.get? b=aa o->((bS.update s.heap.objs.size (Obj.mapSeq (·.push Value.none))).update s.heap.objs.size (Obj.mapSeq (·.pop))).get? b=aa o:=
  λb o hb e=>(Heap.get?_update_other _ _ (Ne.symm hb)).trans ((Heap.get?_update_other _ _ (Ne.symm hb)).trans e)
 have W:=(pf (prog:=prog) (w:=w) (A:=A.in1) (by exact hh) aT.objs.size d hdI es ep).toS;refine IP ⟨plainId_quiet F.plain_extend_loop _,codeAny_extend_loopS W (by refine rwl bt ?_;lia) _ (λq=>by rcases Jx.mp q with q|q;exact absurd q (Jz hSI);exact absurd (List.mem_singleton.mp q) (Nat.ne_of_gt hdS)) _ es.length 0 _ _ _ rfl (JC _)
  ⟨hI2.at λo e=>oth _ _ (Nat.ne_of_gt hSI) e,oth _ _ (Jz hdS) iV⟩ hS4 (ItemsOf.nil _) λs' acc' c' hm' hS' hacc=>?_⟩
 skip;refine az (IW hS' ?_);have he:acc'.toList=es.map (·.key):=xM (by simpa using hacc);refine IP ?_;skip;refine rwl he ?_;refine h s' ⟨λb o e=>hm'.heap b o ?_ (oth b o (Jz (Jj e)) (km b o e)),hm'.gens,hm'.os⟩;have hb:=Jj e;exactλq=>by rcases Jx.mp q with q|q;exact absurd q (Jz hb);exact absurd (List.mem_singleton.mp q) (Jz (Nat.lt_trans hb hSI))
end
section
variable{X Pn:AP}{s s':IY}{A:I0}{n:Nat}{p:List V}{Q E:IZ->IY->Prop}
set_option tactic.hygienic true
theorem sv{src:IZ}{vs:List IZ}{l r:List V}(P:bp C n X Pn p A s)(hR:av C X s.heap l vs)(hs:rN l=aa r)(hcol:∀(Q':List IZ->IY->Prop)(A':I0)(E':IZ->IY->Prop),A'.units<=A.units+10->A'.handled=A.handled->(∀s',Kp s s'->Q' vs s')->wpAny (model C.prog C.w) A' (collect src) Q' E' s)
  (h:∀val s',Kp s s'->aq C X s'.heap (.lst r) val->Q val s'):wpAny (model C.prog C.w) A (PySem.call (.builtin "sorted") [src]) Q E s:=by
 unfold rN at hs;have hl:=hR.length
 split at hs
 ·exact nS hs
 ·rename_i hsh;have h64:vs.length<64:=by have:=dg hsh;omega
  split at hs
  ·rename_i hi;obtain rfl:=Jd hs;exact yt P (gm hi hR) h64 hcol h
  ·split at hs
   ·rename_i hi;obtain rfl:=Jd hs;refine aj (nz hi hR) λss h1 z0=>?_;clear hi hs;subst z0;exact yr P h1 h64 hcol h
   ·exact nS hs
theorem zD:iF C iI (λv=>PySem.call (.builtin "sorted") [v]):=by
 intro n X Pn p s A Q E a v va P hf ha h;induction a using V.casesOn<;>(first|exact nS hf|exact fT hf|(dsimp only[iI]at hf<;>(try cases hf)))
 case lst l=>
  refine aW ha.lst λa vs z0 ht hl=>?_;clear ha;subst z0
  split at hf
  ·rename_i hs;obtain rfl:=Jd hf;exact sv P hl hs (λQ' A' E' J J hq=>zv ht Q' A' E' hq) h
  ·exact nS hf
 case bh ks xs=>
  refine jH ha.bh λd es z0 hd h1 zz zz zz=>?_;clear ha;subst z0
  split at hf
  ·rename_i hs;obtain rfl:=Jd hf;exact sv P h1 hs (λQ' A' E' J hh hq=>uy (by refine rwl hh ?_;exact P.room.handled) hd hq) h
  ·exact nS hf
set_option tactic.hygienic false
theorem BU{d:I1}{es:List I2}{i:Int}{r:List Int}(hh:A.handled=ae)(hd:eO s.heap d es)(hI:IntsAre (es.map (·.key)) (i::r))(h:∀t s',Kp s s'->Q (.int (iu r i) t) s'):
  wpAny (model C.prog C.w) A (PySem.call (.builtin "max") [.ref d]) Q E s:=by
 refine ao hd λz0 zq=>?_;refine ao z0 λhsys hz=>?_;refine aw zq λep ho=>?_;refine aw hI.allInts.items λxs e=>?_;have hns:i::r=xs.toList.map (·.1):=by simp only[← hI.numsOf,← nums_intItems,← e]
 have hlen:(i::r).length=xs.size:=by simp only[hns,Jv,Array.length_toList]
 have hel:es.length=xs.size:=by simp only[← Array.size_map (f:=λp:Int×Tok=>Value.int p.1 p.2),show xs.map (λp=>Value.int p.1 p.2)=(es.map (·.key)).toArray from e.symm];simp
 have hat:∀j v,(es.map (·.key))[j]?=aa v->∃t,v=Value.int (numAt xs j) t:=λj v q=>intItems_at (by simp only[← e];simpa using q);have hlt:d<s.heap.objs.size:=Jj ho;refine call_max_walk (tm hsys ho ⟨s.heap.objs.size,_,_,_,_,_,_,rfl,pf (A:=A.in1) hh _ d (Jz hlt) es ep,⟨(aU _ (Jh _ rfl) rfl rfl),Jg _ ho⟩,λb hb=>?_,by simp only[hel,← hlen];simp,CmpOf.ints_gt (numAt xs) hat,λv h' tk hP hk=>?_⟩)
 ·show b<(s.heap.push _).objs.size;simp only[Heap.size_push];rcases Jx.mp hb with rfl|hb
  ·exact Nat.lt_succ_self _
  ·simp only[List.mem_singleton.mp hb];exact Nat.lt_succ_of_lt hlt
 ·refine xs11 v (hat _ _ hP) λt=>?_;simp only[hel];refine ao (argBest_gt (numAt xs) (xs.size-1)) λh1 h2=>?_;have hm:=mV r i;have hz:0<xs.size:=by simp only[← hlen];simp
  have e1:numAt xs (argBest (λi j=>decide (numAt xs i>numAt xs j)) (xs.size-1))∈i::r:=by
   rw[hns,numAt_eq];exact getD_mem (by rw[Jv,Array.length_toList];omega)
  have e2:=hm.2 _ e1;have e3:iu r i<=numAt xs (argBest (λi j=>decide (numAt xs i>numAt xs j)) (xs.size-1)):=by
   have:=hm.1;simp only[hns]at this;refine aj (mem_getD this) λj hj q=>?_;simp only[Jv,Array.length_toList]at hj;simp only[← q,← numAt_eq];exact h2 j (by omega)
  have e4:numAt xs (argBest (λi j=>decide (numAt xs i>numAt xs j)) (xs.size-1))=iu r i:=by omega
  simp only[e4];refine h t _ ⟨λb o e=>hk b o (λq=>?_) (Jg _ e),rfl,rfl⟩;simp only[List.mem_singleton.mp q]at e;exact absurd (Jj e) (JB _)
set_option tactic.hygienic true
theorem GU:iF C qz (λv=>PySem.call (.builtin "max") [v]):=by
 intro n X Pn p s A Q E a v va P hf ha h;induction a using V.casesOn<;>(first|exact nS hf|exact fT hf|(dsimp only[qz]at hf<;>(try cases hf)))
 case lst l=>
  refine aW ha.lst λa vs z0 ht hl=>?_;clear ha;subst z0
  split at hf
  ·rename_i hi;obtain rfl:=Jd hf;exact BS P.room.handled ht (gm hi hl) λt s' k=>h _ _ k (by simp[aq])
  ·exact nS hf
 case bh ks xs=>
  refine jH ha.bh λd es z0 hd h1 zz zz zz=>?_;clear ha;subst z0
  split at hf
  ·rename_i hi;obtain rfl:=Jd hf;exact BU P.room.handled hd (gm hi h1) λt s' k=>h _ _ k (by simp[aq])
  ·exact nS hf
end
theorem G3{P:Nat->Prop}(h0:P 0)(h1:P 1)(h2:P 2)(h3:P 3)(h4:P 4)(h5:P 5)(h6:P 6)(h7:P 7)(h8:P 8)(h9:P 9)(h10:P 10)(h11:P 11)(h12:P 12)(h13:P 13)(h14:P 14)(h15:P 15)(hk:∀k,P (k+16))(j:Nat):P j:=
 match j with
 | 0=>h0|1=>h1|2=>h2|3=>h3|4=>h4|5=>h5|6=>h6|7=>h7|8=>h8|9=>h9|10=>h10|11=>h11|12=>h12|13=>h13|14=>h14|15=>h15|k+16=>hk k
noncomputable def kT(ρ:Fr):List Slot:=[ρ.s0,ρ.s1,ρ.s2,ρ.s3,ρ.s4,ρ.s5,ρ.s6,ρ.s7,ρ.s8,ρ.s9,ρ.s10,ρ.s11,ρ.s12,ρ.s13,ρ.s14,ρ.s15]
theorem nG(ρ:Fr)(j:Nat):aJ j ρ=(kT ρ)[j]?.getD .undef:=by
 apply G3 (P:=λj=>aJ j ρ=(kT ρ)[j]?.getD .undef)<;>first|rfl|exactλJ=>rfl
theorem kS(ρ:Fr)(v:Slot)(j:Nat):kT (sets j ρ v)=(kT ρ).set j v:=by
 apply G3 (P:=λj=>kT (sets j ρ v)=(kT ρ).set j v)<;>first|rfl|exactλJ=>rfl
theorem Bk{ρ ρ':Fr}(h:kT ρ=kT ρ'):ρ=ρ':=by
 induction ρ using Fr.casesOn;induction ρ' using Fr.casesOn;exact congrArg (λl=>let g:=λi=>l[i]?.getD Slot.undef;Fr.mk (g 0) (g 1) (g 2) (g 3) (g 4) (g 5) (g 6) (g 7) (g 8) (g 9) (g 10) (g 11) (g 12) (g 13) (g 14) (g 15)) h
theorem eS{j:Nat}(h:16<=j)(ρ:Fr):aJ j ρ=.undef:=by
 rw[nG,List.getElem?_eq_none (show(kT ρ).length<=j from h)];rfl
theorem cG(k j:Nat)(ρ:Fr)(v:Slot):aJ k (sets j ρ v)=if k=j/\j<16 then v else aJ k ρ:=by
 simp only[nG,nG,kS,List.getElem?_set];by_cases q:j=k
 ·subst q;by_cases q:j<16
  ·rw[if_pos rfl,if_pos (show j<(kT ρ).length from q),if_pos ⟨rfl,q⟩];rfl
  ·rw[if_pos rfl,if_neg (show ¬j<(kT ρ).length from q),if_neg λx=>q x.2,List.getElem?_eq_none (show(kT ρ).length<=j from Nat.not_lt.mp q)]
 ·rw[if_neg q,if_neg λx=>q x.1.symm]
theorem xg{ρ:Fr}{i j:Nat}{x y:Slot}(h:i≠j):sets i (sets j ρ x) y=sets j (sets i ρ y) x:=
 Bk (by simp only[kS,kS,kS,kS];exact List.set_comm _ _ (Ne.symm h))
theorem BL{l:List Slot}{n j:Nat}(h:(l++List.replicate n Slot.undef)[j]?.getD .undef≠.undef):l[j]?=aa ((l++List.replicate n Slot.undef)[j]?.getD .undef):=by
 rw[List.getElem?_append]at h ⊢;by_cases q:j<l.length
 ·rw[if_pos q,Jt q];rfl
 ·rw[if_neg q]at h;refine absurd ?_ h;cases e:(List.replicate n Slot.undef)[j-l.length]? with
  | none=>rfl
  | some v=>exact List.eq_of_mem_replicate (List.mem_of_getElem? e)
theorem HZ{l:List Slot}{j:Nat}{v:Slot}(h:(l.take 4)[j]?=aa v):l[j]?=aa v:=by
 rw[List.getElem?_take]at h;by_cases q:j<4
 ·rw[if_pos q]at h;exact h
 ·rw[if_neg q]at h;exact nS h
theorem lY{args:List Slot}{j:Nat}(h:aJ j (fill args)≠.undef):args[j]?=aa (aJ j (fill args)):=by
 have e:kT (fill args)=args.take 4++List.replicate (16-(args.take 4).length) .undef:=match args with
  | []=>rfl
  | [_]=>rfl
  | [_,_]=>rfl
  | [_,_,_]=>rfl
  | _::_::_::_::_=>rfl
 rw[nG,e]at h ⊢;exact HZ (BL h)
section
variable{cx cx':Cx}{b:Bool}{X X' Pn:AP}{h h':Heap}{s s':IY}{A:I0}{n:Nat}{ρ:Fr}{p p':List V}{env:Env}{Q E:IZ->IY->Prop}
set_option tactic.hygienic true
theorem aP.tr{v:V}{a:I1}(t:Tr X h X' h')(k:∀o,h.get? a=aa o->Kc o->h'.get? a=aa o)(r:aP C X h v a):aP C X' h' v a:=by
 induction v using V.casesOn<;>simp only[aP]at r ⊢
 case lst l=>refine aj r λvs z0 y=>?_;refine ao z0 λz zq=>?_;refine aw zq λn x=>?_;exact au vs ⟨z,n,k _ x (bx rfl (by decide))⟩ (y.tr t)
 case bh ks xs=>refine de r λes z0 y w q=>?_;refine ao z0 λz zq=>?_;refine aw zq λn x=>?_;exact fm es ⟨z,n,k _ x (bx rfl (by decide))⟩ (y.tr t) (w.tr t) q
theorem aP.obj{v:V}{a:I1}(r:aP C X h v a):∃o,h.get? a=aa o/\cv o.cls:=by
 induction v using V.casesOn<;>simp only[aP]at r
 case lst l=>refine aj r λvs z0 y=>?_;refine ao z0 λz zq=>?_;refine aw zq λn x=>?_;exact au _ x (.inr (.inl rfl))
 case bh ks xs=>refine de r λes z0 y w q=>?_;refine ao z0 λz zq=>?_;refine aw zq λn x=>?_;exact au _ x (.inr (.inr (.inl rfl)))
theorem aq.obj{v:V}{a:I1}(r:aq C X h v (.ref a)):¬X a/\∃o,h.get? a=aa o/\cv o.cls:=by
 induction v using V.casesOn with
 | none=>simp[aq]at r
 | bool b=>simp[aq]at r
 | int i=>simp[aq]at r
 | str i=>simp[aq]at r
 | tup l=>simp only[aq]at r;refine dO r λa' vs e hx z0 zz=>?_;refine ao z0 λz zq=>?_;refine aw zq λn ho=>?_;(injection e with h9;clear z0 zq;subst h9);exact⟨hx,_,ho,.inl rfl⟩
 | lst l=>simp only[aq]at r;refine dO r λa' vs e hx z0 zz=>?_;refine ao z0 λz zq=>?_;refine aw zq λn ho=>?_;(injection e with h9;clear z0 zq;subst h9);exact⟨hx,_,ho,.inr (.inl rfl)⟩
 | bh k x=>simp only[aq]at r;refine dO r λa' es e hx z0 zz=>?_;refine ao z0 λz zq=>?_;refine aw zq λn ho=>?_;(injection e with h9;clear z0 z zq;subst h9);exact⟨hx,_,ho,.inr (.inr (.inl rfl))⟩
 | clo f c=>simp only[aq]at r;refine d9 r λa' cs vs e hx z0 zz=>?_;refine dz z0 λo fd zz ho hc zz=>?_;(injection e with h9;clear z0;subst h9);exact⟨hx,o,ho,.inr (.inr (.inr (.inl (.inl hc))))⟩
theorem dE.obj{sl:Slot}{a:I1}(R:bA C X Pn h p)(r:dE C X Pn h sl (.ref a))(hu:sl≠.undef):∃o,h.get? a=aa o:=by
 induction sl using Slot.casesOn with
 | undef=>exact absurd rfl hu
 | val v=>refine ao (aq.obj r) λzz zq=>?_;refine aj zq λo ho zz=>?_;exact⟨o,ho⟩
 | own v=>refine de r λa' e zz zz q=>?_;(injection e with h9;subst h9);refine aj q.obj λo ho zz=>?_;exact⟨o,ho⟩
 | aE=>refine aj r λP e hp=>?_;(injection e with h9;subst h9);refine aj (R.at_ a hp) λvs z0 zz=>?_;refine ao z0 λzz zq=>?_;refine aw zq λn ho=>?_;exact⟨_,ho⟩
theorem bA.tr(R:bA C X Pn h p)(t:Tr X h X' h')(k:∀b o,Pn b->h.get? b=aa o->Kc o->h'.get? b=aa o):bA C X' Pn h' p:=
 ⟨R.one,λP hP=>let ⟨vs,⟨z,n,a⟩,c⟩:=R.at_ P hP;(au vs ⟨z,n,k P _ hP a (bx rfl (by decide))⟩ (c.tr t))⟩
theorem dE.tr{sl:Slot}{val:IZ}(r:dE C X Pn h sl val)(hX:∀b,X b->X' b)(t:Tr X h X' h')(k:∀b o,val=.ref b->h.get? b=aa o->Kc o->h'.get? b=aa o):dE C X' Pn h' sl val:=by
 induction sl using Slot.casesOn with
 | undef=>trivial
 | val v=>exact aq.tr t r
 | own v=>refine de r λa e hx hn q=>?_;exact fm a e (hX a hx) hn (q.tr t λo ho hc=>k a o e ho hc)
 | aE=>exact r
theorem nA{a:I1}{m m':Str->Option IZ}(x:h.Ns a m)(y:h.Ns a m'):m=m':=by
 refine d9 x λo es ep ho hd hk hm=>?_;refine d9 y λo' es' ep' ho' hd' hk' hm'=>?_;rw[ho]at ho';obtain rfl:=Jd ho';rw[hd]at hd';(injection hd' with h9;clear hk';subst h9);funext n;rw[← hm,← hm']
set_option tactic.hygienic false
structure Loc(C:Cfg)(X Pn:AP)(env:Env)(h:Heap):Prop where
 ns:∃m,h.Ns env.locals m
 inX:X env.locals
 new:C.h₀.get? env.locals=ae
theorem Loc.pG(L:Loc C X Pn env h)(R:bA C X Pn h p):¬Pn env.locals:=aw L.ns λzz hm=>jy R hm
theorem Loc.ext(L:Loc C X Pn env h)(R:bA C X Pn h p)(e:Ext C Pn h h'):Loc C X Pn env h':=
 aw L.ns λzz hm=>⟨⟨_,qe e (L.pG R) hm⟩,L.inX,L.new⟩
structure bD(cx:Cx):Prop where
 inj:∀x y j,cx.vars.lookup x=aa j->cx.vars.lookup y=aa j->x=y
 lt:∀x j,cx.vars.lookup x=aa j->j<cx.next
theorem bK{L:I1}(hs:Jk L h h')(ha:X L):Tr X h X h':=λa o e J hx=>⟨hs.extBut a o (λq=>hx (q▸ha)) e,hx⟩
theorem du.sameBut{L c:I1}{v:IZ}{m:Str->Option IZ}(hs:Jk L h h')(hn:h.Ns L m)(x:du h c v):du h' c v:=by
 refine aQ x λo ho hc hd=>?_;refine aU o (hs.extBut c o (λq=>?_) ho) hc hd;clear hs;subst q;refine dz hn λo' es ep ho' hd' zz=>?_;rw[ho]at ho';obtain rfl:=Jd ho';rw[hd]at hd';exact(nomatch hd')
theorem Vw.bind{x:Str}{j:Nat}{sl:Slot}{val:IZ}(v:Vw C cx X Pn env ρ p h)(hsc:cx'.sc=cx.sc)(hmu:cx'.muts=cx.muts)(hcp:cx'.caps=cx.caps)(ho:∀v,sl=.own v->cx.muts.contains x=af)(hcx:∀y k,cx'.vars.lookup y=aa k->(y=x/\k=j)\/(y≠x/\k≠j/\cx.vars.lookup y=aa k))
  (L:Loc C X Pn env h) (hk:env.kindOf x=aa .local)
  {m:Str->Option IZ} (hm:h.Ns env.locals m) (hn:h'.Ns env.locals (λy=>if y=x then aa val else m y)) (hs:Jk env.locals h h') (hr:dE C X Pn h sl val) (hv:val≠.ref env.locals):
  Vw C cx' X Pn env (sets j ρ sl) p h':=by
 have t:=bK (X:=X) hs L.inX;have hnp:=L.pG v.aE;have tk:∀{sl':Slot}{val':IZ},val'≠.ref env.locals->dE C X Pn h sl' val'->dE C X Pn h' sl' val':=λhne r=>
  r.tr (λJ q=>q) t λb o e ho J=>hs.extBut b o (λq=>hne (q▸e)) ho
 have ow:∀y k w,cx'.vars.lookup y=aa k->aJ k (sets j ρ sl)=.own w->cx'.muts.contains y=af:=λy k w hy hg=>by
  rw[hmu];rw[cG]at hg;rcases hcx y k hy with⟨rfl,rfl⟩|⟨_,hkj,hy'⟩
  ·by_cases h16:k<16
   ·rw[if_pos ⟨rfl,h16⟩]at hg;exact ho w hg
   ·rw[if_neg (λq=>h16 q.2),eS (Nat.not_lt.mp h16)]at hg;exact(nomatch hg)
  ·rw[if_neg (λq=>hkj q.1)]at hg;exact v.own y k w hy' hg
 refine { own:=ow,caps:=by rw[hcp];exact v.caps,code:=by rw[hcp];exact v.code,tab:=v.tab.qQ (W:=λb=>b=env.locals) (λb o e q=>hs.extBut b o q e) (λb q=>q▸NC.ka hm),kind:=v.kind,globals:=v.globals,builtins:=v.builtins,kinds:=by rw[hsc];exact v.kinds,cells:=v.cells,vars:=λy k hy hu=>?_,aE:=v.aE.tr t λb o hb ho J=>hs.extBut b o (λq=>hnp (q▸hb)) ho,pnX:=v.pnX,base:=λb o e=>hs.extBut b o (λq=>by subst q;rw[L.new]at e;exact nS e) (v.base b o e),lt:=λb hb=>?_,fresh:=v.fresh }
 ·rw[cG]at hu ⊢;rcases hcx y k hy with⟨rfl,rfl⟩|⟨hyx,hkj,hy'⟩
  ·by_cases h16:k<16
   ·rw[if_pos ⟨rfl,h16⟩]at hu ⊢;refine aU val ?_ (tk hv hr) hv;unfold Reads;rw[hk];exact au _ hn (if_pos rfl)
   ·rw[if_neg (λq=>h16 q.2),eS (Nat.not_lt.mp h16)]at hu;exact absurd rfl hu
  ·rw[if_neg (λq=>hkj q.1)]at hu ⊢;refine aQ (v.vars y k hy' hu) λval' a c d=>?_;refine aU val' ?_ (tk d c) d;unfold Reads at a ⊢
   split at a
   ·refine aj a λm' hm' hv'=>?_;rw[nA hm' hm]at hv';exact au _ hn (by simp only[hyx,if_false];exact hv')
   ·refine aj a λc' q r=>?_;exact au c' q (r.sameBut hs hm)
   ·refine aj a λc' q r=>?_;exact au c' q (r.sameBut hs hm)
   ·exact a.elim
 ·refine aw (v.lt b hb) λo ho=>?_;by_cases q:b=env.locals
  ·clear hb ho;subst q;refine lA hn λo' es ep ho' zz=>?_;exact⟨o',ho'⟩
  ·exact⟨o,hs.extBut b o q ho⟩
theorem Vw.store{x:Str}{j:Nat}{sl:Slot}{val:IZ}(v:Vw C cx X Pn env ρ p h)(O:bD cx)(L:Loc C X Pn env h)(hk:env.kindOf x=aa .local)(hj:cx.vars.lookup x=aa j)
  {m:Str->Option IZ} (hm:h.Ns env.locals m) (hn:h'.Ns env.locals (λy=>if y=x then aa val else m y)) (hs:Jk env.locals h h') (hr:dE C X Pn h sl val) (hv:val≠.ref env.locals) (ho:∀v,sl=.own v->cx.muts.contains x=af):
  Vw C cx X Pn env (sets j ρ sl) p h':=
 v.bind rfl rfl rfl ho (λy k hy=>by
  by_cases q:y=x
  ·clear hk hn ho;subst q;rw[hj]at hy;obtain rfl:=Jd hy;exact .inl ⟨rfl,rfl⟩
  ·exact .inr ⟨q,λe=>q (O.inj y x j (e▸hy) hj),hy⟩) L hk hm hn hs hr hv
theorem Loc.store{x:Str}{val:IZ}{m:Str->Option IZ}(L:Loc C X Pn env h)(hn:h'.Ns env.locals (λy=>if y=x then aa val else m y)):Loc C X Pn env h':=⟨⟨_,hn⟩,L.inX,L.new⟩
theorem aq.iq{v:V}{val:IZ}(L:Loc C X Pn env h')(r:aq C X h v val):val≠.ref env.locals:=λe=>by
 subst e;exact(aq.obj r).1 L.inX
end
theorem Out.bind_assoc{α β γ:Type}(o:Out α)(f:α->List V->Out β)(g:β->List V->Out γ):(o.bind f).bind g=o.bind λv p=>(f v p).bind g:=by induction o using Out.casesOn<;>rfl
noncomputable def kl(r:Res):Out (List V):=r.out.bind λv p=>match itemsOf v with
 | some l=>.ok l p
 | none=>.stuck
def eC(C:Cfg)(cx:Cx)(b:Bool)(e:Expr)(d:aA)(own:Bool):Prop:=
 ∀(n:Nat)(call:Call),dJ C n call->∀(X Pn:AP)(env:Env)(ρ:Fr)(p:List V)(s:IY)(A:I0)(Q E:IZ->IY->Prop),
  Vw C cx X Pn env ρ p s.heap->bf C A s.heap->dU A n->
  bH C X Pn (kl (d call ρ p)) (λl s'=>∀I wr a o,(o=af->own=af)->bW C X Pn s'.heap I wr a o l->(∀c∈wr,s.heap.get? c=ae)->(b=ag->X a->a∈wr)->Q (.ref I) s') E s->
  wpAny (model C.prog C.w) A (eval e env) (λx s₁=>wpAny (model C.prog C.w) A (pyIter x) Q E s₁) E s
section
variable{cx cx':Cx}{b:Bool}{X X' Pn:AP}{h h':Heap}{s s':IY}{A:I0}{n:Nat}{ρ ρ':Fr}{p p':List V}{env:Env}{Q E:IZ->IY->Prop}
theorem fu(hn:Nx C Pn s s')(R:bA C X Pn s'.heap p){c:I1}(hc:s'.heap.get? c=ae):s.heap.get? c=ae:=by
 induction e:s.heap.get? c using Option.casesOn with
 | none=>rfl
 | some o=>refine aw (hn.ext.lt R c ⟨o,e⟩) λo' ho'=>?_;rw[hc]at ho';exact nS ho'
theorem TupAt.push{a:I1}{vs:List IZ}(x:TupAt h a vs)(o:Obj):TupAt (h.push o) a vs:=let ⟨z,n,e⟩:=x;⟨z,n,Jg _ e⟩
theorem LstAt.push{a:I1}{vs:List IZ}(x:LstAt h a vs)(o:Obj):LstAt (h.push o) a vs:=let ⟨z,n,e⟩:=x;⟨z,n,Jg _ e⟩
set_option tactic.hygienic true
theorem eC.plain{e:Expr}{d:aA}{own:Bool}(h:aL C cx b e d):eC C cx b e d own:=by
 intro n call hc X Pn env ρ p s A Q E hv hk hr N;refine h.run hc hv hk hr (f:=λv p=>match itemsOf v with|some l=>.ok l p|none=>.stuck) N λv p₁ val s₁ hn v1 k₁ hval N1=>?_
 have hfr:s.heap.get? s₁.heap.objs.size=ae:=fu hn v1.aE (cN _);induction v using V.casesOn<;>dsimp only[itemsOf]at N1<;>try exact absurd rfl N1.1
 case tup l=>
  refine aW hval.b.tup λa vs z0 ht hl=>?_;subst z0;have hXa:¬X a:=by have:=hval.b.kE;dsimp only[aq]at this;refine aW this λa' zz e' hx zz=>?_;(injection e' with h9;clear zz;subst h9);exact hx
  refine wpAny_pyIter_tuple ht.fH ?_;refine N1.kp v1.base v1.aE (Kp.push (s:=s₁) _) s₁.heap.objs.size [s₁.heap.objs.size] a ag (λq=>nomatch q) ?_ (λc hc=>by simp at hc;subst hc;exact hfr) (λJ q=>absurd q hXa);refine .tup (k:=0) (aU _ (Jh _ rfl) rfl rfl) (ht.push _) (λq=>hXa (v1.pnX _ q)) (by simpa using hl.tr (Kp.push (s:=s₁) _).tr)
 case lst l=>
  have key:∃a vs,val=.ref a/\LstAt s₁.heap a vs/\av C X s₁.heap l vs/\¬Pn a/\(b=ag->¬X a):=by
   rcases hval.b with r|⟨a,e,hn,r⟩
   ·dsimp only[aq]at r;refine dO r λa vs e hx q w=>?_;exact gv a vs e q w (λq=>hx (v1.pnX _ q)) (λJ=>hx)
   ·have r':=r;dsimp only[aP]at r;refine aj r λvs q w=>?_;refine gv a vs e q w hn (λhb=>?_);clear h N N1;subst hb e;exact(aq.obj hval).1
  refine lB key λa vs z0 ht hl hna hXa=>?_;clear key;clear hval;subst z0;refine wpAny_pyIter_list ht.isList ?_;refine N1.kp v1.base v1.aE (Kp.push (s:=s₁) _) s₁.heap.objs.size [s₁.heap.objs.size] a ag (λq=>nomatch q) ?_ (λc hc=>by simp at hc;subst hc;exact hfr) (λhb q=>absurd q (hXa hb));refine .list (k:=0) (aU _ (Jh _ rfl) rfl rfl) (ht.push _) hna (by simpa using hl.tr (Kp.push (s:=s₁) _).tr)
theorem xB{l:List V}{x:IZ}(hp:∀b,Pn b->X b)(r:jo b C X Pn h (.lst l) x):∃a vs,x=.ref a/\LstAt h a vs/\av C X h l vs/\¬Pn a/\(b=ag->¬X a):=by
 rcases r.b with q|⟨a,e,hn,q⟩
 ·dsimp only[aq]at q;refine dO q λa vs e hx q w=>?_;exact gv a vs e q w (λq=>hx (hp _ q)) (λJ=>hx)
 ·have q':=q;dsimp only[aP]at q;refine aj q λvs q w=>?_;refine gv a vs e q w hn (λhb=>?_);subst hb e;exact(aq.obj r).1
variable{fns:List (Str×Nat)}{glb:List (Str×V)}{mg mb:Str->Option IZ}
theorem eC.mf{f:Str}{g:V->Option V}{T:String}{x:Expr}{d:aA}{np pos:Pos}{own:Bool}(W:dG C fns glb mg mb)(hf:bc f=af)(hG:cx.d5 f=af)(hm:f∈el)(hb:bootBuiltins f=aa (.type T))
  (hx:aL C cx b x d) (hs:∀e p,x≠.Starred e p)
  (ho:∀(X Pn:AP)(s:IY)(A:I0)(Q E:IZ->IY->Prop)(v w:V)(val:IZ),A.handled=ae->(∀b,Pn b->X b)->g v=aa w->jo b C X Pn s.heap v val->
   (∀I wr a o l s',itemsOf w=aa l->Kp s s'->(o=af->own=af)->bW C X Pn s'.heap I wr a o l->(∀c∈wr,s.heap.get? c=ae)->(b=ag->X a->a∈wr)->Q (.ref I) s')->
   wpAny (model C.prog C.w) A (PySem.call (.type T) [val]) (λx s₁=>wpAny (model C.prog C.w) A (pyIter x) Q E s₁) E s):eC C cx b (.Call (.Name f np) [x] [] pos) (Internal.c1 g d) own:=by
 intro n call hc X Pn env ρ p s A Q E hv hk hr N;have e:kl (Internal.c1 g d call ρ p)=(d call ρ p).out.bind λa p=>(@Option.rec V (λJ=>Res) Res.stuck (λv=>Res.ok v p) (g a)).out.bind λv p=>match itemsOf v with
   | some l=>.ok l p
   | none=>.stuck:=by
  unfold kl;rw[show(Internal.c1 g d call ρ p).out=(d call ρ p).out.bind λa p=>(@Option.rec V (λJ=>Res) Res.stuck (λv=>Res.ok v p) (g a)).out from dj _ _];induction (d call ρ p).out using Out.casesOn<;>rfl
 rw[e]at N;refine wpAny_Call_NameR (ei W hv hf hG hm hb ?_);rw[pj hs];refine Internal.mf (.ty T) (hx.run hc hv hk hr N λv p₁ val s₁ hn v1 k₁ hval N1=>?_);refine oc (g v) (λhg=>?_) λw hg=>?_
 ·rw[hg]at N1;exact absurd rfl N1.1
 ·
  rw[hg]at N1;refine ho X Pn s₁ A Q E v w val hr.handled v1.pnX hg hval λI wr a o l s' hl hkp h1 h2 h3 h4=>?_;have gD:(@Option.rec V (λJ=>Res) Res.stuck (λv=>Res.ok v p₁) (aa w)).out.bind (λv p=>match itemsOf v with|some l=>Out.ok l p|none=>Out.stuck)=Out.ok l p₁:=by
   show(match itemsOf w with|some l=>Out.ok l p₁|none=>Out.stuck)=_
   rw[hl]
  rw[gD]at N1;exact N1.kp v1.base v1.aE hkp I wr a o h1 h2 (λc hc=>fu hn v1.aE (h3 c hc)) h4
set_option tactic.hygienic false
theorem gU{c:I1}(hc:h.objs.size<=c):h.get? c=ae:=by
 induction q:h.get? c using Option.casesOn with
 | none=>rfl
 | some o=>exact absurd (Jj q) (Nat.not_lt.mpr hc)
theorem kF{a:Int}(h:i4 a=af):-3000<=a/\a<3000:=by
 have hl:=pJ;induction a using Int.casesOn with
 | ofNat n=>
  have h:Nat.blt n lid=af:=h;rw[blt_dec,decide_eq_true_eq]at h;dsimp only[JH];lia
 | negSucc n=>
  have h:Nat.blt n lid=af:=h;rw[blt_dec,decide_eq_true_eq]at h;rw[Int.negSucc_eq];lia
theorem q8{i j:Int}{t u:Tok}{vt:Tok}{r:I1}(hr:IsRange s.heap r i j 1 t u vt)(hi:-(2^62)<=i/\i<2^62)(hj:-(2^62)<=j/\j<2^62)
  (h:∀s',Kp s s'->bW C X Pn s'.heap s.heap.objs.size [s.heap.objs.size] s.heap.objs.size ag (cE (kR (eR j i)) i)->Q (.ref s.heap.objs.size) s'):
  wpAny (model C.prog C.w) A (pyIter (.ref r)) Q E s:=by
 refine wpAny_pyIter_range hr (small_one hi.1 hi.2 hj.1 hj.2) (h _ (.push _) ?_);have e:Builtin.Range.rangeSize i j 1=((kR (eR j i):Nat):Int):=by
  rw[rangeSize_one,w5,lh]
  split<;>lia
 rw[e];exact .range (Jh _ rfl)
set_option tactic.hygienic true
theorem eC.Df {x:Expr} {d:aA} {np pos:Pos} {own:Bool} (W:dG C fns glb mg mb) (hG:cx.d5 "range" = af) (hx:aL C cx b x d) (hs:∀e p,x≠.Starred e p):eC C cx b (.Call (.Name "range" np) [x] [] pos) (Internal.c1 gJ d) own:=by
 refine .mf W (by decide) hG (by decide) (T := "range") (by decide +kernel) hx hs λX Pn s A Q E v w val hh hp hg hval h=>?_;revert hval;refine xs12 v (jv hg) λi hg hval=>?_;refine ao (cL hg) λhb hg=>?_;obtain rfl:=Jd hg;have hb:=kF hb;refine aw hval.b.int λt z0=>?_;clear hval;subst z0;refine call_range_1 ?_;have K:Kp s { s with heap:=s.heap.push { cls:=.type "range",data:=.fields #[.int 0 s.toks,.int i t,.int 1 (s.toks+1)] },toks:=s.toks+1+1 }:=(Kp.push (s:=s) _).trans (.toks _);refine q8 (X:=X) (Pn:=Pn) (i:=0) (j:=i) (IsRange.new ..) (by decide) (by lia) λs' k it=>?_;have e:eR i 0=i:=by rw[lh];lia
 rw[e]at it;exact h _ _ _ ag _ _ rfl (K.trans k) (λq=>Bool.noConfusion q) it (λc hc=>by simp at hc;subst hc;exact gU (Nat.le_succ _)) λJ J=>by simp
theorem eC.De {x y:Expr} {d d':aA} {np pos:Pos} {own:Bool} (W:dG C fns glb mg mb) (hG:cx.d5 "range" = af) (hx:aL C cx b x d) (hs:∀e p,x≠.Starred e p) (hy:aL C cx b y d') (hs':∀e p,y≠.Starred e p):
  eC C cx b (.Call (.Name "range" np) [x,y] [] pos) (Internal.c2 fF d d') own:=by
 intro n call hc X Pn env ρ p s A Q E hv hk hr N;have e:kl (Internal.c2 fF d d' call ρ p)=(d call ρ p).out.bind λa p=>(d' call ρ p).out.bind λb p=>(@Option.rec V (λJ=>Res) Res.stuck (λv=>Res.ok v p) (fF a b)).out.bind λv p=>match itemsOf v with
   | some l=>.ok l p
   | none=>.stuck:=by
  unfold kl;rw[show(Internal.c2 fF d d' call ρ p).out=(d call ρ p).out.bind λa p=>(@Res.rec (λJ=>Res) Res.stuck (λb p=>@Option.rec V (λJ=>Res) Res.stuck (λv=>Res.ok v p) (fF a b)) Res.exc (d' call ρ p)).out from dj _ _];rw[Out.bind_assoc]
  congr 1;funext a p
  rw[dj,Out.bind_assoc]
 rw[e]at N;refine wpAny_Call_NameR (ei W hv (by decide) hG (by decide) (val:=.type "range") (by decide +kernel) ?_);rw[mz hs hs'];refine Internal.call2 (.ty "range") (hx.run hc hv hk hr N λv p₁ val s₁ hn v1 k₁ hval N1=>?_);refine hy.run hc v1 k₁ hr N1 λw bg val' s₂ cJ v2 k₂ hval' N2=>?_;clear N1;induction v using V.casesOn<;>induction w using V.casesOn<;>(try exact absurd rfl N2.1)
 case int.int x y=>
  refine aw hval.b.int λt z0=>?_;clear hval;subst z0;refine aw hval'.b.int λu z0=>?_;clear hval';subst z0;refine kY (i4 x) (λh1=>?_) λh1=>?_
  ·simp only[fF,vI,h1]at N2;exact absurd rfl N2.1
  ·
   induction h2:i4 y using Bool.casesOn with
   | false=>simp only[fF,vI,h1,h2]at N2;exact absurd rfl N2.1
   | true=>
    simp only[fF,vI,h1,h2]at N2;have N2:bH C X Pn (.ok (cE (kR (eR y x)) x) bg) _ E s₂:=N2;have hx':=kF h1;have hy':=kF h2;refine call_range_2 ?_;have K:Kp s₂ { s₂ with heap:=s₂.heap.push { cls:=.type "range",data:=.fields #[.int x t,.int y u,.int 1 s₂.toks] },toks:=s₂.toks+1 }:=(Kp.push (s:=s₂) _).trans (.toks _);refine q8 (X:=X) (Pn:=Pn) (i:=x) (j:=y) (IsRange.new ..) (by lia) (by lia) λs' k it=>?_;exact N2.kp v2.base v2.aE (K.trans k) _ _ _ ag (λq=>Bool.noConfusion q) it (λc hc=>by simp at hc;subst hc;exact fu hn v1.aE (fu cJ v2.aE (gU (Nat.le_succ _)))) λJ J=>by simp
theorem eC.enum {x:Expr} {d:aA} {np pos:Pos} (W:dG C fns glb mg mb) (hG:cx.d5 "enumerate" = af) (hx:aL C cx b x d) (hs:∀e p,x≠.Starred e p):eC C cx b (.Call (.Name "enumerate" np) [x] [] pos) (Internal.c1 kn d) af:=by
 refine .mf W (by decide) hG (by decide) (T := "enumerate") (by decide +kernel) hx hs λX Pn s A Q E v w val hh hp hg hval h=>?_;revert hval;refine xs12 v (j6 hg) λl hg hval=>?_;obtain rfl:=Jd hg;refine lB (xB hp hval) λa vs z0 ht hl hna hXa=>?_;clear hval;subst z0;refine ao (id ht) λz zq=>?_;refine aw zq λk ho=>?_;refine call_enumerate_1 (items:=vs.toArray) ho λh' he hit hz hk=>?_;refine wpAny_pyIter_enum he ?_;have K:Kp s { s with heap:=h' }:=⟨hk,rfl,rfl⟩;refine h _ [s.heap.objs.size+1,s.heap.objs.size] a af _ _ rfl K (λJ=>rfl) (.enum (k:=0) he hit (K.list ht) hna (by simpa using hl.tr K.tr)) (λc hc=>?_) (λhb q=>absurd q (hXa hb));simp at hc;rcases hc with rfl|rfl
 ·exact gU (Nat.le_succ _)
 ·exact cN _
theorem eC.rev {x:Expr} {d:aA} {np pos:Pos} {own:Bool} (W:dG C fns glb mg mb) (hG:cx.d5 "reversed" = af) (hx:aL C cx b x d) (hs:∀e p,x≠.Starred e p):eC C cx b (.Call (.Name "reversed" np) [x] [] pos) (Internal.c1 lK d) own:=by
 refine .mf W (by decide) hG (by decide) (T := "reversed") (by decide +kernel) hx hs λX Pn s A Q E v w val hh hp hg hval h=>?_;revert hval;refine xs12 v (j6 hg) λl hg hval=>?_;obtain rfl:=Jd hg;refine lB (xB hp hval) λa vs z0 ht hl hna hXa=>?_;clear hval;subst z0;refine call_reversed_list (items:=vs.toArray) ht.isList ?_;have hR:(s.heap.push (revObj a ((vs.toArray.size:Int)-1))).IsRevIter s.heap.objs.size a ((vs.length:Int)-1):=aU _ (Jh _ rfl) rfl (by simp[revObj]);refine wpAny_pyIter_revIter hR ?_;refine h _ [s.heap.objs.size] a ag _ _ rfl (Kp.push (s:=s) _) (λq=>nomatch q) (.rev (k:=vs.length) hR (ht.push _) hna (Nat.le_refl _) ?_) (λc hc=>by simp at hc;subst hc;exact cN _) (λhb q=>absurd q (hXa hb));rw[uO,List.append_nil,List.take_length];exact(hl.tr (Kp.push (s:=s) _).tr).reverse
theorem eC.items {o:Expr} {d:aA} {ap cp:Pos} (hx:aL C cx b o d) (ho:jS o ap cp=af):eC C cx b (.Call (.Attribute o "items" ap) [] [] cp) (Internal.c1 i9 d) af:=by
 intro n call hc X Pn env ρ p s A Q E hv hk hr N;simp only[jS,Jn]at ho;have e:kl (Internal.c1 i9 d call ρ p)=(d call ρ p).out.bind λa p=>(@Option.rec V (λJ=>Res) Res.stuck (λv=>Res.ok v p) (i9 a)).out.bind λv p=>match itemsOf v with
   | some l=>.ok l p
   | none=>.stuck:=by
  unfold kl;rw[show(Internal.c1 i9 d call ρ p).out=(d call ρ p).out.bind λa p=>(@Option.rec V (λJ=>Res) Res.stuck (λv=>Res.ok v p) (i9 a)).out from dj _ _];induction (d call ρ p).out using Out.casesOn<;>rfl
 rw[e]at N;refine wpAny_Call_method (T := "dict") (id := "dict.items") (ia ho.1 _ _) rfl ho.2 F.plainAttrs_dict F.slot_dict_items F.type_dict_items ?_;refine hx.run hc hv hk hr N λv p₁ val s₁ hn v1 k₁ hval N1=>?_;induction v using V.casesOn<;>(try exact absurd rfl N1.1)
 case bh ks xs=>
  have N1:bH C X Pn (.ok (vz ks xs) p₁) _ E s₁:=N1;have key:∃a es,val=.ref a/\eO s₁.heap a es/\av C X s₁.heap ks (es.map (·.key))/\av C X s₁.heap xs (es.map (·.val))/\¬Pn a/\(b=ag->¬X a):=by
   rcases hval.b with r|⟨a,e,hn,r⟩
   ·dsimp only[aq]at r;refine jH r λa es e hx q w u zz=>?_;exact qh a es e q w u (λq=>hx (v1.pnX _ q)) (λJ=>hx)
   ·have r':=r;dsimp only[aP]at r;refine de r λes q w u zz=>?_;refine qh a es e q w u hn (λhb=>?_);clear hx N;subst hb e;exact(aq.obj hval).1
  refine jH key λa es z0 z1 h1 h2 hna hXa=>?_;clear key;clear hval;subst z0;obtain⟨⟨hsys,hz⟩,m,hd⟩:=z1;have hT:s₁.TypeIs (.ref a) "dict" := au _ hd rfl;refine⟨hT,λa' ea=>by(injection ea with h9;subst h9);exact au _ hd rfl,?_⟩;refine Calls.callWith_builtin rfl (PySem.evalArgs_none ?_);refine IU F.slot_dict_items hT F.entry_dict_items ?_ (F.args_dict_items_1 _);unfold Builtin.«dict.items»;refine az ?_;unfold Builtin.Dict.noArgs;refine az (wpAny_notOrdered_dict hT ?_);skip;refine IP ?_;show wpAny _ _ (Builtin.Dict.showsAll a >>= _) _ _ s₁;unfold Builtin.Dict.showsAll;rw[if_neg (by rw[hsys];exact Bool.false_ne_true)];refine az (IP ?_);refine az (wpAny_newObj_type (IP (au _ rfl ?_)));have hv':(s₁.heap.push { cls:=.type "dict_items",data:=.fields #[.ref a] }).IsItemsView s₁.heap.objs.size a:=aU _ (Jh _ rfl) rfl rfl;refine xI hv' (Jg _ hd) hz ?_;have K:Kp s₁ { s₁ with heap:=(s₁.heap.push { cls:=.type "dict_items",data:=.fields #[.ref a] }).push { cls:=.type "dict_itemiterator",data:=.fields #[.none,.bool ag,.ref a,.int 0 0,.int es.length 0,.int m 0,.none,.none] } }:=
   (Kp.push (s:=s₁) _).trans (.push _)
  refine N1.kp v1.base v1.aE K _ _ a af (λJ=>rfl) (.items (k:=0) (Jh _ rfl) (K.keep _ _ hd) hna hz (by simpa using h1.tr K.tr) (by simpa using h2.tr K.tr)) (λc hc=>?_) (λhb q=>absurd q (hXa hb));simp at hc;subst hc;exact fu hn v1.aE (gU (Nat.le_succ _))
end
section
variable{cx cx':Cx}{b:Bool}{X X' Pn:AP}{h h':Heap}{s s':IY}{A:I0}{n:Nat}{ρ ρ':Fr}{p p':List V}{env:Env}{E:IZ->IY->Prop}
theorem fJ{x:Str}(h:gf cx x=af):cx.vars.lookup x=ae/\cx.sc.lookup x=aa .local/\bc x=af:=by
 unfold gf at h;simp only[Jn,Option.isNone_iff_eq_none,beq_iff_eq]at h;exact⟨h.1.1,h.1.2,h.2⟩
theorem w7{vars:List (Str×Nat)}{x:Str}{p:Pos}{j:Nat}(h:List.lookup x vars=aa j):lC vars (.Name x p)=aa (.one (sets j)):=congrArg (Option.map λj=>eN.one (sets j)) h
theorem w6{vars:List (Str×Nat)}{x y:Str}{p q k r}{i j:Nat}(h:List.lookup x vars=aa i)(h':List.lookup y vars=aa j):lC vars (.Tuple [.Name x p,.Name y q] k r)=aa (.two (sets i) (sets j)):=
 (congrArg (λo=>o.bind λi=>(List.lookup y vars).map λj=>eN.two (sets i) (sets j)) h).trans (congrArg (Option.map λj=>eN.two (sets i) (sets j)) h')
theorem cb{x y:Str}{j:Nat}{l:List (Str×Nat)}:List.lookup y ((x,j)::l)=if y=x then aa j else l.lookup y:=by
 rw[List.lookup_cons];by_cases h:y=x
 ·simp[h]
 ·have:(y==x)=ag:=by simpa using h
  simp[this,h]
noncomputable def cV(cx:Cx)(x:Str):Cx:={ cx with vars:=(x,cx.next)::cx.vars,next:=cx.next+1 }
theorem iS{x:Str}(O:bD cx):bD (cV cx x):=by
 refine⟨λy z j hy hz=>?_,λy j hy=>?_⟩
 ·simp only[cV,cb]at hy hz
  split at hy<;>split at hz
  ·simp_all
  ·obtain rfl:=Jd hy;exact absurd (O.lt _ _ hz) (JB _)
  ·obtain rfl:=Jd hz;exact absurd (O.lt _ _ hy) (JB _)
  ·exact O.inj y z j hy hz
 ·simp only[cV,cb]at hy ⊢
  split at hy
  ·obtain rfl:=Jd hy;exact Nat.le_refl _
  ·have:=O.lt _ _ hy;exact Nat.lt_succ_of_lt this
theorem qS{x:Str}(O:bD cx)(y:Str)(k:Nat)(hy:(cV cx x).vars.lookup y=aa k):(y=x/\k=cx.next)\/(y≠x/\k≠cx.next/\cx.vars.lookup y=aa k):=by
 simp only[cV,cb]at hy
 split at hy
 ·obtain rfl:=Jd hy;exact .inl ⟨‹_›,rfl⟩
 ·refine .inr ⟨‹_›,λe=>?_,hy⟩;have:=O.lt _ _ hy;exact absurd e (Jz this)
theorem rj(hk:env.scope.kind=.function):(env.scope.kind==.class||(env.scope.kind==.module&&env.locals !=env.globals))=ag:=by rw[hk];rfl
theorem Vw.mX(v:Vw C cx X Pn env ρ p h){x:Str}(hx:cx.sc.lookup x=aa .local):env.kindOf x=aa .local:=(v.kinds x .local hx).1 (by simp)
theorem bind1{x:Str}{px:Pos}{v:V}{val:IZ}{Q:Unit->IY->Prop}(O:bD cx)(hx:cx.sc.lookup x=aa .local)(hv:Vw C cx X Pn env ρ p s.heap)(L:Loc C X Pn env s.heap)(hr:aq C X s.heap v val)
  (hQ:∀s',jg [env.locals] s s'->Vw C (cV cx x) X Pn env (sets cx.next ρ (.val v)) p s'.heap->Loc C X Pn env s'.heap->Q () s'):wpAny (model C.prog C.w) A (assign (.Name x px) env val) Q E s:=by
 refine aw L.ns λm hm=>?_;have hk:=hv.mX hx;refine wpAny_assign_Name (wpAny_storeName_local hk hm (λh' hn hs=>?_) (rj hv.kind));exact hQ _ ⟨λc o hc e=>hs.extBut c o (by simpa using hc) e,rfl,rfl⟩ (hv.bind rfl rfl rfl (λJ q=>nomatch q) (qS O) L hk hm hn hs (sl:=.val v) hr (aq.iq L hr)) (L.store hn)
theorem Vw.kp(v:Vw C cx X Pn env ρ p s.heap)(k:Kp s s'):Vw C cx X Pn env ρ p s'.heap:=v.next (k.nx (Pn:=Pn) v.base).ext (k.aE v.aE)
theorem Loc.kp(L:Loc C X Pn env s.heap)(k:Kp s s'):Loc C X Pn env s'.heap:=let ⟨m,hm⟩:=L.ns;⟨⟨m,hm.at' λo e=>k.keep _ o e⟩,L.inX,L.new⟩
theorem jg.trans{w:List I1}{s'':IY}(a:jg w s s')(b:jg w s' s''):jg w s s'':=⟨λx o hx e=>b.keep x o hx (a.keep x o hx e),b.gens.trans a.gens,b.os.trans a.os⟩
theorem Kp.w{w:List I1}(k:Kp s s'):jg w s s':=⟨λx o J e=>k.keep x o e,k.gens,k.os⟩
theorem kP{t:Expr}(hb:bindC cx t=aa cx'):(∃x px,t=.Name x px/\gf cx x=af/\cx'=cV cx x)\/
  (∃x px y py k pt,t=.Tuple [.Name x px,.Name y py] k pt/\gf cx x=af/\gf cx y=af/\x≠y/\cx'=cV (cV cx x) y):=by
 unfold bindC at hb;refine oc (gu t) (λh0=>?_) λx h0=>?_
 ·rw[h0]at hb;refine aj (ob hb) λq h1 h=>?_;refine ao (bV h) λhf h=>?_;simp only[Jn,bne_iff_ne,ne_eq]at hf;exact yh (xy h1) λpx py c p e=>.inr ⟨q.1,px,q.2,py,c,p,e,hf.1.1,hf.1.2,hf.2,(Jd h).symm⟩
 ·rw[h0]at hb;refine ao (bV hb) λhf h=>?_;exact aw (eg h0) λpx e=>.inl (bX x px e hf ((Jd h).symm))
set_option tactic.hygienic true
theorem zB{t:Expr}{tg:eN}{v:V}{val:IZ}{Q:Unit->IY->Prop}(hb:bindC cx t=aa cx')(ht:lC cx'.vars t=aa tg)(O:bD cx)(hh:A.handled=ae)(hv:Vw C cx X Pn env ρ p s.heap)(L:Loc C X Pn env s.heap)
  (e:d4 tg v ρ=aa ρ') (hr:aq C X s.heap v val) (hQ:∀s',jg [env.locals] s s'->Vw C cx' X Pn env ρ' p s'.heap->Loc C X Pn env s'.heap->Q () s'):wpAny (model C.prog C.w) A (assign t env val) Q E s:=by
 rcases kP hb with⟨x,px,z0,hf,hc⟩|⟨x,px,y,py,k,pt,z0,fx,fy,hne,hc⟩
 ·clear hb;subst z0
  ·
   refine bM (fJ hf) λf1 f2 f3=>?_;subst hc;obtain rfl:=Jd ((w7 (j:=cx.next) (by simp[cV,cb])).symm.trans ht);simp only[d4,Je]at e;subst e;exact bind1 O f2 hv L hr hQ
 ·clear hb;subst z0
  ·
   refine bM (fJ fx) λf1 f2 f3=>?_;refine bM (fJ fy) λg1 g2 g3=>?_;subst hc;have l1:(cV (cV cx x) y).vars.lookup x=aa cx.next:=by simp[cV,cb,hne]
   have l2:(cV (cV cx x) y).vars.lookup y=aa (cx.next+1):=by simp[cV,cb]
   obtain rfl:=Jd ((w6 l1 l2).symm.trans ht);have key:∃u w,v=.tup [u,w]/\ρ'=sets (cx.next+1) (sets cx.next ρ (.val u)) (.val w):=nq e;refine bY key λu w z0 z1=>?_;clear key;subst z0;clear e;subst z1;simp only[aq]at hr;refine dO hr λa vs z0 hxa z1 hl=>?_;clear hr;subst z0;obtain⟨hz,m,ho⟩:=z1;simp only[av]at hl;refine aW hl λvu r1 z0 hu zq=>?_;clear hl;subst z0;refine aW zq λvw r2 z1 hw z2=>?_;subst z1;clear zq hz;subst z2;refine wpAny_assign_Tuple (items:=#[vu,vw]) hh (aU _ ho rfl ⟨_,rfl⟩) rfl rfl λaT he=>?_;have K:Kp s { s with heap:=aT }:=⟨λb o eb=>he b o (λq=>by subst q;rw[cN]at eb;exact nS eb) eb,rfl,rfl⟩;skip;refine az (IS (bind1 (s:={ s with heap:=aT }) O f2 (hv.kp K) (L.kp K) (hu.tr K.tr) λs₂ k₂ v2 L2=>?_));skip;have hw2:aq C X s₂.heap w vw:=by
    refine(hw.tr K.tr).tr λb o eb J hx=>⟨k₂.keep b o (λq=>?_) eb,hx⟩;simp at q;clear eb;subst q;exact hx L.inX
   refine az (IS (bind1 (iS O) g2 v2 L2 hw2 λbr bJ v3 L3=>?_));exact IP (hQ _ (K.w.trans (k₂.trans bJ)) v3 L3)
inductive jD(C:Cfg)(cx:Cx):List Expr->List aA->Prop
 | nil:jD C cx [] []
 | cons {e:Expr} {d:aA} {es:List Expr} {ds:List aA}:cO C cx e d->jD C cx es ds->jD C cx (e::es) (d::ds)
theorem uu{es:List Expr}:(forIn es ag λc r=>if r=af then do let ok ← isTrue c env (eval c env);pure (ForInStep.yield ok) else pure (ForInStep.yield r))=(pure ag:Sem Bool):=by
 induction es with
 | nil=>rfl
 | cons e es ih=>
  rw[List.forIn_cons];simp only[Jo,if_false];exact ih
set_option tactic.hygienic false
theorem jD.run{es:List Expr}{ds:List aA}(h:jD C cx es ds):∀{n:Nat}{call:Call},dJ C n call->∀{X Pn:AP}{env:Env}{ρ:Fr}{p:List V}{s:IY}{A:I0}{Q:Bool->IY->Prop}{E:IZ->IY->Prop},
  Vw C cx X Pn env ρ p s.heap->bf C A s.heap->dU A n->bH C X Pn (tests ds call ρ p).out (rg Q) E s->
  wpAny (model C.prog C.w) A (forIn es af λc r=>if r=af then do let ok ← isTrue c env (eval c env);pure (ForInStep.yield ok) else pure (ForInStep.yield r)) Q E s:=by
 induction h with
 | nil=>
  intro n call hc X Pn env ρ p s A Q E hv hk hr N;have N:bH C X Pn (Out.ok (V.bool af) p) (rg Q) E s:=N;refine aj (N.jr hv.base hv.aE) λq e hq=>?_;(injection e with h9;subst h9);exact IP hq
 | @cons e d es ds h1 h2 ih=>
  intro n call hc X Pn env ρ p s A Q E hv hk hr N;rw[List.forIn_cons];simp only[if_true];have lZ:(tests (d::ds) call ρ p).out=(d call ρ p).out.bind λv p=>(vB Res.stuck (λq=>@Jp (λJ=>Res) (Res.ok (V.bool ag) p) (tests ds call ρ p) q) v).out:=dj _ _;rw[lZ]at N;refine az (az (h1 n call hc X Pn env ρ p s A _ E hv hk hr (bL.o.mpr (N.bind λv p₁ s₁ J hn hp N1=>?_))));induction v using V.casesOn with
  | bool q=>
   refine au q rfl (IP ?_);have v1:=hv.next hn.ext hp;have k₁:=hk.ext hn.ext hv.aE;induction q using Bool.casesOn with
   | true=>exact ih hc v1 k₁ hr N1
   | false=>
    show wpAny _ _ (forIn es ag _) _ _ _;rw[uu];have N1:bH C X Pn (Out.ok (V.bool ag) p₁) (rg Q) E s₁:=N1;refine aj (N1.jr v1.base v1.aE) λq e hq=>?_;(injection e with h9;subst h9);exact IP hq
  | _=>exact absurd rfl N1.1
end
section
variable{X X' Pn:AP}{h h':Heap}{s s':IY}{A:I0}{n:Nat}{p p':List V}{E:IZ->IY->Prop}
theorem av.set:∀{l:List V}{vs:List IZ}{n:Nat}{x:V}{v:IZ},av C X h l vs->aq C X h x v->av C X h (l.set n x) (vs.set n v)
 | [],_,_,_,_,a,_=>by simp only[av]at a;subst a;simpa using av.nil
 | y::ys,_,0,_,_,a,b=>by
  simp only[av]at a;refine aW a λw r z0 q1 q2=>?_;clear a;subst z0;exact .cons b q2
 | y::ys,_,n+1,_,_,a,b=>by
  simp only[av]at a;refine aW a λw r z0 q1 q2=>?_;clear a;subst z0;exact .cons q1 (av.set q2 b)
theorem mu{w:World}:∀(l m:List V),bq w (l++m)=bq w l++bq w m
 | [],_=>by simp[bq]
 | a::l,m=>by simp[bq,mu l m]
theorem lR{α β:Type}(f:α->β)(g:α->α)(hg:∀a,f (g a)=f a):∀(l:List α)(n:Nat),(l.modify n g).map f=l.map f
 | [],0=>rfl
 | [],_+1=>rfl
 | a::l,0=>by simp[hg]
 | a::l,n+1=>by simp[lR f g hg l n]
theorem k8{α β:Type}(f:α->β)(g:α->α)(b:β)(hg:∀a,f (g a)=b):∀(l:List α)(n:Nat),(l.modify n g).map f=(l.map f).set n b
 | [],0=>rfl
 | [],_+1=>rfl
 | a::l,0=>by simp[hg]
 | a::l,n+1=>by simp[k8 f g b hg l n]
theorem sW{a:I1}{vs:List IZ}{f:Array IZ->Array IZ}{ws:List IZ}{Q:Unit->IY->Prop}(hl:LstAt s.heap a vs)(hf:f vs.toArray=ws.toArray)(hz:ws.length<=most)
  (hQ:∀h',Jk a s.heap h'->LstAt h' a ws->Q () { s with heap:=h' }):wpAny (model C.prog C.w) A (updateSeq a f) Q E s:=by
 refine ao hl λz zq=>?_;refine aw zq λn ho=>?_;have hm:most=8000:=rfl;have e:Obj.mapSeq f (dn vs n)=dn ws n\/∃n',Obj.mapSeq f (dn vs n)=dn ws n':=by
  right;refine aw (Obj.data_mapSeq (o:=dn vs n) (xs:=vs.toArray) (n:=n) rfl f) λn' hd'=>?_;refine⟨n',?_⟩;simp only[hf]at hd';delta Obj.mapSeq dn at *;simpa [hf]using hd'
 have e:∃n',Obj.mapSeq f (dn vs n)=dn ws n':=e.elim (λq=>⟨n,q⟩) id;refine aw e λn' e=>?_;refine wpAny_updateSeq ho rfl (hQ _ (Jl ..) ⟨hz,n',?_⟩) (by simp only[bt,Ju];lia) (by simp only[hf,bt,Ju];lia);rw[Ji _ ho (by rw[e];rfl),e]
theorem nd{d:I1}{ks xs ks' xs':List V}{k v:V}{key val:IZ}{Q:Unit->IY->Prop}(hd:aP C X s.heap (.bh ks xs) d)(hX:X d)(hput:eV ks xs k v=aa (ks',xs'))
  (hkey:aq C X s.heap k key) (hval:aq C X s.heap v val) (hu:A.units+100<cLine)
  (hQ:∀h' tk,Jk d s.heap h'->aP C X h' (.bh ks' xs') d->Q () { s with heap:=h',toks:=tk }):wpAny (model C.prog C.w) A (dictSet d key val) Q E s:=by
 simp only[aP]at hd;refine mw hd λes hI hks hxs hh hok=>?_;refine ao hI λz0 zq=>?_;obtain⟨hsys,hz⟩:=z0;refine aw zq λn ho=>?_;have hm:most=8000:=rfl;delta eV at hput;refine kY (keyOk 8 k) (λhx=>?_) λhx=>?_
 ·simp only[hx]at hput;exact nS hput
 ·
  simp only[hx]at hput;induction hf:dD ks k 0 using Option.casesOn with
  | none=>simp only[hf]at hput;exact nS hput
  | some o=>
   simp only[hf]at hput;delta dictSet
   try with_reducible refine IS ?_
   refine az (oN (X:=X) 8 k key _ _ _ _ hx hkey (JE (JG (by decide) _) hu) λtk=>?_);delta dictSetHashed
   try with_reducible refine IS ?_
   refine az (ma (X:=X) (s:={ s with toks:=tk }) ho hks hh hok hx hkey hu hf ?_);induction o using Option.casesOn with
   | some m=>
    have hput:aa (ks,setAt xs m v)=aa (ks',xs'):=hput;refine ao (bU hput) λz0 z1=>?_;subst z0;subst z1;refine az (wpAny_rule (az (wpAny_updateDict (s:={ s with toks:=tk }) ho rfl (wpAny_point ?_))));have hs:Jk d s.heap (s.heap.update d (Obj.mapDict λx=>x.modify m λe=>{ e with val:=val })):=Jl ..;refine hQ _ tk hs ?_;have T:=bK (X:=X) hs hX;simp only[aP];refine qi (es.modify m λe=>{ e with val:=val }) ⟨⟨hsys,by simpa using hz⟩,?_⟩ ?_ ?_ ?_ hok
    ·obtain⟨n',hd'⟩:∃n',(Obj.mapDict (λx=>x.modify m λe=>{ e with val:=val }) (dH es n))=dH (es.modify m λe=>{ e with val:=val }) n':=by
      refine⟨n,?_⟩;delta Obj.mapDict dH;simp
     exact⟨n',by rw[Ji _ ho (by rw[hd'];rfl),hd']⟩
    ·simp only[lR (f:=λe:I2=>e.key) (g:=λe=>{ e with val:=val }) (hg:=λJ=>rfl)];exact hks.tr T
    ·simp only[k8 (f:=λe:I2=>e.val) (g:=λe=>{ e with val:=val }) (b:=val) (hg:=λJ=>rfl),oJ];exact av.set (hxs.tr T) (hval.tr T)
    ·simp only[lR (f:=λe:I2=>e.hash) (g:=λe=>{ e with val:=val }) (hg:=λJ=>rfl)];exact hh
   | none=>
    have hput:(@Jp (λJ=>Option (List V×List V)) ae (aa (app ks [k],app xs [v])) (short lid ks))=aa (ks',xs'):=hput;refine ao (cL hput) λhsh hput=>?_;refine ao (bU hput) λz0 z1=>?_;subst z0;subst z1;have hlen:=hks.length;simp only[Jv]at hlen;have hsz:=dZ hsh;have hl:lid=3000:=rfl;refine az (wpAny_rule (wpAny_updateDictKeys (s:={ s with toks:=tk }) ho rfl ?_ (by simp only[bt,Ju];lia)));have hs:Jk d s.heap (s.heap.update d (Obj.mapDictKeys λx=>x.push ⟨dM C.w k,key,val⟩)):=Jl ..;refine hQ _ tk hs ?_;have T:=bK (X:=X) hs hX;simp only[aP];refine qi (es++[⟨dM C.w k,key,val⟩]) ⟨⟨hsys,by simp;lia⟩,?_⟩ ?_ ?_ ?_ ?_
    ·obtain⟨n',hd'⟩:∃n',(Obj.mapDictKeys (λx=>x.push ⟨dM C.w k,key,val⟩) (dH es n))=dH (es++[⟨dM C.w k,key,val⟩]) n':=by
      refine⟨n+1,?_⟩;delta Obj.mapDictKeys dH;simp
     exact⟨n',by rw[Ji _ ho (by rw[hd'];rfl),hd']⟩
    ·simp only[List.map_append,gj];exact(hks.tr T).append (.cons (hkey.tr T) .nil)
    ·simp only[List.map_append,gj];exact(hxs.tr T).append (.cons (hval.tr T) .nil)
    ·simp only[List.map_append,hh,gj,mu];simp[bq]
    ·intro q hq;simp only[gj]at hq;rcases List.mem_append.mp hq with hq|hq
     ·exact hok q hq
     ·simp at hq;clear hkey hf hQ hs T;subst hq;exact hx
end
inductive Kd where
 | l (elt:Expr)
 | d (k:Expr) (u:Bool) (ck:Nat) (cp:Pos)
noncomputable def Kd.elt:Kd->Expr
 | .l e=>e
 | .d k _ _ _=>k
noncomputable def Kd.expr:Kd->List I3->Jc->Pos->Expr
 | .l e,gs,sc,pos=>.ListComp e gs sc pos
 | .d k u ck cp,gs,sc,pos=>.DictComp k (.Constant (.bool u) ck cp) gs sc pos
noncomputable def Kd.emit(K:Kd)(acc:IZ)(env:Env):Sem Unit:=match K with
 | .l e=>do let _ ← call (.builtin "list.append") [acc,← eval e env]
 | .d k u ck cp=>do
  let kv ← eval k env
  let vv ← holding [kv] (eval (.Constant (.bool u) ck cp) env)
  match acc with
  | .ref D=>do
   standAt { k.pos with endLine:=cp.endLine,endCol:=cp.endCol }
   holding [kv,vv] (dictSet D kv vv)
  | _=>unsupported "internal:dictcomp"
noncomputable def Kd.inner(K:Kd)(gs:List I3)(sc:Jc)(pos:Pos)(i:Nat)(acc:IZ)(env:Env)(k:Sem Fin):Sem Fin:=match gs[i]? with
 | some g'=>do
  let x ← eval g'.iter env
  standAt g'.iter.pos
  let x ← if g'.is_async !=0 then foldedIterable g'.iter x else foldedSetIterable g'.iter env x
  let _ ← runOwn (.compStart (K.expr gs sc pos) i (← holding [x] (if g'.is_async !=0 then asyncIter x else pyIter x)) acc env) env
  k
 | none=>do
  K.emit acc env
  k
theorem uC(K:Kd)(gs:List I3)(sc:Jc)(pos:Pos)(i:Nat)(t src:Expr)(ifs:List Expr)(h:gs[i]?=aa ⟨t,src,ifs,0⟩)(it acc:IZ)(env:Env):
  compTurn (K.expr gs sc pos) i it acc env=(do
   standAt src.pos
   match ← pyNext it with
   | none=>pure (.done .next)
   | some v=>
    I8 t it v
    assign t env v
    let ok ← forIn ifs af λc r=>if r=af then do let ok ← isTrue c env (eval c env);pure (ForInStep.yield ok) else pure (ForInStep.yield r)
    if ok=af then K.inner gs sc pos (i+1) acc env (again (.compLoop (K.expr gs sc pos) i it acc env))
    else again (.compLoop (K.expr gs sc pos) i it acc env)):=by
 induction K using Kd.casesOn with
 | l e=>
  delta compTurn Kd.expr;simp only[h];rfl
 | d k u ck cp=>
  delta compTurn Kd.expr;simp only[h];rfl
set_option backward.eqns.nonrecursive false in
noncomputable def ml:Kd->List V->Option V
 | .l _,m=>aa (.lst m)
 | .d _ u _ _,m=>eX m (.bool u) [] []
def Fits(K:Kd)(m:List V):Prop:=short lid m=af/\∃v,ml K m=aa v
def hM(C:Cfg)(K:Kd)(X:AP)(h:Heap)(m:List V)(D:I1):Prop:=∃v,ml K m=aa v/\aP C X h v D
theorem lT(u k:V)(r ks vs:List V):eX (k::r) u ks vs=match eV ks vs k u with|some (ks,vs)=>eX r u ks vs|none=>ae:=rfl
theorem jU(u:V):∀(l m:List V)(ks vs:List V),eX (l++m) u ks vs=match eX l u ks vs with
  | some (.bh ks vs)=>eX m u ks vs
  | _=>ae
 | [],_,_,_=>rfl
 | k::r,m,ks,vs=>by
  rw[List.cons_append,lT,lT];induction eV ks vs k u using Option.casesOn with
  | none=>rfl
  | some q=>exact jU u r m q.1 q.2
theorem rl(u:V):∀(l:List V)(ks vs:List V)(r:V),eX l u ks vs=aa r->∃ks vs,r=.bh ks vs
 | [],ks,vs,r,e=>by obtain rfl:=Jd e;exact fU _ _ rfl
 | k::l,ks,vs,r,e=>by
  unfold eX at e;refine oc (eV ks vs k u) (λhp=>?_) λq hp=>?_
  ·rw[hp]at e;exact nS e
  ·rw[hp]at e;exact rl u l q.1 q.2 r e
theorem yx{α:Type}{n:Nat}{l:List α}(h:l.length<=n):short n l=af:=by
 induction l generalizing n with
 | nil=>clear h;induction n using Nat.casesOn<;>rfl
 | cons a l ih=>
  induction n using Nat.casesOn with
  | zero=>simp at h
  | succ n=>exact ih (by simpa using h)
theorem Fits.left{K:Kd}{m k:List V}(h:Fits K (m++k)):Fits K m:=by
 refine ao h λh1 zq=>?_;refine aw zq λv h2=>?_;refine⟨yx (by have:=dZ h1;simp at this;exact JF (Nat.le_add_right _ _) this),?_⟩;induction K using Kd.casesOn with
 | l e=>exact⟨_,rfl⟩
 | d k' u ck cp=>
  dsimp only[ml]at h2 ⊢;rw[jU]at h2;induction hk:eX m (.bool u) [] []using Option.casesOn with
  | none=>rw[hk]at h2;exact nS h2
  | some r=>exact⟨r,rfl⟩
noncomputable def Y2(Pn:AP)(D L:I1):AP:=λb=>Pn b\/b=D\/b=L
noncomputable def X2(X:AP)(D L:I1):AP:=λb=>X b\/b=D\/b=L
noncomputable def YW(Y:AP)(wr:List I1):AP:=λb=>Y b\/b∈wr
section
variable{cx cx' ci:Cx}{b:Bool}{X X' Y Pn:AP}{h h':Heap}{s s':IY}{A:I0}{n:Nat}{ρ ρ':Fr}{p p':List V}{env:Env}{E:IZ->IY->Prop}{wr:List I1}{D L:I1}
theorem Ext.grow(e:Ext C Pn h h')(hY:∀b,Pn b->Y b):Ext C Y h h':=⟨e.base,λb o g hp=>e.keep b o g λq=>hp (hY b q),λb o g hp=>e.data b o g λq=>hp (hY b q),λX x=>(e.tab X x).mono λc q J=>⟨q.1,λr=>q.2.1 (hY c r),q.2.2⟩⟩
theorem Nx.grow(e:Nx C Pn s s')(hY:∀b,Pn b->Y b):Nx C Y s s':=⟨e.ext.grow hY,e.gens,e.os⟩
theorem Ext.shrink(e:Ext C Y h h')(hY:∀b,Y b->Pn b\/h.get? b=ae):Ext C Pn h h':=
 have k:∀b o,h.get? b=aa o->¬Pn b->¬Y b:=λb o g hp q=>(hY b q).elim hp λr=>by replace r:=g▸r;exact sN r
 ⟨e.base,λb o g hp=>e.keep b o g (k b o g hp),λb o g hp=>e.data b o g (k b o g hp),λX x=>(e.tab X x).mono λc q J=>⟨q.1,let ⟨o,g⟩:=q.2.2;k c o g q.2.1,q.2.2⟩⟩
theorem Nx.shrink(e:Nx C Y s s')(hY:∀b,Y b->Pn b\/s.heap.get? b=ae):Nx C Pn s s':=⟨e.ext.shrink hY,e.gens,e.os⟩
theorem jg.base(k:jg wr s s')(h0:∀c∈wr,C.h₀.get? c=ae)(hb:Base C s.heap):Base C s'.heap:=λb o e=>k.keep b o (λq=>by replace e:=(h0 b q)▸e;exact nS e) (hb b o e)
theorem jg.nx(k:jg wr s s')(hb:Base C s'.heap)(hY:∀c∈wr,Y c)(hn:∀c∈wr,NC s.heap c):Nx C Y s s':=
 have k':∀b o,s.heap.get? b=aa o->¬Y b->s'.heap.get? b=aa o:=λb o e q=>k.keep b o (λm=>q (hY b m)) e
 ⟨⟨hb,λb o e q J=>k' b o e q,λb o e q=>aU o (k' b o e q) rfl (.inr rfl),λX x=>x.but (W:=λb=>b∈wr) (λb o e q=>k.keep b o q e) hn λb q=>.inl q.1⟩,k.gens,k.os⟩
structure nB(C:Cfg)(X:AP)(s s':IY):Prop where
 tab:cX C X s.heap->cX C X s'.heap
 keep:∀b o,s.heap.get? b=aa o->cv o.cls\/X b->s'.heap.get? b=aa o
 base:Base C s'.heap
theorem jg.i8(k:jg wr s s')(hX:∀c∈wr,¬X c)(h0:∀c∈wr,C.h₀.get? c=ae)(hr:∀b∈wr,∀ob,s.heap.get? b=aa ob->¬cv ob.cls)(hb:Base C s.heap)(hn:∀c∈wr,NC s.heap c):nB C X s s':=
 ⟨λx=>x.qQ (W:=λb=>b∈wr) (λb o e q=>k.keep b o q e) hn,λb o e q=>k.keep b o (λm=>q.elim (hr b m o e) (hX b m)) e,k.base h0 hb⟩
theorem nB.tr(k:nB C X s s'):Tr X s.heap X s'.heap:=λa o e hc hx=>⟨k.keep a o e (.inl hc),hx⟩
theorem nB.own{v:V}{a:I1}(k:nB C X s s')(r:aP C X s.heap v a):aP C X s'.heap v a:=by
 refine aj r.obj λo ho hc=>?_;exact r.tr k.tr λo' e' J=>k.keep a o' e' (.inl (by rw[ho]at e';obtain rfl:=Jd e';exact hc))
theorem Reads.i8{x:Str}{val:IZ}(k:nB C X s s')(hL:X env.locals)(r:Reads env s.heap x val):Reads env s'.heap x val:=by
 delta Reads at r ⊢
 split at r
 ·refine aj r λm hn hm=>?_;exact au m (hn.at' λo e=>k.keep _ o e (.inr hL)) hm
 ·refine aj r λc hc zq=>?_;refine aQ zq λo ho hcl hd=>?_;exact au c hc ⟨o,k.keep c o ho (.inl (by refine rwl hcl ?_;exact .inr (.inr (.inr (.inr rfl))))),hcl,hd⟩
 ·refine aj r λc hc zq=>?_;refine aQ zq λo ho hcl hd=>?_;exact au c hc ⟨o,k.keep c o ho (.inl (by refine rwl hcl ?_;exact .inr (.inr (.inr (.inr rfl))))),hcl,hd⟩
 ·exact r.elim
theorem bA.i8(R:bA C X Pn s.heap p)(hp:∀b,Pn b->X b)(k:nB C X s s'):bA C X Pn s'.heap p:=R.tr k.tr λb o hb ho J=>k.keep b o ho (.inr (hp b hb))
theorem dE.i8{sl:Slot}{val:IZ}(r:dE C X Pn s.heap sl val)(k:nB C X s s'):dE C X Pn s'.heap sl val:=by
 induction sl using Slot.casesOn with
 | undef=>trivial
 | val v=>exact aq.tr k.tr r
 | own v=>refine de r λa e hx hn q=>?_;exact fm a e hx hn (k.own q)
 | aE=>exact r
theorem Vw.i8(v:Vw C cx X Pn env ρ p s.heap)(hL:X env.locals)(k:nB C X s s'):Vw C cx X Pn env ρ p s'.heap where
 kind:=v.kind
 globals:=v.globals
 builtins:=v.builtins
 kinds:=v.kinds
 cells:=v.cells
 vars x j hx hu:=by
  refine aQ (v.vars x j hx hu) λval a c d=>?_;exact aU val (a.i8 k hL) (c.i8 k) d
 own:=v.own
 caps:=v.caps
 code:=v.code
 tab:=k.tab v.tab
 aE:=v.aE.i8 v.pnX k
 pnX:=v.pnX
 base:=k.base
 lt c hc:=let ⟨o,ho⟩:=v.lt c hc;⟨o,k.keep c o ho (.inr hc)⟩
 fresh:=v.fresh
theorem Loc.i8(l:Loc C X Pn env s.heap)(k:nB C X s s'):Loc C X Pn env s'.heap:=let ⟨_,hm⟩:=l.ns;⟨⟨_,hm.at' λo e=>k.keep _ o e (.inr l.inX)⟩,l.inX,l.new⟩
theorem hM.i8{K:Kd}{m:List V}(r:hM C K X s.heap m D)(k:nB C X s s'):hM C K X s'.heap m D:=let ⟨v,e,q⟩:=r;(au v e (k.own q))
theorem hM.ext{K:Kd}{m:List V}(r:hM C K X h m D)(e:Ext C Pn h h')(hp:∀b,Pn b->X b)(hD:¬Pn D):hM C K X h' m D:=let ⟨v,e',q⟩:=r;(au v e' (q.ext e hp hD))
def iZ(cx:Cx)(ρ:Fr):Prop:=∀x j v,cx.vars.lookup x=aa j->aJ j ρ≠.own v
theorem Vw.grown {o:Obj} (v:Vw C cx X Pn env ρ p h) (hno:iZ cx ρ) (hs:Jk D h h') (hX:X D) (hD:¬Pn D) (hDL:D≠env.locals) (hcl:∃o,h.get? D=aa o/\o.cls≠.type "cell") (hnc:NC h D) (ho:h'.get? D=aa o):Vw C cx X Pn env ρ p h':=by
 have t:=bK (X:=X) hs hX;have cell:∀{c:I1}{w:IZ},du h c w->du h' c w:=λ{c w} x=>by
  refine aQ x λmO h1 hc hd=>?_;refine aU mO (hs.extBut c mO (λq=>?_) h1) hc hd;clear hs hX hD hDL hnc ho;subst q;refine aj hcl λo' ho' hne=>?_;rw[h1]at ho';obtain rfl:=Jd ho';exact hne hc
 refine { kind:=v.kind,globals:=v.globals,builtins:=v.builtins,kinds:=v.kinds,cells:=v.cells,vars:=λx j hx hu=>?_,own:=v.own,caps:=v.caps,code:=v.code,tab:=v.tab.qQ (W:=λb=>b=D) (λb o e q=>hs.extBut b o q e) (λb q=>q▸hnc),aE:=v.aE.tr t λb o hb ho J=>hs.extBut b o (λq=>hD (q▸hb)) ho,pnX:=v.pnX,base:=λb o e=>hs.extBut b o (λq=>by clear hs hD hDL hcl hnc ho;subst q;rw[v.fresh _ hX]at e;exact nS e) (v.base b o e),lt:=λb hb=>?_,fresh:=v.fresh }
 ·refine aQ (v.vars x j hx hu) λval a c d=>?_;refine aU val ?_ ?_ d
  ·unfold Reads at a ⊢
   split at a
   ·refine aj a λm hn hm=>?_;exact au m (hn.at' λo e=>hs.extBut _ o (Ne.symm hDL) e) hm
   ·refine aj a λc hc q=>?_;exact au c hc (cell q)
   ·refine aj a λc hc q=>?_;exact au c hc (cell q)
   ·exact a.elim
  ·induction hg:aJ j ρ using Slot.casesOn with
   | undef=>trivial
   | val w=>rw[hg]at c;exact aq.tr t c
   | own w=>exact absurd hg (hno x j w hx)
   | aE=>rw[hg]at c;exact c
 ·by_cases q:b=D
  ·clear hs hX hD hDL hcl hnc;subst q;exact⟨o,ho⟩
  ·refine aw (v.lt b hb) λo' ho'=>?_;exact⟨o',hs.extBut b o' q ho'⟩
theorem Loc.grown(l:Loc C X Pn env h)(hs:Jk D h h')(hDL:D≠env.locals):Loc C X Pn env h':=let ⟨_,hm⟩:=l.ns;⟨⟨_,hm.at' λo e=>hs.extBut _ o (Ne.symm hDL) e⟩,l.inX,l.new⟩
end
section
variable{cx cx' ci:Cx}{b:Bool}{X X' Y Pn:AP}{h h':Heap}{s s':IY}{A:I0}{n:Nat}{ρ ρ':Fr}{p p':List V}{env:Env}{E:IZ->IY->Prop}{wr:List I1}{D L:I1}{call:Call}
theorem Ends.of_ok{r:Res}{v:V}{Q:IZ->IY->Prop}(e:r=.ok v p')(h:∀val s',Nx C Pn s s'->bA C X Pn s'.heap p'->jo b C X Pn s'.heap v val->Q val s'):Ends C b X Pn r Q E s:=by
 subst e;exact⟨by simp,λv p e=>by injection e with zq1 zq2;(try subst zq1);(try subst zq2);exact h,λJ J e=>(nomatch e)⟩
theorem bH.of_ok{α:Type}{r:Out α}{v:α}{Q:α->IY->Prop}(e:r=.ok v p')(h:∀s',Nx C Pn s s'->bA C X Pn s'.heap p'->Q v s'):bH C X Pn r Q E s:=by
 subst e;exact⟨by simp,λv p e=>by injection e with zq1 zq2;(try subst zq1);(try subst zq2);exact h,λJ J e=>(nomatch e)⟩
set_option tactic.hygienic true
theorem aP.nK {v:V} {a:I1} (r:aP C X h v a):∃o,h.get? a=aa o/\o.cls≠.type "cell" := by
 induction v using V.casesOn<;>simp only[aP]at r
 case lst l=>refine aj r λvs z0 y=>?_;refine ao z0 λz zq=>?_;refine aw zq λn x=>?_;exact au _ x (by simp[dn])
 case bh ks xs=>refine de r λes z0 y w q=>?_;refine ao z0 λz zq=>?_;refine aw zq λn x=>?_;exact au _ x (by simp[dH])
theorem aP.nc{v:V}{a:I1}(r:aP C X h v a):NC h a:=by
 induction v using V.casesOn<;>simp only[aP]at r
 case lst l=>refine aj r λvs z0 y=>?_;refine ao z0 λz zq=>?_;refine aw zq λn x=>?_;exact .jT x rfl (by decide)
 case bh ks xs=>refine de r λes z0 y w q=>?_;refine ao z0 λz zq=>?_;refine aw zq λn x=>?_;exact .jT x rfl (by decide)
set_option tactic.hygienic false
theorem ic{o:Obj}(hb:Base C s.heap)(hs:Jk D s.heap h')(h0:C.h₀.get? D=ae)(hY:Y D)(hn:NC s.heap D)(tk:Tok):Nx C Y s { s with heap:=h',toks:=tk }:=
 have k:∀b o,s.heap.get? b=aa o->¬Y b->h'.get? b=aa o:=λb o e q=>hs.extBut b o (λr=>q (r▸hY)) e
 ⟨⟨λb o e=>hs.extBut b o (λq=>by clear hs hY hn;subst q;rw[h0]at e;exact nS e) (hb b o e),λb o e q J=>k b o e q,λb o e q=>aU o (k b o e q) rfl (.inr rfl),λX x=>x.but (W:=λb=>b=D) (λb o e q=>hs.extBut b o q e) (λb q=>q▸hn) λb q=>.inl q.1⟩,rfl,rfl⟩
theorem pK{u k:V}{m ks vs:List V}(e:eX m u [] []=aa (.bh ks vs)):eX (m++[k]) u [] []=match eV ks vs k u with|some (ks,vs)=>aa (.bh ks vs)|none=>ae:=by
 rw[jU,e];show eX [k] u ks vs=_;rw[lT];induction eV ks vs k u using Option.casesOn<;>rfl
theorem zh{K:Kd}{d:aA}{m:List V}{v:V}{Q:Unit->IY->Prop}(he:aL C ci ag K.elt d)(hc:dJ C n call)(hv:Vw C ci X Pn env ρ p s.heap)(l:Loc C X Pn env s.heap)(hno:iZ ci ρ)(hk:bf C A s.heap)(hr:dU A n)
  (hD:hM C K X s.heap m D) (hX:X D) (hDP:¬Pn D) (hDL:D≠env.locals) (e:d call ρ p=.ok v p') (hF:Fits K (m++[v]))
  (hQ:∀s',Nx C (Y2 Pn D env.locals) s s'->Vw C ci X Pn env ρ p' s'.heap->Loc C X Pn env s'.heap->hM C K X s'.heap (m++[v]) D->Q () s'):wpAny (model C.prog C.w) A (K.emit (.ref D) env) Q E s:=by
 have hYD:Y2 Pn D env.locals D:=.inr (.inl rfl);induction K using Kd.casesOn with
 | l elt=>
  show wpAny _ A (eval elt env >>= λx=>PySem.call (.builtin "list.append") [.ref D,x] >>= λJ=>pure ()) _ _ _;refine az (he n call hc X Pn env ρ p s A _ E hv hk hr (.of_ok e λval s₁ hn hp hval=>?_));have v1:=hv.next hn.ext hp;have lS:=l.ext hv.aE hn.ext;refine aj (hD.ext hn.ext hv.pnX hDP) λw ew hD1=>?_;simp only[ml,Je]at ew;subst ew;have hcl:=hD1.nK;have hnc:=hD1.nc;simp only[aP]at hD1;refine aj hD1 λvs hl hvs=>?_;have hT:s₁.TypeIs (.ref D) "list" := let ⟨_,k,ho⟩:=hl;(au _ ho rfl)
  refine az (IU slot_list_append hT entry_list_append ?_ (args_list_append _ _));show wpAny _ _ (updateSeq D (·.push val) >>= λJ=>ret .none) _ _ s₁;have hlen:=hvs.length;have hsh:=dZ hF.1;have hm:most=8000:=rfl;have hli:lid=3000:=rfl;refine az (sW (ws:=vs++[val]) hl (by simp) (by simp at hsh ⊢;omega) λbS hs lV=>?_);refine IP (au _ rfl (IP ?_));have T:=bK (X:=X) hs hX;refine hQ _ ((hn.grow λJ q=>.inl q).trans (ic (o:=default) v1.base hs (v1.fresh _ hX) hYD hnc _)) ?_ (lS.grown hs hDL) (au (.lst (m++[v])) rfl ?_)
  ·refine ao lV λzz zq=>?_;refine aw zq λk ho=>?_;exact v1.grown hno hs hX hDP hDL hcl hnc ho
  ·simp only[aP];exact au _ lV ((hvs.tr T).append (.cons (aq.tr T hval) .nil))
 | d k u ck cp=>
  show wpAny _ A (eval k env >>= λkv=>holding [kv] (eval (.Constant (.bool u) ck cp) env) >>= λvv=>standAt { k.pos with endLine:=cp.endLine,endCol:=cp.endCol } >>= λJ=>holding [kv,vv] (dictSet D kv vv)) _ _ _;refine az (he n call hc X Pn env ρ p s A _ E hv hk hr (.of_ok e λval s₁ hn hp hval=>?_));have v1:=hv.next hn.ext hp;have lS:=l.ext hv.aE hn.ext;refine aj (hD.ext hn.ext hv.pnX hDP) λw ew hD1=>?_;simp only[ml]at ew;refine dX (rl _ _ _ _ _ ew) λks xs z0=>?_;subst z0;have hcl:=hD1.nK;have hnc:=hD1.nc;refine ao hF λzz zq=>?_;refine aw zq λw ew'=>?_;simp only[ml]at ew';rw[pK ew]at ew';refine oc (eV ks xs v (.bool u)) (λhput=>?_) λq hput=>?_
  ·rw[hput]at ew';exact nS ew'
  ·
   obtain⟨ks',xs'⟩:=q;refine az (IS (wpAny_Constant_bool (az (IV (IS ?_)))));refine nd hD1 hX hput hval (by simp[aq]) (by have:=hr.units;omega) λbS tk hs pQ=>?_;refine hQ _ ((hn.grow λJ q=>.inl q).trans (ic (o:=default) v1.base hs (v1.fresh _ hX) hYD hnc _)) ?_ (lS.grown hs hDL) (au (.bh ks' xs') ?_ pQ)
   ·refine aj pQ.obj λo ho zz=>?_;exact v1.grown hno hs hX hDP hDL hcl hnc ho
   ·simp only[ml];rw[pK ew,hput]
end
structure BX(cx cx':Cx)(ρ ρ':Fr):Prop where
 sc:cx'.sc=cx.sc
 muts:cx'.muts=cx.muts
 caps:cx'.caps=cx.caps
 vars:∀x j,cx.vars.lookup x=aa j->cx'.vars.lookup x=aa j/\aJ j ρ'=aJ j ρ
section
variable{cx cx' ci:Cx}{b:Bool}{X X' Y Pn:AP}{h h':Heap}{s s':IY}{A:I0}{n:Nat}{ρ ρ':Fr}{p p':List V}{env:Env}{E:IZ->IY->Prop}{wr:List I1}{D L:I1}{call:Call}
theorem qR{x:Str}{sl:Slot}(O:bD cx)(hf:cx.vars.lookup x=ae):BX cx (cV cx x) ρ (sets cx.next ρ sl):=by
 refine⟨rfl,rfl,rfl,λy j hy=>?_⟩;have hne:y≠x:=λq=>by subst q;simp only[hf]at hy;exact nS hy
 refine⟨by simp[cV,cb,hne,hy],?_⟩;rw[cG,if_neg];intro q;have:=O.lt y j hy;lia
theorem BX.trans{cx'':Cx}{ρ'':Fr}(a:BX cx cx' ρ ρ')(b:BX cx' cx'' ρ' ρ''):BX cx cx'' ρ ρ'':=
 ⟨b.sc.trans a.sc,b.muts.trans a.muts,b.caps.trans a.caps,λx j h=>let ⟨q,r⟩:=a.vars x j h;let ⟨q',r'⟩:=b.vars x j q;⟨q',r'.trans r⟩⟩
theorem mj{x:Str}{v:V}(O:bD cx)(hn:iZ cx ρ):iZ (cV cx x) (sets cx.next ρ (.val v)):=by
 intro y j w hy;rw[cG];rcases qS O y j hy with⟨rfl,rfl⟩|⟨_,hj,hy'⟩
 ·by_cases h16:cx.next<16
  ·rw[if_pos ⟨rfl,h16⟩];intro q;exact(nomatch q)
  ·rw[if_neg (λq=>h16 q.2),eS (Nat.not_lt.mp h16)];intro q;exact(nomatch q)
 ·rw[if_neg (λq=>hj q.1)];exact hn y j w hy'
set_option tactic.hygienic true
theorem Cr{t:Expr}{tg:eN}{v:V}(hb:bindC cx t=aa cx')(ht:lC cx'.vars t=aa tg)(O:bD cx)(e:d4 tg v ρ=aa ρ'):BX cx cx' ρ ρ'/\bD cx'/\(iZ cx ρ->iZ cx' ρ'):=by
 rcases kP hb with⟨x,px,rfl,hf,rfl⟩|⟨x,px,y,py,k,pt,rfl,fx,fy,hne,rfl⟩
 ·refine bM (fJ hf) λf1 f2 f3=>?_;obtain rfl:=Jd ((w7 (j:=cx.next) (by simp[cV,cb])).symm.trans ht);simp only[d4,Je]at e;subst e;exact⟨qR O f1,iS O,mj O⟩
 ·refine bM (fJ fx) λf1 f2 f3=>?_;refine bM (fJ fy) λg1 g2 g3=>?_;have l1:(cV (cV cx x) y).vars.lookup x=aa cx.next:=by simp[cV,cb,hne]
  have l2:(cV (cV cx x) y).vars.lookup y=aa (cx.next+1):=by simp[cV,cb]
  obtain rfl:=Jd ((w6 l1 l2).symm.trans ht);have key:∃u w,v=.tup [u,w]/\ρ'=sets (cx.next+1) (sets cx.next ρ (.val u)) (.val w):=nq e;refine bY key λu w z0 z1=>?_;clear key;subst z0;clear e;subst z1;have O':=iS (x:=x) O;have hg:(cV cx x).vars.lookup y=ae:=by simp[cV,cb,Ne.symm hne,g1]
  exact⟨(qR O f1).trans (qR O' hg),iS O',λhn=>mj O' (mj O hn)⟩
theorem Vw.drop(v:Vw C cx' X Pn env ρ' p h)(B:BX cx cx' ρ ρ'):Vw C cx X Pn env ρ p h where
 kind:=v.kind
 globals:=v.globals
 builtins:=v.builtins
 kinds:=by refine rwl B.sc.symm ?_;exact v.kinds
 cells:=v.cells
 vars x j hx hu:=by
  refine ao (B.vars x j hx) λq r=>?_;rw[← r]at hu ⊢;exact v.vars x j q hu
 own x j w hx hg:=by
  refine ao (B.vars x j hx) λq r=>?_;replace hg:=r.symm▸hg;refine rwl B.muts.symm ?_;exact v.own x j w q hg
 caps:=by refine rwl B.caps.symm ?_;exact v.caps
 code:=by refine rwl B.caps.symm ?_;exact v.code
 tab:=v.tab
 aE:=v.aE
 pnX:=v.pnX
 base:=v.base
 lt:=v.lt
 fresh:=v.fresh
inductive j4(C:Cfg):Bool->Cx->Cx->Expr->List I3->G->Prop
 | one {cx ci:Cx} {elt:Expr} {d:aA}:aL C ci ag elt d->j4 C ag cx ci elt [] (cu d)
 | clause {b:Bool} {cx ci cx':Cx} {elt t src:Expr} {ifs:List Expr} {gs:List I3} {sd:aA} {tg:eN} {cs:List aA} {g:G} {own:Bool}:
   eC C cx b src sd own->(∀env x,foldedSetIterable src env x=pure x)->bindC ci t=aa cx'->fP t own=af->lC cx'.vars t=aa tg->jD C cx' ifs cs->j4 C ag cx' cx' elt gs g->
   j4 C b cx ci elt (⟨t,src,ifs,0⟩::gs) (cg tg sd cs g)
set_option tactic.hygienic false
theorem yn(K:Kd)(gs:List I3)(sc:Jc)(pos:Pos)(i:Nat)(t src:Expr)(ifs:List Expr)(h:gs[i]?=aa ⟨t,src,ifs,0⟩)(it acc:IZ)(env:Env):
  compStart (K.expr gs sc pos) i it acc env=(do
   if (← ask).params.followText "comprehension-iter-twice" then return ← again (.compLoop (K.expr gs sc pos) i it acc env)
   rule "comprehension.iter-twice"
   standAt src.pos
   again (.compLoop (K.expr gs sc pos) i (← pyIter it) acc env)):=by
 induction K using Kd.casesOn with
 | l e=>
  unfold compStart;refine rwl (show clausesOf (Kd.expr (.l e) gs sc pos)=gs from rfl) (rwl h ?_);rfl
 | d k u ck cp=>
  unfold compStart;refine rwl (show clausesOf (Kd.expr (.d k u ck cp) gs sc pos)=gs from rfl) (rwl h ?_);rfl
theorem tQ(K:Kd)(gs:List I3)(sc:Jc)(pos:Pos)(i:Nat)(it acc:IZ)(env:Env):(model C.prog C.w).den (.compStart (K.expr gs sc pos) i it acc env)=(compStart (K.expr gs sc pos) i it acc env).onRaise (λx=>do noteFrame x env;standAt theWindowsPlace):=by
 induction K using Kd.casesOn<;>rfl
theorem oo(K:Kd)(gs:List I3)(sc:Jc)(pos:Pos)(i:Nat)(it acc:IZ)(env:Env):(model C.prog C.w).den (.compLoop (K.expr gs sc pos) i it acc env)=(compTurn (K.expr gs sc pos) i it acc env).onRaise (λx=>do noteFrame x env;theTreesLotGoes x):=by
 induction K using Kd.casesOn<;>rfl
theorem um(K:Kd)(gs:List I3)(sc:Jc)(pos:Pos)(i:Nat)(it acc:IZ)(env:Env):A.under (.compStart (K.expr gs sc pos) i it acc env)=A:=by
 induction K using Kd.casesOn<;>rfl
theorem pg(K:Kd)(gs:List I3)(sc:Jc)(pos:Pos)(i:Nat)(it acc:IZ)(env:Env):A.under (.compLoop (K.expr gs sc pos) i it acc env)=A:=by
 induction K using Kd.casesOn<;>rfl
theorem il(K:Kd)(gs:List I3)(sc:Jc)(pos:Pos)(i:Nat)(it acc:IZ)(env:Env):(Code.compLoop (K.expr gs sc pos) i it acc env).quiet=af:=by
 induction K using Kd.casesOn<;>rfl
theorem qY{K:Kd}{gs:List I3}{sc:Jc}{pos:Pos}{i:Nat}{t src:Expr}{ifs:List Expr}{it acc:IZ}{R:Result->IY->Prop}(h:gs[i]?=aa ⟨t,src,ifs,0⟩)
  (h0:codeAny (model C.prog C.w) A (.compLoop (K.expr gs sc pos) i it acc env) R s)
  (h1:wpAny (model C.prog C.w) A (pyIter it) (λit' s'=>codeAny (model C.prog C.w) A (.compLoop (K.expr gs sc pos) i it' acc env) R s') (notedBy (model C.prog C.w) A env λx s'=>R (.error x) s') s):
  codeAny (model C.prog C.w) A (.compStart (K.expr gs sc pos) i it acc env) R s:=by
 refine codeAny_of_tree ?_;rw[um];rw[tQ];refine wpAny_notedAt ?_;rw[yn K gs sc pos i t src ifs h];refine az (wpAny_askSetting (wpAny_ite ?_))
 split
 ·first
   | exact az (IP (IP (And.intro (il ..) h0)))
   | exact IP (And.intro (il ..) h0)
 ·exact az (wpAny_rule (az (IV (az (IX h1 (λit' s' h'=>IP (And.intro (il ..) h')) λJ J x=>x)))))
end
section
variable{cx cx' ci:Cx}{b:Bool}{X X' Y Pn:AP}{h h':Heap}{s s':IY}{A:I0}{n:Nat}{ρ ρ':Fr}{p p':List V}{env:Env}{E:IZ->IY->Prop}{wr:List I1}{D L:I1}{call:Call}
def Off(A:I0)(D L:I1):Prop:=∀l,A.frames=aa l->∀e∈l,∀F,e.frame=aa F->F≠D/\F≠L
theorem Frames.ext2(e:Ext C Y h h'){l:List Env}(hF:∀e∈l,∀F,e.frame=aa F->¬Y F)(H:Frames C h l):Frames C h' l:=
 H.imp' λx hx L o hf ho hc=>aQ (e.data L o ho (hF x hx L hf)) λo' ho' hc' hd'=>aU o' ho' (hc'.trans hc) (λq=>hd'.elim (λz=>nomatch (hc.symm.trans z.1)) λe=>e▸q)
theorem Frames.cls{l:List Env}(H:Frames C h l)(e:Env)(he:e∈l)(F:I1)(hF:e.frame=aa F):∃o,h.get? F=aa o/\o.cls=aY:=
 dO (H.at_ e he) λL o hf J ho z=>au o ((Jd (hf.symm.trans hF))▸ho) (dX z λJ J z=>z.1)
theorem bf.ext2(e:Ext C Y h h')(k:bf C A h)(hF:∀F o,h.get? F=aa o->o.cls=aY->Y F->(∃l,A.frames=aa l/\∃e∈l,e.frame=aa F)->False):bf C A h':=by
 refine aj k λl hl fr=>?_;refine au l hl (fr.ext2 e λx hx F hf hy=>?_);refine aj (fr.cls x hx F hf) λo ho hc=>?_;exact hF F o ho hc hy (au l hl ⟨x,hx,hf⟩)
theorem bf.y2(e:Ext C (Y2 Pn D L) h h')(R:bA C X Pn h p)(off:Off A D L)(k:bf C A h):bf C A h':=
 k.ext2 e λF o ho hc hy ⟨l,hl,x,hx,hf⟩=>by
  have:=off l hl x hx F hf;rcases hy with q|q|q
  ·exact R.frame F o ho hc q
  ·exact this.1 q
  ·exact this.2 q
theorem bf.Ai(k:bf C A s.heap)(q:jg wr s s')(hb:Base C s'.heap)(hc:∀b∈wr,∀ob,s.heap.get? b=aa ob->ob.cls≠aY)(hn:∀c∈wr,NC s.heap c):bf C A s'.heap:=
 k.ext2 (Y:=λb=>b∈wr) (q.nx hb (λJ h=>h) hn).ext λF o ho hcl hy J=>hc F hy o ho hcl
theorem bW.iM{I a:I1}{o:Bool}{l:List V}(r:bW C X Pn h I wr a o l):∀b∈wr,∀ob,h.get? b=aa ob->ob.cls≠aY:=λb hb ob e=>by
 refine dO (r.own.2 b hb) λob' n e' hc zz hn=>?_;rw[e]at e';obtain rfl:=Jd e';exact(bx hc hn.1).1
theorem bW.nc{I a:I1}{o:Bool}{l:List V}(r:bW C X Pn h I wr a o l):∀b∈wr,NC h b:=λb hb=>by
 refine lB (r.own.2 b hb) λob' n e' hc zz zz hn=>?_;exact .jT e' hc hn
theorem qP{tg:eN}{cs:List aA}{g:G}{v:V}{l l':List V}(e:clause tg cs g call ρ (v::l) p=.ok l' p'):
  ∃ρ' q p₁,d4 tg v ρ=aa ρ'/\tests cs call ρ' p=.ok (.bool q) p₁/\(q=af->∃lg bg lr,g call ρ' p₁=.ok lg bg/\clause tg cs g call ρ l bg=.ok lr p'/\l'=lg++lr)/\(q=ag->clause tg cs g call ρ l p₁=.ok l' p'):=by
 have e:(@Option.rec Fr (λJ=>aI) aI.stuck (λρ'=>(@Res.rec (λJ=>aI) aI.stuck (λb p=>(vB aI.stuck (λq=>(@Jp (λJ=>aI) (clause tg cs g call ρ l p)
   (@aI.rec (λJ=>aI) aI.stuck (λlg p=>(@aI.rec (λJ=>aI) aI.stuck (λm p=>aI.ok (app lg m) p) aI.exc (clause tg cs g call ρ l p))) aI.exc (g call ρ' p)) q)) b)) aI.exc (tests cs call ρ' p))) (d4 tg v ρ))=.ok l' p':=e
 induction hb:d4 tg v ρ using Option.casesOn with
 | none=>replace e:=hb▸e;cases e
 | some ρ'=>
  replace e:=hb▸e;induction ht:tests cs call ρ' p using Res.casesOn with
  | stuck=>simp only[ht]at e;injection e
  | exc k q=>simp only[ht]at e;injection e
  | ok b p₁=>
   simp only[ht]at e;induction b using V.casesOn with
   | bool q=>
    refine kC ρ' q p₁ rfl ht (λhq=>?_) (λhq=>?_)
    ·clear ht;subst hq;induction hg:g call ρ' p₁ using aI.casesOn with
     | stuck=>simp only[hg]at e;injection e
     | exc k q=>simp only[hg]at e;injection e
     | ok lg bg=>
      simp only[hg]at e;induction hl:clause tg cs g call ρ l bg using aI.casesOn with
      | stuck=>simp only[hl]at e;injection e
      | exc k q=>simp only[hl]at e;injection e
      | ok lr iL=>
       simp only[hl]at e;injection e with zq1 zq2;(try subst zq1);(try subst zq2)
       exact iG lg bg lr rfl hl (gj _ _)
    ·clear ht;subst hq;exact e
   | _=>cases e
theorem bW.xA{β:Type}{I a:I1}{o:Bool}{l L:List V}{v:V}{tg:Expr}{f:Option IZ->Sem β}{g:IZ->Sem β}{Q:β->IY->Prop}(hlt:∀b,X b->∃o,s.heap.get? b=aa o)(r:bW C X Pn s.heap I wr a o L)(e:L=v::l)(ht:fP tg o=af)
  (hf:∀val,f (aa val)=(I8 tg (.ref I) val >>= λJ=>g val))
  (hQ:∀val s',jg wr s s'->aq C X s'.heap v val->bW C X Pn s'.heap I wr a o l->wpAny (model C.prog C.w) A (g val) Q E s'):
  wpAny (model C.prog C.w) A (pyNext (.ref I)) (λr s₁=>wpAny (model C.prog C.w) A (f r) Q E s₁) E s:=by
 refine IX (r.next (Q:=λval s'=>wpAny (model C.prog C.w) A (g val) Q E s') hlt e ht hQ) (λr s₁ aT=>?_) λJ J x=>x;obtain⟨val,rfl,aT⟩:=aT;rw[hf];exact IQ aT
def yc(C:Cfg)(K:Kd)(gs:List I3)(sc:Jc)(pos:Pos)(i:Nat)(ci:Cx)(g:G):Prop:=
 ∀(n:Nat)(call:Call),dJ C n call->∀(X Pn:AP)(env:Env)(ρ:Fr)(p p':List V)(s:IY)(A:I0)(m l':List V)(D:I1)(k:Sem Fin)(Q:Fin->IY->Prop)(E:IZ->IY->Prop),
  Vw C ci X Pn env ρ p s.heap->Loc C X Pn env s.heap->iZ ci ρ->bD ci->bf C A s.heap->dU A n->hM C K X s.heap m D->X D->¬Pn D->D≠env.locals->Off A D env.locals->g call ρ p=.ok l' p'->Fits K (m++l')->
  (∀s',Nx C (Y2 Pn D env.locals) s s'->Vw C ci X Pn env ρ p' s'.heap->Loc C X Pn env s'.heap->hM C K X s'.heap (m++l') D->wpAny (model C.prog C.w) A k Q E s')->
  wpAny (model C.prog C.w) A (K.inner gs sc pos i (.ref D) env k) Q E s
theorem sT{K:Kd}{gs:List I3}{sc:Jc}{pos:Pos}{i:Nat}{t src:Expr}{ifs:List Expr}{own:Bool}{tg:eN}{cs:List aA}{g:G}{I a:I1}{o:Bool}{R:Result->IY->Prop}
  (hgs:gs[i]?=aa ⟨t,src,ifs,0⟩) (hb:bindC ci t=aa cx') (ht:fP t own=af) (htg:lC cx'.vars t=aa tg) (hT:jD C cx' ifs cs) (hI:yc C K gs sc pos (i+1) cx' g) (hc:dJ C n call)
  (O:bD ci) (hno:iZ ci ρ) (hX:X D) (hDP:¬Pn D) (hDL:D≠env.locals) (off:Off A D env.locals) (hr:dU A n) (hwo:o=af->own=af) (hw:∀c∈wr,¬X c) (hw0:∀c∈wr,C.h₀.get? c=ae) (ha:¬Y2 Pn D env.locals a):
  ∀(l p m l':List V)(s:IY),Vw C ci X Pn env ρ p s.heap->Loc C X Pn env s.heap->bf C A s.heap->hM C K X s.heap m D->bW C X Pn s.heap I wr a o l->clause tg cs g call ρ l p=.ok l' p'->Fits K (m++l')->
   (∀s',Nx C (YW (Y2 Pn D env.locals) wr) s s'->Vw C ci X Pn env ρ p' s'.heap->Loc C X Pn env s'.heap->bf C A s'.heap->hM C K X s'.heap (m++l') D->R (.ok .next) s')->
   codeAny (model C.prog C.w) A (.compLoop (K.expr gs sc pos) i (.ref I) (.ref D) env) R s:=by
 have ht':fP t o=af:=by
  induction o using Bool.casesOn with
  | true=>have h:=hwo rfl;clear hwo;subst h;exact ht
  | false=>clear hgs hb htg;induction t using Expr.casesOn<;>simp[fP]at ht ⊢
 have hYX:∀c,Pn c\/c=D\/c=env.locals->(∀c,Pn c->X c)->X env.locals->X c:=λc q hp hl=>by
  rcases q with q|rfl|rfl
  ·exact hp c q
  ·exact hX
  ·exact hl
 intro l;induction l with
 | nil=>
  intro p m l' s hv lc hk hA it e hF hR;have e:aI.ok [] p=.ok l' p':=e;clear hF;injection e with zq1 zq2;(try subst zq1);(try subst zq2)
  refine codeAny_of_tree ?_;rw[pg,oo];refine wpAny_noted ?_;rw[uC K gs sc pos i t src ifs hgs];refine az (IV (az (it.stop hr.handled rfl λs' kw=>?_)));have kx:=kw.i8 hw hw0 it.mQ hv.base it.nc;rw[List.append_nil]at hR;exact IP (hR s' (kw.nx kx.base (λc hc=>.inr hc) it.nc) (hv.i8 lc.inX kx) (lc.i8 kx) (hk.Ai kw kx.base it.iM it.nc) (hA.i8 kx))
 | cons v l ih=>
  intro p m l' s hv lc hk hA it e hF hR;refine d9 (qP e) λρ' q p₁ hbind htest hq1 hq0=>?_;refine bM (Cr hb htg O hbind) λB O' hno'=>?_;refine codeAny_of_tree ?_;rw[pg,oo];refine wpAny_noted ?_;rw[uC K gs sc pos i t src ifs hgs];refine az (IV (az (it.xA (tg:=t) hv.lt rfl ht' (λJ=>rfl) λval s₁ kw hval it1=>?_)));have kx:=kw.i8 hw hw0 it.mQ hv.base it.nc;have v1:=hv.i8 lc.inX kx;have lS:=lc.i8 kx;have k₁:=hk.Ai kw kx.base it.iM it.nc;have nu:=hA.i8 kx;have n₁:Nx C (YW (Y2 Pn D env.locals) wr) s s₁:=kw.nx kx.base (λc hc=>.inr hc) it.nc;refine az (zB hb htg O hr.handled v1 lS hbind hval λs₂ kb v2 DF=>?_);have ncL:∀c∈[env.locals],NC s₁.heap c:=λc hc=>by simp at hc;subst hc;refine aw lS.ns λzz q=>?_;exact .ka q
  have H0:Nx C (YW (Y2 Pn D env.locals) wr) s₁ s₂:=kb.nx v2.base (λc hc=>by simp at hc;exact .inl (.inr (.inr hc))) ncL;have n2':Nx C (Y2 Pn D env.locals) s₁ s₂:=kb.nx v2.base (λc hc=>by simp at hc;exact .inr (.inr hc)) ncL;have k₂:=k₁.y2 n2'.ext v1.aE off;have keepD:∀c o,c≠env.locals->s₁.heap.get? c=aa o->s₂.heap.get? c=aa o:=λc o hne e=>kb.keep c o (by simpa using hne) e;have trB:Tr X s₁.heap X s₂.heap:=λc o e J hx=>⟨keepD c o (λq=>hx (q▸lS.inX)) e,hx⟩;have Ir:hM C K X s₂.heap m D:=let ⟨w,ew,q⟩:=nu;(au w ew (q.tr trB λo e J=>keepD D o hDL e))
  have wLoc:∀c∈wr,¬Y2 Pn D env.locals c:=λc hc q=>hw c hc (hYX c q hv.pnX lc.inX);have it2:bW C X Pn s₂.heap I wr a o l:=it1.tr (Y:=Y2 Pn D env.locals) (λc ob e hc hy=>n2'.ext.keep c ob e hy hc) (λc hc=>hYX c hc hv.pnX lc.inX) wLoc ha;refine az (hT.run hc v2 k₂ hr (bH.of_ok (v:=V.bool q) (p':=p₁) (by rw[htest];rfl) λbr hn hp=>au q rfl ?_));have v3:=v2.next hn.ext hp;have l3:=DF.ext v2.aE hn.ext;have bJ:=k₂.ext hn.ext v2.aE;have Em:=Ir.ext hn.ext v2.pnX hDP;have n3':Nx C (Y2 Pn D env.locals) s₂ br:=hn.grow λJ q=>.inl q;have it3:bW C X Pn br.heap I wr a o l:=it2.tr (Y:=Y2 Pn D env.locals) (λc ob e hc hy=>n3'.ext.keep c ob e hy hc) (λc hc=>hYX c hc hv.pnX lc.inX) wLoc ha;have n03:Nx C (YW (Y2 Pn D env.locals) wr) s br:=n₁.trans (H0.trans (n3'.grow λJ q=>.inl q));induction q using Bool.casesOn with
  | false=>
   skip;refine IP ⟨il ..,ih p₁ m l' br (v3.drop B) l3 bJ Em it3 (hq0 rfl) hF λs' hn'=>hR s' (n03.trans hn')⟩
  | true=>
   skip;refine dz (hq1 rfl) λlg bg lr hg hl z0=>?_;clear e hq1 hq0;subst z0;rw[← List.append_assoc]at hF hR;refine hI n call hc X Pn env ρ' p₁ bg br A m lg D _ _ _ v3 l3 (hno' hno) O' bJ hr Em hX hDP hDL off hg hF.left λeQ hn4 v4 l4 zE=>?_;have k4:=bJ.y2 hn4.ext v3.aE off;have it4:bW C X Pn eQ.heap I wr a o l:=it3.tr (Y:=Y2 Pn D env.locals) (λc ob e hc hy=>hn4.ext.keep c ob e hy hc) (λc hc=>hYX c hc hv.pnX lc.inX) wLoc ha;refine IP ⟨il ..,ih bg (m++lg) lr eQ (v4.drop B) l4 k4 zE it4 hl hF λs' hn'=>hR s' (n03.trans ((hn4.grow λJ q=>.inl q).trans hn'))⟩
end
section
variable{cx cx' ci:Cx}{b:Bool}{X X' Y Pn:AP}{h h':Heap}{s s':IY}{A:I0}{n:Nat}{ρ ρ':Fr}{p p':List V}{env:Env}{E:IZ->IY->Prop}{wr:List I1}{D L:I1}{call:Call}
theorem B9{d:aA}{l:List V}(e:cu d call ρ p=.ok l p'):∃v,l=[v]/\d call ρ p=.ok v p':=by
 have e:(@Res.rec (λJ=>aI) aI.stuck (λv p=>aI.ok [v] p) aI.exc (d call ρ p))=.ok l p':=e;induction hd:d call ρ p using Res.casesOn with
 | stuck=>replace e:=hd▸e;exact(nomatch e)
 | exc k q=>replace e:=hd▸e;exact(nomatch e)
 | ok v q=>replace e:=hd▸e;clear hd;cases e;exact au v rfl rfl
theorem vd{tg:eN}{sd:aA}{cs:List aA}{g:G}{l:List V}(e:cg tg sd cs g call ρ p=.ok l p'):∃v m p₁,sd call ρ p=.ok v p₁/\itemsOf v=aa m/\clause tg cs g call ρ m p₁=.ok l p':=by
 have e:(@Res.rec (λJ=>aI) aI.stuck (λv p=>(@Option.rec (List V) (λJ=>aI) aI.stuck (λl=>clause tg cs g call ρ l p) (itemsOf v))) aI.exc (sd call ρ p))=.ok l p':=e;induction hd:sd call ρ p using Res.casesOn with
 | stuck=>simp only[hd]at e;exact(nomatch e)
 | exc k q=>simp only[hd]at e;exact(nomatch e)
 | ok v q=>
  simp only[hd]at e;refine oc (itemsOf v) (λhi=>?_) λm hi=>?_
  ·simp only[hi]at e;exact(nomatch e)
  ·simp only[hi]at e;exact iG v m q rfl hi e
theorem bW.at_{I a:I1}{o:Bool}{l:List V}(r:bW C X Pn h I wr a o l):∃ob,h.get? a=aa ob:=by
 induction r using bW.casesOn with
 | list h1 h2=>let ⟨_,n,e⟩:=h2;exact⟨_,e⟩
 | tup h1 h2=>let ⟨_,n,e⟩:=h2;exact⟨_,e⟩
 | range h1=>exact⟨_,h1⟩
 | rev h1 h2=>let ⟨_,n,e⟩:=h2;exact⟨_,e⟩
 | enum h1 h2 h3=>let ⟨_,n,e⟩:=h3;exact⟨_,e⟩
 | items h1 h2=>exact⟨_,h2⟩
theorem bW.pG{I a:I1}{o:Bool}{l:List V}(r:bW C X Pn h I wr a o l)(hw:∀c∈wr,¬Pn c):¬Pn a:=by
 induction r using bW.casesOn with
 | list _ _ h=>exact h
 | tup _ _ h=>exact h
 | range h1=>exact hw _ (by simp)
 | rev _ _ h=>exact h
 | enum _ _ _ h=>exact h
 | items _ _ h=>exact h
set_option tactic.hygienic true
theorem tw{K:Kd}{gs:List I3}{sc:Jc}{pos:Pos}:∀(gs':List I3)(i:Nat)(ci:Cx)(g:G),j4 C ag ci ci K.elt gs' g->gs.drop i=gs'->yc C K gs sc pos i ci g
 | [],i,ci,g,hG,hd=>by
  cases hG with
  | one hE=>
   intro n call hc X Pn env ρ p p' s A m l' D k Q E hv lc hno O hk hr hA hX hDP hDL off e hF hQ;have hgs:gs[i]?=ae:=by
    have:=congrArg List.length hd;simp at this;simp;exact Nat.le_of_sub_eq_zero this
   refine aj (B9 e) λv z0 e'=>?_;clear e;subst z0;simp only[Kd.inner,hgs];exact az (zh hE hc hv lc hno hk hr hA hX hDP hDL e' hF λs' a b c d=>hQ s' a b c d)
 | DS::gs',i,ci,g,hG,hd=>by
  cases hG with
  | clause hIt hfs hb ht htg hT hG=>
   rename_i cx' t src ifs sd tg cs g own;have hgs:gs[i]?=aa ⟨t,src,ifs,0⟩:=by
    have:=congrArg (λl=>l[0]?) hd;simpa using this
   have hd':gs.drop (i+1)=gs':=by
    have:=congrArg (List.drop 1) hd;simpa using this
   have hI:=tw (sc:=sc) (pos:=pos) gs' (i+1) cx' g hG hd';intro n call hc X Pn env ρ p p' s A m l' D k Q E hv lc hno O hk hr hA hX hDP hDL off e hF hQ;refine dz (vd e) λv l p₁ hsd hit hcl=>?_;simp only[Kd.inner,hgs];have hs:kl (sd call ρ p)=.ok l p₁:=by
    unfold kl;rw[hsd];show(match itemsOf v with|some l=>Out.ok l p₁|none=>.stuck)=_
    rw[hit]
   refine az (IX (hIt n call hc X Pn env ρ p s A _ _ hv hk hr (bH.of_ok (Q:=λl s'=>∀I wr a o,(o=af->own=af)->bW C X Pn s'.heap I wr a o l->(∀c∈wr,s.heap.get? c=ae)->(ag=ag->X a->a∈wr)->
    wpAny (model C.prog C.w) A (runOwn (.compStart (K.expr gs sc pos) i (.ref I) (.ref D) env) env >>= λJ=>k) Q E s') hs λs₁ hn hp I wr a o hwo it hfr hXa=>?_)) (λx s₁ aT=>az (IV (az (wpAny_of_eq (hfs env x) (az (IS (IX aT (λit s₂ bS=>bS) λJ J x=>x))))))) λJ J x=>x)
   have v1:=hv.next hn.ext hp;have lS:=lc.ext hv.aE hn.ext;have k₁:=hk.ext hn.ext hv.aE;have nu:=hA.ext hn.ext hv.pnX hDP;have hw:∀c∈wr,¬X c:=λc hc hx=>by refine aw (hv.lt c hx) λo ho=>?_;rw[hfr c hc]at ho;exact nS ho
   have hw0:∀c∈wr,C.h₀.get? c=ae:=λc hc=>by
    induction e:C.h₀.get? c using Option.casesOn with
    | none=>rfl
    | some o=>have:=hv.base c o e;rw[hfr c hc]at this;exact nS this
   have ha:¬Y2 Pn D env.locals a:=λq=>by
    have:X a:=by
     rcases q with q|rfl|rfl
     ·exact hv.pnX _ q
     ·exact hX
     ·exact lc.inX
    exact hw a (hXa rfl this) this
   have go:∀s₂,s₂=s₁->codeAny (model C.prog C.w) A (.compLoop (K.expr gs sc pos) i (.ref I) (.ref D) env) (λr s'=>match r with
     | .ok f=>wpAny (model C.prog C.w) A k Q E s'
     | .error e=>cameBackBy (model C.prog C.w) A env E e s') s₂:=λs₂ gD=>by
    clear hp;subst gD;refine sT hgs hb ht htg hT hI hc O hno hX hDP hDL off hr hwo hw hw0 ha l p₁ m l' s₂ v1 lS k₁ nu it hcl hF λs' hn' v' l' k' a'=>?_;refine hQ s' ?_ v' l' a';exact((hn.grow λJ q=>.inl (.inl q)).trans hn').shrink λc hc=>hc.elim .inl λq=>.inr (hfr c q)
   refine az (wpAny_runOwn ?_);skip;refine codeAny_mono (qY hgs (go _ rfl) (it.self (go _ rfl))) λr s' hrs=>?_;induction r using Except.casesOn with
   | ok f=>exact hrs
   | error x=>exact hrs
end
section
variable{cx cx' ci:Cx}{b:Bool}{X X' Y Pn:AP}{h h':Heap}{s s':IY}{A:I0}{n:Nat}{ρ ρ':Fr}{p p':List V}{env:Env}{E:IZ->IY->Prop}{wr:List I1}{D L:I1}{call:Call}
theorem dS{α:Type}{x y:Str}{j:α}{l:List (Str×α)}:List.lookup y ((x,j)::l)=if y=x then aa j else l.lookup y:=by
 simp only[List.lookup_cons];by_cases h:y=x
 ·simp[h]
 ·have:(y==x)=ag:=by simpa using h
  simp[this,h]
set_option tactic.hygienic true
theorem cT{α:Type}{f:Str->Bool}:∀{l:List (Str×α)}{x:Str}{j:α},(l.filter λy=>f y.1).lookup x=aa j->f x=af/\l.lookup x=aa j
 | [],_,_,h=>by simp at h
 | (y,k)::l,x,j,h=>by
  replace h:=List.filter_cons▸h
  split at h
  ·rename_i hf;rw[dS]at h ⊢
   split at h
   ·rename_i e;subst e;exact⟨hf,by refine rwl (if_pos rfl) ?_;exact h⟩
   ·rename_i e;refine ao (cT h) λq r=>?_;exact⟨q,by refine rwl (if_neg e) ?_;exact r⟩
  ·rename_i hf;refine ao (cT h) λq r=>?_;have e:x≠y:=λe=>hf (e▸q);exact⟨q,by refine rwl dS (rwl (if_neg e) ?_);exact r⟩
theorem kL{α:Type}:∀{l:List (Str×α)}{x:Str}{j:α},l.lookup x=aa j->(x,j)∈l
 | [],_,_,h=>by simp at h
 | (y,k)::l,x,j,h=>by
  simp only[dS]at h
  split at h
  ·rename_i e;subst e;obtain rfl:=Jd h;exact Js
  ·exact Jr _ (kL h)
theorem k9{α β:Type}{f:Str->α->β}:∀{l:List (Str×α)}{x:Str},(l.map λy=>(y.1,f y.1 y.2)).lookup x=(l.lookup x).map (f x)
 | [],_=>rfl
 | (y,k)::l,x=>by
  simp only[List.map_cons,dS,dS]
  split
  ·rename_i e;subst e;rfl
  ·exact k9
noncomputable def oM(env:Env)(n:Str)(k:NameKind):NameKind:=if (k==.free&&env.scope.kind==.function&&env.kindOf n==aa .cell) then .cell else k
theorem kM{sc:Jc}{cl:List (Str×I1)}(x:Str):(compEnvC sc cl L env).kindOf x=(sc.names.lookup x).map (oM env x):=by
 show(relabel sc env).names.lookup x=_;refine rwl (k9 (f:=oM env)).symm ?_;delta relabel oM
 congr 1
 apply List.map_congr_left;rintro ⟨n,k⟩ _;dsimp only
 split<;>rfl
theorem uA{names:List (Str×NameKind)}(hcap:∀x∈names,x.2=.free->∃c,env.cells.lookup x.1=aa c):∀(acc:List (Str×I1)),(∀x c,acc.lookup x=aa c->env.cells.lookup x=aa c)->
  ∃cl,forIn names acc (λ(x:Str×NameKind)(cs:List (Str×I1))=>if (x.2==NameKind.free)=af then(do let c ← cellOf env x.1;pure (ForInStep.yield ((x.1,c)::cs)):Sem (ForInStep (List (Str×I1)))) else pure (ForInStep.yield cs))=(pure cl:Sem (List (Str×I1)))/\
   (∀x c,cl.lookup x=aa c->env.cells.lookup x=aa c)/\(∀x,(acc.lookup x).isSome->(cl.lookup x).isSome)/\(∀x∈names,x.2=.free->(cl.lookup x.1).isSome):=by
 induction names with
 | nil=>exactλacc h=>fm acc rfl h (λJ h=>h) (λJ h=>nomatch h)
 | cons x names ih=>
  intro acc h;rw[List.forIn_cons];by_cases hx:x.2=.free
  ·refine aw (hcap x Js hx) λc hc=>?_;have e:cellOf env x.1=pure c:=by delta cellOf;rw[hc]
   obtain⟨cl,q1,q2,q3,q4⟩:=ih (λy hy=>hcap y (Jr _ hy)) ((x.1,c)::acc) (λy c' hy=>by
    rw[dS]at hy
    split at hy
    ·rename_i ey;subst ey;obtain rfl:=Jd hy;exact hc
    ·exact h y c' hy)
   refine fm cl ?_ q2 (λy hy=>q3 y ?_) (λy hy hk=>?_)
   ·rw[if_pos (by rw[hx];rfl),e];exact q1
   ·rw[dS];split
    ·rfl
    ·exact hy
   ·rcases Jx.mp hy with rfl|hy
    ·refine q3 _ ?_;rw[dS,if_pos rfl];rfl
    ·exact q4 y hy hk
  ·refine de (ih (λy hy=>hcap y (Jr _ hy)) acc h) λcl q1 q2 q3 q4=>?_;refine fm cl ?_ q2 q3 (λy hy hk=>?_)
   ·rw[if_neg (by simpa using hx)];exact q1
   ·rcases Jx.mp hy with rfl|hy
    ·exact absurd hk hx
    ·exact q4 y hy hk
set_option tactic.hygienic false
theorem rM{sc:Jc}(hcap:∀x∈sc.names,x.2=.free->∃c,env.cells.lookup x.1=aa c):
  ∃cl,closureFor sc env=pure cl/\(∀x c,cl.lookup x=aa c->env.cells.lookup x=aa c)/\(∀x∈sc.names,x.2=.free->(cl.lookup x.1).isSome):=by
 refine de (uA hcap [] (λJ J h=>by simp at h)) λcl q1 q2 zz q4=>?_;refine aU cl ?_ q2 q4;have e:closureFor sc env=(forIn sc.names [] (λ(x:Str×NameKind)(cs:List (Str×I1))=>if (x.2==NameKind.free)=af then(do let c ← cellOf env x.1;pure (ForInStep.yield ((x.1,c)::cs)):Sem (ForInStep (List (Str×I1)))) else pure (ForInStep.yield cs)) >>= λcs=>pure cs):=rfl
 refine rwl e (rwl q1 ?_);rfl
theorem jR{sc:Jc}(h:fG cx sc=af):sc.kind=.function/\(∀x∈sc.names,x.2≠.cell)/\(∀x∈sc.names,x.2=.local->sc.names.lookup x.1=aa .local)/\(∀x∈sc.names,x.2=.free->pO cx x.1=af):=by
 simp only[fG,Jn,List.all_eq_true]at h;refine ao h λh1 h2=>?_;refine⟨by simpa using h1,λx hx=>?_,λx hx hl=>?_,λx hx hl=>?_⟩
 ·have:=(h2 x hx).1.1;simpa using this
 ·have:=(h2 x hx).1.2;rw[hl]at this;simpa using this
 ·have:=(h2 x hx).2;rw[hl]at this;simpa using this
theorem Vw.Ec{x:Str}(v:Vw C cx X Pn env ρ p h)(hx:pO cx x=af):env.kindOf x=aa .cell\/env.kindOf x=aa .free:=by
 simp only[pO,Bool.or_eq_true,beq_iff_eq]at hx;rcases hx with hx|hx
 ·exact .inl ((v.kinds x _ hx).1 (by simp))
 ·rcases (v.kinds x _ hx).2 rfl with q|q
  ·exact .inr q
  ·exact .inl q
theorem Vw.closure{sc:Jc}(v:Vw C cx X Pn env ρ p h)(hok:fG cx sc=af):∃cl,closureFor sc env=pure cl/\(∀x c,cl.lookup x=aa c->env.cells.lookup x=aa c)/\(∀x∈sc.names,x.2=.free->(cl.lookup x.1).isSome):=
 rM λx hx hf=>v.cells x.1 (v.Ec ((jR hok).2.2.2 x hx hf))
theorem rm{sc:Jc}(O:bD cx):bD (ff cx sc) where
 inj x y j hx hy:=O.inj x y j (cT (f:=λy=>sc.names.lookup y==aa .free) hx).2 (cT (f:=λy=>sc.names.lookup y==aa .free) hy).2
 lt x j hx:=O.lt x j (cT (f:=λy=>sc.names.lookup y==aa .free) hx).2
theorem Vw.inner{sc:Jc}{cl:List (Str×I1)}(v:Vw C cx X Pn env ρ p s.heap)(k:Kp s s')(hD:s.heap.get? D=ae)(hL:s.heap.get? L=ae)(oD:∃o,s'.heap.get? D=aa o)(oL:∃o,s'.heap.get? L=aa o)(hok:fG cx sc=af)
  (c1:∀x c,cl.lookup x=aa c->env.cells.lookup x=aa c) (c2:∀x∈sc.names,x.2=.free->(cl.lookup x.1).isSome):Vw C (ff cx sc) (X2 X D L) Pn (compEnvC sc cl L env) ρ p s'.heap:=by
 refine fo (jR hok) λo1 o2 o3 o4=>?_;have ne:∀{b:I1}{o:Obj},s.heap.get? b=aa o->b≠D/\b≠L:=λ{b o} e=>⟨(λq=>by clear oD;subst q;rw[hD]at e;exact nS e),(λq=>by clear oL;subst q;rw[hL]at e;exact nS e)⟩;have T:Tr X s.heap (X2 X D L) s'.heap:=λa o e J hx=>⟨k.keep a o e,λq=>by
  rcases q with q|q|q
  ·exact hx q
  ·exact(ne e).1 q
  ·exact(ne e).2 q⟩
 have fresh0:∀c,s.heap.get? c=ae->C.h₀.get? c=ae:=λc hc=>by
  induction e:C.h₀.get? c using Option.casesOn with
  | none=>rfl
  | some o=>have:=v.base c o e;rw[hc]at this;exact nS this
 refine { kind:=o1,code:=.inl rfl,globals:=v.globals,builtins:=v.builtins,kinds:=λx q hx=>?_,cells:=λx hx=>?_,vars:=λx j hx hu=>?_,own:=λx j w hx hg=>?_,caps:=λx c hx=>(by simp[ff]at hx),tab:=v.tab.keeps k.keep λb q=>q.imp id λq=>.none (q.elim (λe=>e▸hD) λe=>e▸hL),aE:=v.aE.tr T λb o J e J=>k.keep b o e,pnX:=λb hb=>.inl (v.pnX b hb),base:=λb o e=>k.keep b o (v.base b o e),lt:=λb hb=>?_,fresh:=λb hb=>?_ }
 ·have hx':sc.names.lookup x=aa q:=hx;rw[kM,hx'];refine⟨λhq=>?_,λhq=>?_⟩
  ·have:(q==NameKind.free)=ag:=by simpa using hq
   simp[oM,this]
  ·clear hx hx';subst hq;dsimp only[Option.map_some,oM]
   split<;>simp
 ·rw[kM]at hx;induction hn:sc.names.lookup x using Option.casesOn with
  | none=>rw[hn]at hx;simp at hx
  | some q=>
   have hm:=kL hn;have hq:q=.free:=by
    rw[hn]at hx;dsimp only[Option.map_some,oM]at hx;by_cases hf:q=.free
    ·exact hf
    ·have:(q==NameKind.free)=ag:=by simpa using hf
     simp only[this,Bool.false_and,Jo,if_false,Je]at hx;rcases hx with hx|hx
     ·exact absurd hx (o2 _ hm)
     ·exact hx
   clear hn;subst hq;exact Option.isSome_iff_exists.mp (c2 _ hm rfl)
 ·refine ao (cT (f:=λy=>sc.names.lookup y==aa .free) hx) λhf hx'=>?_;have hn:sc.names.lookup x=aa .free:=by simpa using hf
  have hm:=kL hn;refine aQ (v.vars x j hx' hu) λval hr hs hne=>?_;refine aw (Option.isSome_iff_exists.mp (c2 _ hm rfl)) λc hc=>?_;have hcell:du s.heap c val:=by
   have hc':=c1 x c hc;have hk:=v.Ec (o4 _ hm rfl);unfold Reads at hr;rcases hk with hk|hk<;>(rw[hk]at hr;refine aj hr λc' q r=>?_;rw[hc']at q;obtain rfl:=Jd q;exact r)
  have hcell':du s'.heap c val:=by refine aj hcell λo ho r=>?_;exact au o (k.keep c o ho) r
  refine aU val ?_ (hs.tr (λb hb=>.inl hb) T λb o J e J=>k.keep b o e) (λe=>?_)
  ·delta Reads;rw[kM,hn];dsimp only[Option.map_some,oM];induction hcnd:(NameKind.free==NameKind.free&&env.scope.kind==ScopeKind.function&&env.kindOf x==aa NameKind.cell)using Bool.casesOn with
   | true=>simp only[if_true];exact au c hc hcell'
   | false=>simp only[Jo,if_false];exact au c hc hcell'
  ·have e:val=.ref L:=e;clear hr hne hcell hcell';subst e;refine aw (dE.obj v.aE hs hu) λo ho=>?_;rw[hL]at ho;exact nS ho
 ·refine ao (cT (f:=λy=>sc.names.lookup y==aa .free) hx) λzz hx'=>?_;exact v.own x j w hx' hg
 ·rcases hb with hb|rfl|rfl
  ·refine aw (v.lt b hb) λo ho=>?_;exact⟨o,k.keep b o ho⟩
  ·exact oD
  ·exact oL
 ·rcases hb with hb|rfl|rfl
  ·exact v.fresh b hb
  ·exact fresh0 _ hD
  ·exact fresh0 _ hL
end
noncomputable def Kd.new:Kd->Sem IZ
 | .l _=>newList []
 | .d _ _ _ _=>newDict
section
variable{cx cx' ci:Cx}{b:Bool}{X X' Y Pn:AP}{h h':Heap}{s s':IY}{A:I0}{n:Nat}{ρ ρ':Fr}{p p':List V}{env:Env}{E:IZ->IY->Prop}{wr:List I1}{D L:I1}{call:Call}
theorem BP{K:Kd}{Q:IZ->IY->Prop}(hsys:s.heap.objs.size≠sysModules)
  (hQ:∀o:Obj,(∀X' h',h'.get? s.heap.objs.size=aa o->hM C K X' h' [] s.heap.objs.size)->o.isFreed=ag->Q (.ref s.heap.objs.size) { s with heap:=s.heap.push o }):wpAny (model C.prog C.w) A K.new Q E s:=by
 induction K using Kd.casesOn with
 | l e=>
  show wpAny _ A (newObj (.type "list") (.seq ([]:List IZ).toArray)) _ _ _;refine wpAny_newObj_type (hQ _ (λX' h' ho=>au (.lst []) rfl ?_) rfl);simp only[aP];exact au ([]) ⟨by simp[most],0,ho⟩ .nil
 | d k u ck cp=>
  show wpAny _ A (newObj (.type "dict") (.dict #[])) _ _ _;refine wpAny_newObj_type (hQ _ (λX' h' ho=>au (.bh [] []) rfl ?_) rfl);simp only[aP];exact qi ([]) ⟨⟨by simpa using hsys,by simp[most]⟩,0,ho⟩ .nil .nil rfl (λJ hk=>nomatch hk)
set_option tactic.hygienic true
theorem tY{K:Kd}{t src:Expr}{ifs:List Expr}{gs:List I3}{sc:Jc}{pos pp:Pos}{g:G}{l:List V}{use:Option (IZ->Sem Unit)}{Q:IZ->IY->Prop}(hG:j4 C af cx (ff cx sc) K.elt (⟨t,src,ifs,0⟩::gs) g)
  (hok:fG cx sc=af) (O:bD cx) (hno:iZ (ff cx sc) ρ) (hc:dJ C n call) (hv:Vw C cx X Pn env ρ p s.heap) (hk:bf C A s.heap) (hr:dU A n) (hsys:∃o,C.h₀.get? sysModules=aa o) (e:g call ρ p=.ok l p') (hF:Fits K l)
  (hU:∀D L s' w,s.heap.get? D=ae->s.heap.get? L=ae->D≠L->(∃m,s'.heap.Ns L m)->Nx C Pn s s'->bA C (X2 X D L) Pn s'.heap p'->ml K l=aa w->aP C (X2 X D L) s'.heap w D->
   compPost (model C.prog C.w) A E use Q (.ref D) L (.ok .next) s'):
  wpAny (model C.prog C.w) A (comprehension (K.expr (⟨t,src,ifs,0⟩::gs) sc pos) sc env pp K.new ag (eval src env) use) Q E s:=by
 refine fo (jR hok) λo1 o2 o3 o4=>?_;cases hG with
 | clause hIt hfs hb ht htg hT hG=>
  rename_i cx' sd tg cs g own;refine aQ (hv.closure hok) λcl hcl c1 c2=>?_;refine dz (vd e) λv wk p₁ hsd hit hclause=>?_;have hs:kl (sd call ρ p)=.ok wk p₁:=by
   unfold kl;rw[hsd];show(match itemsOf v with|some l=>Out.ok l p₁|none=>.stuck)=_
   rw[hit]
  refine wpAny_comprehension_free (g:=⟨t,src,ifs,0⟩) (gs:=gs) (by clear hF hU hG;induction K using Kd.casesOn<;>rfl) (hfs env) hcl o1 o3 ?_
  refine hIt n call hc X Pn env ρ p s A _ E hv hk hr (bH.of_ok (Q:=λl s'=>∀I wr a o,(o=af->own=af)->bW C X Pn s'.heap I wr a o l->(∀c∈wr,s.heap.get? c=ae)->(af=ag->X a->a∈wr)->_) hs λs₂ hn hp I wr a o hwo it hfr J=>?_);have v2:=hv.next hn.ext hp;have k₂:=hk.ext hn.ext hv.aE;have hsz:s₂.heap.objs.size≠sysModules:=λq=>by
   refine aw hsys λo ho=>?_;have:=Jj (v2.base _ o ho);rw[← q]at this;exact JB _ this
  refine BP hsz λoD hD hfree=>?_;refine wpAny_newFunctionEnv o2 (by intro y hy;simp at hy) (λaT hns hsb=>?_) o1;dsimp only at hns hsb ⊢;generalize hDe:s₂.heap.objs.size=D at *;generalize hH2:s₂.heap.push oD=H2 at *;have hHz:H2.objs.size=D+1:=by rw[← hH2,Heap.size_push,hDe]
  generalize hLe:H2.objs.size=L at *;subst hHz;have hDn:s₂.heap.get? D=ae:=gU (Nat.le_of_eq hDe);have hLn:s₂.heap.get? (D+1)=ae:=gU (by rw[hDe];exact Nat.le_succ _);have hne:∀b o,s₂.heap.get? b=aa o->b≠D/\b≠D+1:=λb o e=>⟨(λq=>by rw[q,hDn]at e;exact nS e),(λq=>by rw[q,hLn]at e;exact nS e)⟩;have hkeep:∀b o,s₂.heap.get? b=aa o->aT.get? b=aa o:=λb o e=>hsb.extBut b o (hne b o e).2 (Jg _ (hH2▸Jg _ e));have hDo:aT.get? D=aa oD:=hsb.extBut D oD (Jz (Nat.lt_succ_self _)) (Jg _ (by rw[← hH2,← hDe];exact Jh _ hfree));have hLo:∃o,aT.get? (D+1)=aa o:=let ⟨o,es,ep,ho,_⟩:=hns;⟨o,ho⟩
  generalize hs4:({ s₂ with heap:=aT,toks:=s₂.toks+([]:List (Str×IZ)).length }:IY)=eQ;have hh4:eQ.heap=aT:=by rw[← hs4]
  have k24:Kp s₂ eQ:=by clear hh4;subst hs4;exact⟨hkeep,rfl,rfl⟩
  have v4:Vw C (ff cx sc) (X2 X D (D+1)) Pn (compEnvC sc cl (D+1) env) ρ p₁ eQ.heap:=v2.inner k24 hDn hLn ⟨_,by rw[hh4];exact hDo⟩ (by rw[hh4];exact hLo) hok c1 c2;have lc4:Loc C (X2 X D (D+1)) Pn (compEnvC sc cl (D+1) env) eQ.heap:=⟨⟨_,by rw[hh4];exact hns⟩,.inr (.inr rfl),v4.fresh _ (.inr (.inr rfl))⟩;have off:Off A D (D+1):=λl hl x hx F hf=>by
   refine aj k₂ λl' hl' fr=>?_;rw[hl]at hl';obtain rfl:=Jd hl';refine aj (fr.cls x hx F hf) λo ho zz=>?_;exact hne F o ho
  have k4:bf C A eQ.heap:=k₂.ext' (k24.nx (Pn:=Pn) v2.base).ext v2.aE.frame;have hDP:¬Pn D:=λq=>by refine aw (v2.lt D (v2.pnX D q)) λo ho=>?_;rw[hDn]at ho;exact nS ho
  have hw:∀c∈wr,¬X2 X D (D+1) c:=λc hc q=>by
   refine bY (it.own.2 c hc) λo zz ho zz=>?_;rcases q with q|q|q
   ·refine aw (hv.lt c q) λo' ho'=>?_;rw[hfr c hc]at ho';exact nS ho'
   ·exact(hne c o ho).1 q
   ·exact(hne c o ho).2 q
  have hw0:∀c∈wr,C.h₀.get? c=ae:=λc hc=>by
   induction e:C.h₀.get? c using Option.casesOn with
   | none=>rfl
   | some o=>have:=hv.base c o e;rw[hfr c hc]at this;exact nS this
  have ha:¬Y2 Pn D (D+1) a:=λq=>by
   refine aw it.at_ λo ho=>?_;rcases q with q|q|q
   ·exact it.pG (λc hc q=>hw c hc (.inl (v2.pnX c q))) q
   ·exact(hne a o ho).1 q
   ·exact(hne a o ho).2 q
  have it2:bW C (X2 X D (D+1)) Pn s₂.heap I wr a o wk:=it.mono λb o e J hx=>⟨e,λq=>by
   rcases q with q|q|q
   ·exact hx q
   ·exact(hne b o e).1 q
   ·exact(hne b o e).2 q⟩
  have it4:bW C (X2 X D (D+1)) Pn eQ.heap I wr a o wk:=it2.tr (Y:=λJ=>False) (λb o e J J=>k24.keep b o e) (λJ q=>q.elim) (λJ J q=>q) (λq=>q);have zE:hM C K (X2 X D (D+1)) eQ.heap [] D:=by rw[hh4];exact hD _ _ hDo
  have hsD:s.heap.get? D=ae:=fu hn hp hDn;have hsL:s.heap.get? (D+1)=ae:=fu hn hp hLn;have go:∀cz,cz=eQ->codeAny (model C.prog C.w) A (.compLoop (K.expr (⟨t,src,ifs,0⟩::gs) sc pos) 0 (.ref I) (.ref D) (compEnvC sc cl (D+1) env)) (compPost (model C.prog C.w) A E use Q (.ref D) (D+1)) cz:=λcz Io=>by
   clear hs4 hh4;subst Io;refine sT (K:=K) (gs:=⟨t,src,ifs,0⟩::gs) (sc:=sc) (pos:=pos) (i:=0) rfl hb ht htg hT (tw gs 1 cx' g hG rfl) hc (rm O) hno (.inr (.inl rfl)) hDP (Jz (Nat.lt_succ_self _)) off hr hwo hw hw0 ha wk p₁ [] l cz v4 lc4 k4 zE it4 hclause (by simpa using hF) λs' hn' v' l' k' a'=>?_;refine aj a' λw hw' ho'=>?_;rw[List.nil_append]at hw';have hnx:Nx C Pn s s':=(((hn.grow λJ q=>.inl (.inl q)).trans (k24.nx v2.base)).trans hn').shrink λc hc=>by
    rcases hc with(hc|rfl|rfl)|hc
    ·exact .inl hc
    ·exact .inr hsD
    ·exact .inr hsL
    ·exact .inr (hfr c hc)
   exact hU D (D+1) s' w hsD hsL (Jz (Nat.lt_succ_self _)) l'.ns hnx v'.aE hw' ho'
  show codeAny _ A (.compStart _ 0 (.ref I) (.ref D) (compEnvC sc cl (D+1) env)) (compPost _ A E use Q (.ref D) (D+1)) _;exact qY (K:=K) (gs:=⟨t,src,ifs,0⟩::gs) rfl (go _ rfl) (it4.self (go _ rfl))
end
noncomputable def Kd.comb:Kd->G->aA
 | .l _,g=>bQ g
 | .d _ u _ _,g=>ub g (.bool u)
section
variable{cx cx' ci:Cx}{b:Bool}{X X' Y Pn:AP}{h h':Heap}{s s':IY}{A:I0}{n:Nat}{ρ ρ':Fr}{p p':List V}{env:Env}{E:IZ->IY->Prop}{wr:List I1}{D L:I1}{call:Call}
theorem vq{K:Kd}{g:G}(e:K.comb g call ρ p≠.stuck):∃l p' w,g call ρ p=.ok l p'/\Fits K l/\ml K l=aa w/\K.comb g call ρ p=.ok w p':=by
 induction K using Kd.casesOn with
 | l elt=>
  have d:Kd.comb (.l elt) g call ρ p=(@aI.rec (λJ=>Res) Res.stuck (λl p=>(@Jp (λJ=>Res) Res.stuck (Res.ok (V.lst l) p) (short lid l))) (λJ J=>Res.stuck) (g call ρ p)):=rfl;rw[d]at e ⊢;induction hg:g call ρ p using aI.casesOn with
  | stuck=>simp only[hg]at e;exact absurd rfl e
  | exc k q=>simp only[hg]at e;exact absurd rfl e
  | ok l q=>
   simp only[hg]at e;refine kY (short lid l) (λhs=>?_) λhs=>?_
   ·simp only[hs]at e;exact absurd rfl e
   ·exact kC l q (.lst l) rfl ⟨hs,_,rfl⟩ rfl (by simp only[hs])
 | d k u ck cp=>
  have d:Kd.comb (.d k u ck cp) g call ρ p=(@aI.rec (λJ=>Res) Res.stuck (λl p=>(@Jp (λJ=>Res) Res.stuck (@Option.rec V (λJ=>Res) Res.stuck (λv=>Res.ok v p) (eX l (.bool u) [] [])) (short lid l))) (λJ J=>Res.stuck) (g call ρ p)):=rfl;rw[d]at e ⊢;induction hg:g call ρ p using aI.casesOn with
  | stuck=>simp only[hg]at e;exact absurd rfl e
  | exc k q=>simp only[hg]at e;exact absurd rfl e
  | ok l q=>
   simp only[hg]at e;refine kY (short lid l) (λhs=>?_) λhs=>?_
   ·simp only[hs]at e;exact absurd rfl e
   ·
    simp only[hs]at e;induction hd:eX l (.bool u) [] []using Option.casesOn with
    | none=>simp only[hd]at e;exact absurd rfl e
    | some w=>exact kC l q w rfl ⟨hs,_,hd⟩ hd (by simp only[hs,hd])
theorem tG{d:aA}:∀{gs:List d6},gg gs d call ρ p≠.stuck->(∀g∈gs,∀v,g ρ≠.own v)/\gg gs d call ρ p=d call ρ p
 | [],_=>⟨λJ h=>(nomatch h),rfl⟩
 | g::gs,e=>by
  have d':gg (g::gs) d call ρ p=(@Slot.rec (λJ=>Res) (gg gs d call ρ p) (λJ=>gg gs d call ρ p) (λJ=>Res.stuck) (gg gs d call ρ p) (g ρ)):=rfl;rw[d']at e ⊢;have go:gg gs d call ρ p≠.stuck->(∀v,g ρ≠.own v)->(∀g'∈g::gs,∀v,g' ρ≠.own v)/\gg gs d call ρ p=d call ρ p:=λq r=>by
   refine ao (tG q) λx y=>?_;refine⟨λg' hg v=>?_,y⟩;rcases Jx.mp hg with rfl|hg
   ·exact r v
   ·exact x g' hg v
  induction hg:g ρ using Slot.casesOn with
  | undef=>simp only[hg]at e ⊢;exact go e (by refine rwl hg ?_;simp)
  | val v=>simp only[hg]at e ⊢;exact go e (by refine rwl hg ?_;simp)
  | own v=>simp only[hg]at e;exact absurd rfl e
  | aE=>simp only[hg]at e ⊢;exact go e (by refine rwl hg ?_;simp)
theorem rn{d:aA}{js:List Nat}(e:iw js d call ρ p≠.stuck):(∀j∈js,∀v,aJ j ρ≠.own v)/\iw js d call ρ p=d call ρ p:=by
 induction js using List.casesOn with
 | nil=>exact⟨λJ h=>(nomatch h),rfl⟩
 | cons j js=>
  refine ao (tG (gs:=(j::js).map aJ) e) λx y=>?_;exact⟨λi hi v=>x (aJ i) (List.mem_map.mpr (au i hi rfl)) v,y⟩
theorem p8{sc:Jc}(v:Vw C cx X Pn env ρ p h)(hg:∀j∈iY cx sc,∀v,aJ j ρ≠.own v):iZ (ff cx sc) ρ:=by
 intro x j w hx e;refine ao (cT (f:=λy=>sc.names.lookup y==aa .free) hx) λq r=>?_;have hm:=v.own x j w r e;refine hg j ?_ w e;unfold iY;exact List.mem_filterMap.mpr (au x (List.mem_filter.mpr ⟨by simpa using hm,q⟩) r)
set_option tactic.hygienic true
theorem aP.rep{v:V}{a:I1}(r:aP C X h v a)(hx:¬X a):aq C X h v (.ref a):=by
 induction v using V.casesOn<;>simp only[aP]at r
 case lst l=>refine aj r λvs x y=>?_;simp only[aq];exact d8 a vs rfl hx x y
 case bh ks xs=>refine de r λes x y z q=>?_;simp only[aq];exact qh a es rfl hx x y z q
set_option tactic.hygienic false
theorem zu{w:V}(hv:Vw C cx X Pn env ρ p s.heap)(hD:s.heap.get? D=ae)(hL:s.heap.get? L=ae)(hDL:D≠L)(hn:Nx C Pn s s')(hp:bA C (X2 X D L) Pn s'.heap p')(hw:aP C (X2 X D L) s'.heap w D)(hnL:NC s'.heap L)(hs:Jk L s'.heap h'):
  Nx C Pn s { s' with heap:=h' }/\bA C X Pn h' p'/\aq C X h' w (.ref D):=by
 have hXD:¬X D:=λq=>by refine aw (hv.lt D q) λo ho=>?_;replace ho:=hD▸ho;exact nS ho
 have hXL:¬X L:=λq=>by refine aw (hv.lt L q) λo ho=>?_;replace ho:=hL▸ho;exact nS ho
 have h0:C.h₀.get? L=ae:=by
  induction e:C.h₀.get? L using Option.casesOn with
  | none=>rfl
  | some o=>have:=hv.base L o e;replace this:=hL▸this;exact nS this
 have T:Tr (X2 X D L) s'.heap X h':=λa o e J hx=>⟨hs.extBut a o (λq=>hx (.inr (.inr q))) e,λq=>hx (.inl q)⟩;refine⟨?_,hp.tr T λb o hb e J=>hs.extBut b o (λq=>hXL (q▸hv.pnX b hb)) e,?_⟩
 ·exact((hn.grow (Y:=λc=>Pn c\/c=L) λJ q=>.inl q).trans (ic (o:=default) hn.ext.base hs h0 (.inr rfl) hnL _)).shrink λc hc=>hc.elim .inl λq=>.inr (q▸hL)
 ·exact aP.rep (hw.tr T λo e J=>hs.extBut D o hDL e) hXD
theorem aL.comp{K:Kd}{t src:Expr}{ifs:List Expr}{gs:List I3}{sc:Jc}{pos:Pos}{g:G}(hG:j4 C af cx (ff cx sc) K.elt (⟨t,src,ifs,0⟩::gs) g)(hok:fG cx sc=af)(O:bD cx)(hsys:∃o,C.h₀.get? sysModules=aa o):
  aL C cx b (K.expr (⟨t,src,ifs,0⟩::gs) sc pos) (iw (iY cx sc) (K.comb g)):=by
 intro n call hc X Pn env ρ p s A Q E hv hk hr N;refine ao (rn N.1) λhg e=>?_;replace N:=e▸N;refine d9 (vq N.1) λl p' w e hF hw e'=>?_;have key:∀pp,wpAny (model C.prog C.w) A (comprehension (K.expr (⟨t,src,ifs,0⟩::gs) sc pos) sc env pp K.new ag (eval src env) ae) Q E s:=λpp=>
  tY hG hok O (p8 hv hg) hc hv hk hr hsys e hF λD L s' w' hD hL hDL hns hn hp ha ho=>by
   replace ha:=hw▸ha;obtain rfl:=Jd ha;refine aw hns λm hns=>?_;refine au m hns (λh' hs=>?_);refine bM (zu hv hD hL hDL hn hp ho (.ka hns) hs) λq1 q2 q3=>?_;exact N.ok e' q1 q2 q3
 induction K using Kd.casesOn with
 | l elt=>exact key _
 | d k u ck cp=>exact key _
end
section
variable{prog:Program}{w:World}{A:I0}{E:IZ->IY->Prop}{s:IY}
theorem BO:typeLookup (.type "list") "keys" = pure ae:=by rw[Ja,builtinLookup_eq_fast];kernel_rfl
theorem DA{a:I1}{vs:List IZ}{Q:Option IZ->IY->Prop}(hA:A.handled=ae)(hl:LstAt s.heap a vs)
  (h:∀h' tk,(∀b o,s.heap.get? b=aa o->h'.get? b=aa o)->Q ae { s with heap:=h',toks:=tk }):
  wpAny (model prog w) A (getAttr? (.ref a) "keys") Q E s:=by
 refine ao hl λhz zq=>?_;refine aw zq λk hx=>?_;clear hl zq;obtain⟨hp,g,d,tk,os⟩:=s;change hp.get? a=aa { cls:=.type "list",dict:=ae,data:=.seq vs.toArray k,slots:=#[] } at hx;have hT:∀tk',(⟨hp,g,d,tk',os⟩:IY).TypeIs (.ref a) "list" := λJ=>au _ hx rfl;have f1:=sub_AttributeError;have f3:=F.slot_list_getattribute.lookup;have f4:=F.slot_list_getattribute.bind (.ref a);have f5:=am_list_getattr_none;delta getAttr? getAttrBy? getAttrBy
 repeat (any_goals (first|assumption|exact hT _|((with_reducible show wpAny _ _ (call (Value.builtin "list.__getattribute__") _ _) _ _ _);refine call_meets F.slot_list_getattribute (hT _) am_entry_list_getattribute (F.args_list_getattribute_2 _ _) (meets_getattribute_miss_list a vs.toArray k #[] "keys" _ BO (by decide +kernel)) ⟨hx,hA,λh' tk' e hx'=>?_⟩)|wp_step))
 refine dX hx'.there λt' u' he=>?_;skip;delta getattributeRaised
 repeat (any_goals (first|assumption|wp_step))
 exact h h' tk' hx'.keeps
theorem pair_items{pa:I1}{k v:IZ}{Q:List IZ->IY->Prop}(ht:TupAt s.heap pa [k,v])(h:Q [k,v] s):wpAny (model prog w) A (Builtin.Dict.pairItems (.ref pa)) Q E s:=by
 refine ao ht λzz zq=>?_;refine aw zq λn ho=>?_;have hT:s.TypeIs (.ref pa) "tuple" := au _ ho rfl;delta Builtin.Dict.pairItems;refine IQ (wpAny_typeOf hT ?_);refine pe (by decide) ?_;refine az ?_;refine az ?_;refine IW ho (IP (IP ?_));exact h
theorem eW:plainId "dict.update.loop" = af:=by decide +kernel
theorem ju:entryFor table "dict.update.loop" = aa Builtin.«dict.update.loop»:=entryFor_of_tree (by kernel_rfl)
end
section
variable{X Pn:AP}{s s':IY}{A:I0}{n:Nat}{p:List V}{Q E:IZ->IY->Prop}
structure IK(d I:I1)(s s':IY):Prop where
 keep:∀b o,b≠d->b≠I->s.heap.get? b=aa o->s'.heap.get? b=aa o
 gens:s'.gens=s.gens
 os:s'.os=s.os
noncomputable def XU(X:AP)(d I:I1):AP:=λb=>X b\/b=d\/b=I
theorem yL{x k z:V}(h:Ae x=aa (k,z)):x=.tup [k,z]:=by
 induction x using V.casesOn with
 | tup l=>
  induction l using List.casesOn with
  | nil=>exact nS h
  | cons a l=>
   induction l using List.casesOn with
   | nil=>exact nS h
   | cons b l=>
    induction l using List.casesOn with
    | nil=>refine ao (bU h) λz0 z1=>?_;rw[z0,z1]
    | cons=>exact nS h
 | _=>exact nS h
set_option tactic.hygienic true
theorem nZ{a d I:I1}{vs:List IZ}{v:V}{R:Result->IY->Prop}(hh:A.handled=ae)(hu:A.units+200<cLine)(had:a≠d)(haI:a≠I)(hdI:d≠I):
  ∀(l:List V)(rest:List IZ)(i:Nat)(t:Tok)(ks xs:List V)(s:IY),vs.drop i=rest->i+rest.length=vs.length->dictOf l ks xs=aa v->av C (XU X d I) s.heap l rest->LstAt s.heap a vs->s.heap.IsListIter I a i->aP C (XU X d I) s.heap (.bh ks xs) d->
   (∀s',IK d I s s'->aP C (XU X d I) s'.heap v d->R (.ok (.ret .none)) s')->
   codeAny (model C.prog C.w) A (.builtin "dict.update.loop" ⟨[.ref d,.ref I,.int i t,.none],[]⟩) R s
 | [],rest,i,t,ks,xs,s,hr,hlen,hd,hR,hl,hI,ho,h=>by
  dsimp only[av]at hR;clear hr;subst hR;obtain rfl:=Jd hd;refine I9 ju ?_;rw[Around.under_plainId eW _];skip;refine az (wpAny_pyNext_list_end (by exact hh) hI hl.isList (by simp at hlen;simp;exact Nat.le_of_eq hlen.symm) λh' he=>?_);refine az (IP (IP ?_));refine h _ ⟨λb o J hb e=>he b o hb e,rfl,rfl⟩ (ho.tr (λb o e J hx=>⟨he b o (λq=>hx (.inr (.inr q))) e,hx⟩) λo e J=>he d o hdI e)
 | x::l,rest,i,t,ks,xs,s,hr,hlen,hd,hR,hl,hI,ho,h=>by
  dsimp only[av]at hR;refine aW hR λy rest' z0 h1 h2=>?_;clear hR;subst z0;refine aj (ob hd) λkz hkz hd=>?_;refine aj (ob hd) λsx hput hd2=>?_;obtain⟨k,z⟩:=kz;obtain⟨ks2,xs2⟩:=sx;have hkz:=yL hkz;clear hd;subst hkz
  ·
   ·
    dsimp only[aq,av]at h1;obtain⟨pa,ps,rfl,hpX,hpt,kk,r1,rfl,hk,zz,r2,rfl,hz,rfl⟩:=h1;have hx:vs[i]?=aa (.ref pa):=by
     have:=congrArg List.head? hr;rw[List.head?_drop]at this;simpa using this
    refine I9 ju ?_;rw[Around.under_plainId eW _];skip;refine az (wpAny_pyNext_list_item hI hl.isList (by simpa using hx) λaT hI1 dB=>?_);have T1:Tr (XU X d I) s.heap (XU X d I) aT:=λb o e J hx=>⟨dB.extBut b o (λq=>hx (.inr (.inr q))) e,hx⟩;have hpI:pa≠I:=λq=>hpX (.inr (.inr q));have hpt1:TupAt aT pa [kk,zz]:=let ⟨z,n,e⟩:=hpt;⟨z,n,dB.extBut pa _ hpI e⟩
    have GH:LstAt aT a vs:=let ⟨z,n,e⟩:=hl;⟨z,n,dB.extBut a _ haI e⟩
    have gX:=ho.tr T1 λo e J=>dB.extBut d o hdI e;refine az (IS ?_);refine az (wpAny_tryCatch (pair_items (s:={ s with heap:=aT }) hpt1 ?_));refine IS ?_;refine nd (s:={ s with heap:=aT }) gX (.inr (.inl rfl)) hput (hk.tr T1) (hz.tr T1) (by show A.units+1+100<cLine;lia) λbS tk gq iV=>?_;have T2:Tr (XU X d I) aT (XU X d I) bS:=λb o e J hx=>⟨gq.extBut b o (λq=>hx (.inr (.inl q))) e,hx⟩;have lV:LstAt bS a vs:=let ⟨z,n,e⟩:=GH;⟨z,n,gq.extBut a _ had e⟩
    have hI2:bS.IsListIter I a (i+1):=aj hI1 λo e r=>au o (gq.extBut I o (Ne.symm hdI) e) r;refine IP ⟨plainId_quiet eW _,?_⟩;refine nZ hh hu had haI hdI l rest' (i+1) _ ks2 xs2 { s with heap:=bS,toks:=tk } ?_ ?_ hd2 ((h2.tr T1).tr T2) lV hI2 iV λs' k hv=>?_
    ·rw[← List.drop_drop,hr];rfl
    ·simp at hlen;lia
    ·exact h s' ⟨λb o hb hb' e=>k.keep b o hb hb' (gq.extBut b o hb (dB.extBut b o hb' e)),k.gens,k.os⟩ hv
theorem Ek (hsys:∃o,C.h₀.get? sysModules=aa o):iF C nQ (λv=>PySem.call (.type "dict") [v]):=by
 intro n X Pn p s A Q E a v va P hf ha h;revert ha;refine xs12 a (j6 hf) λl hf ha=>?_;refine aW ha.lst λa vs z0 ht hl=>?_;clear ha;subst z0;have hu:=P.units;have had:a<s.heap.objs.size:=let ⟨_,_,e⟩:=ht;Jj e
 refine callType_codes (Q₁:=λobj s₁=>obj=.ref s.heap.objs.size/\s₁={ s with heap:=s.heap.push { cls:=.type "dict",data:=.dict #[] } }) F.kt_called_dict (F.kt_typeCall_dict_1 _) F.entry_dict_init (kt_code_dict_new _ ⟨rfl,rfl⟩) ?_;rintro obj s₁ ⟨rfl,rfl⟩;have Am:∀b o,s.heap.get? b=aa o->(s.heap.push { cls:=.type "dict",data:=.dict #[] }).get? b=aa o:=λb o e=>Jg _ e;have rV:(s.heap.push { cls:=.type "dict",data:=.dict #[] }).get? s.heap.objs.size=aa (dH [] 0):=Jh _ rfl;have ht0:LstAt (s.heap.push { cls:=.type "dict",data:=.dict #[] }) a vs:=let ⟨z,n,e⟩:=ht;⟨z,n,Am _ _ e⟩
 have hdT:Shared.TypeIs { s with heap:=s.heap.push { cls:=.type "dict",data:=.dict #[] } } (.ref s.heap.objs.size) "dict" := au _ rV rfl;have haT:Shared.TypeIs { s with heap:=s.heap.push { cls:=.type "dict",data:=.dict #[] } } (.ref a) "list" := let ⟨_,n,e⟩:=ht0;(au _ e rfl)
 generalize s.heap.push { cls:=.type "dict",data:=.dict #[] }=h₀ at *;refine⟨hdT,F.args_dict_init_2 _ _,?_⟩;delta Builtin.«dict.__init__»;refine az ?_;delta Builtin.Dict.selfAndRest;refine az (wpAny_notOrdered_dict hdT ?_);skip;refine IP ?_;show wpAny _ _ (Builtin.Dict.updateFrom "dict.__init__" s.heap.objs.size (.ref a) [] .none) _ _ _;delta Builtin.Dict.updateFrom;refine IQ (wpAny_typeOf haT ?_);refine pe (by decide) ?_;refine IQ (DA (s:={ s with heap:=h₀ }) (by exact P.room.handled) ht0 λaT tk hk1=>?_);refine pe (show(Option.none:Option IZ).isNone=af from rfl) ?_;refine az (wpAny_rule ?_);have ht1:LstAt aT a vs:=let ⟨z,n,e⟩:=ht0;⟨z,n,hk1 _ _ e⟩
 have hd1:aT.get? s.heap.objs.size=aa (dH [] 0):=hk1 _ _ rV;have hdI:s.heap.objs.size<aT.objs.size:=Jj hd1;refine az (wpAny_pyIter_list (s:={ s with heap:=aT,toks:=tk }) ht1.isList ?_);refine IP ⟨plainId_quiet eW _,?_⟩;have hk:∀b o,s.heap.get? b=aa o->(aT.push { cls:=.type "list_iterator",data:=.fields #[.ref a,.int 0 0] }).get? b=aa o:=λb o e=>Jg _ (hk1 _ _ (Am _ _ e));have hXd:¬X s.heap.objs.size:=λq=>by refine aw (P.lt _ q) λo e=>?_;exact absurd (Jj e) (JB _)
 refine nZ (X:=X) (a:=a) (vs:=vs) (v:=v) (by exact P.room.handled) (by show A.units+1+200<cLine;lia) (Jz had) (Jz (Nat.lt_trans had hdI)) (Jz hdI) l vs 0 _ [] [] _ rfl (by simp) hf (hl.tr λb o e J hx=>⟨hk b o e,λq=>?_⟩) (let ⟨z,n,e⟩:=ht1;⟨z,n,Jg _ e⟩) (aU _ (Jh _ rfl) rfl rfl) ?_ λs' k hv=>?_
 ·rcases q with q|q|q
  ·exact hx q
  ·exact absurd (q▸Jj e) (JB _)
  ·have:=Jj e;rw[q]at this;exact absurd (Nat.lt_trans this hdI) (JB _)
 ·dsimp only[aP];refine qi ([]) ⟨⟨?_,JC _⟩,0,Jg _ hd1⟩ (by simp[av]) (by simp[av]) rfl (λk hk=>nomatch hk);rw[beq_eq_false_iff_ne];intro q;refine aw hsys λo e=>?_;have:=Jj (P.base _ _ e);rw[← q]at this;exact JB _ this
 ·refine⟨rfl,h _ s' ⟨λb o e=>k.keep b o (Jz (Jj e)) (Jz (Nat.lt_trans (Jj e) hdI)) (hk b o e),k.gens,k.os⟩ ?_⟩;exact aP.rep (aP.tr (X':=X) (λb o e J hx=>⟨e,λq=>hx (.inl q)⟩) (λo e J=>e) hv) hXd
end
section
variable{M:Model}{A:I0}{E:IZ->IY->Prop}{s:IY}
theorem vK{h:Heap}{a:I1}{f:Obj->Obj}{o o':Obj}(ho:h.get? a=aa o)(hf:(f o).cls=o.cls)(e:(h.update a f).get? a=aa o'):o'.cls=o.cls:=by
 have q:(h.update a f).objs[a]?=aa (f o):=by
  refine ao (Heap.get?_some_iff.mp ho) λe1 zz=>?_;simp only[Heap.update,Array.getElem?_modify,if_true];rw[e1];rfl
 refine ao (Heap.get?_some_iff.mp e) λe2 zz=>?_;rw[q]at e2;clear e zz;obtain rfl:=Jd e2;exact hf
theorem uq{o:Obj}{es:Array I2}{ep:Nat}{name:Str}{hh:Int}{key v:IZ}(hd:o.data=.dict es ep):(Obj.putName name hh key v o).cls=o.cls:=by
 obtain⟨c,d,dt,sl⟩:=o;simp only at hd;subst hd;simp only[Obj.putName_eq,Obj.putNameByArray];induction es.findIdx? (·.key.isStr name)using Option.casesOn<;>rfl
theorem mP{a:I1}{m:Str->Option IZ}{name:Str}{v:IZ}{o:Obj}{Q:Unit->IY->Prop}(hn:s.heap.Ns a m)(ho:s.heap.get? a=aa o)
  (h:∀h' o',h'.Ns a (λx=>if x=name then aa v else m x)->Jk a s.heap h'->h'.get? a=aa o'->o'.cls=o.cls->(∃es ep,o'.data=.dict es ep)->Q () { s with heap:=h',toks:=s.toks+1 }):
  wpAny M A (nsSet a name v) Q E s:=by
 refine d9 (id hn) λmO es ep gX hd hk zz=>?_;rw[ho]at gX;obtain rfl:=Jd gX;intro Γ p hΓ;have hany:es.any (·.refKey)=ag:=by
  rw[Array.any_eq_false'];intro e he;refine dX (hk e he) λn t h=>?_;simp[DictEntry.refKey,h]
 -- the step as it is computed,and what the library says of it,meet at one heap
 have two:∀(R:Unit->Pos->IY->Prop),(∀h',h'.Ns a (λx=>if x=name then aa v else m x)->Jk a s.heap h'->R () p { s with heap:=h',toks:=s.toks+1 })->
   ∃f:Obj->Obj,(f o).cls=o.cls/\R () p { s with heap:=s.heap.update a f,toks:=s.toks+1 }/\(∀R':Unit->Pos->IY->Prop,R' () p { s with heap:=s.heap.update a f,toks:=s.toks+1 }->Sem.wp M Γ (nsSet a name v) R' (λe J s'=>E e s') p s):=by
  intro R hR;have w:=Sem.wp_nsSet M Γ (λJ J J=>True) p s hn name v R hR;simp only[nsSet,strHash,Sem.wp_bind',Sem.wp_cmd_ask,Sem.wp_pure',Sem.wp_cmd_mkText]at w ⊢;rw[Sem.wp_loadPart_of M Γ _ p { s with toks:=s.toks+1 } (o:=o) _ ho]at w;simp only[hd,aRefKeyMayBeTheName_eq,aRefKeyMayBeTheNameByArray,hany,Bool.and_false,Jo,if_false,Sem.wp_cmd_updatePart]at w;refine aU _ (uq hd) w.2 (λR' hR'=>?_);rw[Sem.wp_loadPart_of M Γ _ p { s with toks:=s.toks+1 } (o:=o) _ ho];simp only[hd,aRefKeyMayBeTheName_eq,aRefKeyMayBeTheNameByArray,hany,Bool.and_false,Jo,if_false,Sem.wp_cmd_updatePart];exact⟨by refine rwl ho ?_;rfl,hR'⟩
 refine aQ (two (λJ J s'=>∃h',s'={ s with heap:=h',toks:=s.toks+1 }/\h'.Ns a (λx=>if x=name then aa v else m x)/\Jk a s.heap h') λh' x y=>aU h' rfl x y) λf hf z0 run=>?_;refine aQ z0 λh' e hn' hs'=>?_
 have e':s.heap.update a f=h':=congrArg Shared.heap e;refine run _ ?_;refine dz (id hn') λo' es' ep' ho' hd' zz=>?_;refine rwl e' ?_;refine h h' o' hn' hs' ho' ?_ (fU es' ep' hd');replace ho':=e'.symm▸ho';exact vK ho hf ho'
theorem oq{c:I1}{o:Obj}{v0 v:Option IZ}{Q:Unit->IY->Prop}(ho:s.heap.get? c=aa o)(hd:o.data=.cell v0)
  (h:∀h',h'.get? c=aa { o with data:=.cell v }->Jk c s.heap h'->Q () { s with heap:=h' }):wpAny M A (cellSet c v) Q E s:=by
 unfold cellSet;refine IQ (IW ho ?_);refine rwl hd ?_;exact wpAny_update ho (h _ (Ji _ ho rfl) (Jl ..))
end
structure Kf(X X':AP)(s s':IY):Prop where
 keep:∀b o,s.heap.get? b=aa o->Kc o->¬X b->s'.heap.get? b=aa o/\¬X' b
structure St(C:Cfg)(cx:Cx)(X0 Pn:AP)(env:Env)(ay:IY)(ρ:Fr)(p:List V)(s:IY)(X:AP):Prop where
 vw:Vw C cx X Pn env ρ p s.heap
 nx:Nx C Pn ay s
 sub:∀b,X0 b->X b
 new:∀b,X b->X0 b\/ay.heap.get? b=ae
 pn0:∀b,Pn b->X0 b
 lt0:∀b,X0 b->∃o,ay.heap.get? b=aa o
 base0:Base C ay.heap
 lns:∃m,s.heap.Ns env.locals m
 frm:∃o,s.heap.get? env.locals=aa o/\o.cls=aY
 efr:env.frame=aa env.locals
 lX:X env.locals
 l0:ay.heap.get? env.locals=ae
 cellX:∀x c,env.kindOf x=aa .cell->env.cells.lookup x=aa c->(∃o v,s.heap.get? c=aa o/\o.cls=.type "cell" /\ o.data=.cell v)/\ay.heap.get? c=ae/\(cx.caps.contains x=ag->X c)
 capK:∀x,cx.caps.contains x=af->env.kindOf x=aa .cell
 cinj:∀x y c,env.cells.lookup x=aa c->env.cells.lookup y=aa c->x=y
 nofree:∀x,env.kindOf x≠aa .free
 own:∃ad:Str->I1,(∀x j u,cx.vars.lookup x=aa j->aJ j ρ=.own u->Reads env s.heap x (.ref (ad x))/\ay.heap.get? (ad x)=ae)/\
  ∀x y j k u w,cx.vars.lookup x=aa j->cx.vars.lookup y=aa k->aJ j ρ=.own u->aJ k ρ=.own w->ad x=ad y->x=y
section
variable{cx:Cx}{X0 X X' Pn:AP}{env:Env}{ay s s' s'':IY}{ρ ρ':Fr}{p p':List V}{A:I0}{E:IZ->IY->Prop}
theorem Kf.refl:Kf X X s s:=⟨λJ J e J h=>⟨e,h⟩⟩
theorem Kf.trans{X'':AP}(a:Kf X X' s s')(b:Kf X' X'' s' s''):Kf X X'' s s'':=⟨λx o e hc hx=>let ⟨q,r⟩:=a.keep x o e hc hx;b.keep x o q hc r⟩
theorem Kf.tr(k:Kf X X' s s'):Tr X s.heap X' s'.heap:=λa o e hc hx=>k.keep a o e hc.ne hx
set_option tactic.hygienic true
theorem Reads.unique{x:Str}{v w:IZ}{h:Heap}(a:Reads env h x v)(b:Reads env h x w):v=w:=by
 unfold Reads at a b
 split at a
 ·rename_i e;replace b:=e▸b;refine aj a λm hm e1=>?_;refine aj b λm' hm' e2=>?_;have:=nA hm hm';clear hm';subst this;replace e2:=e1▸e2;clear b;obtain rfl:=Jd e2;rfl
 ·rename_i e;replace b:=e▸b;refine aj a λc hc zq=>?_;refine aQ zq λo h1 h2 h3=>?_;refine aj b λc' hc' zq=>?_;refine aQ zq λo' h1' h2' h3'=>?_;replace hc':=hc▸hc';cases hc';replace h1':=h1▸h1';clear h2';cases h1';replace h3':=h3▸h3';clear b zq;cases h3';rfl
 ·rename_i e;replace b:=e▸b;refine aj a λc hc zq=>?_;refine aQ zq λo h1 h2 h3=>?_;refine aj b λc' hc' zq=>?_;refine aQ zq λo' h1' h2' h3'=>?_;replace hc':=hc▸hc';cases hc';replace h1':=h1▸h1';clear h2';cases h1';replace h3':=h3▸h3';clear b zq;cases h3';rfl
 ·exact a.elim
theorem St.old(S:St C cx X0 Pn env ay ρ p s X){b:I1}(e:s.heap.get? b=ae):ay.heap.get? b=ae:=by
 induction q:ay.heap.get? b using Option.casesOn with
 | none=>rfl
 | some o=>refine aw (Ext.lt S.nx.ext S.vw.aE b ⟨o,q⟩) λo' q'=>?_;replace q':=e▸q';exact nS q'
theorem St.oP(S:St C cx X0 Pn env ay ρ p s X){b:I1}(e:ay.heap.get? b=ae):C.h₀.get? b=ae:=by
 induction q:C.h₀.get? b using Option.casesOn with
 | none=>rfl
 | some o=>have:=S.base0 b o q;replace this:=e▸this;exact nS this
theorem St.Eb (S:St C cx X0 Pn env ay ρ p s X) {c:I1} {o:Obj} (h:s.heap.get? c=aa o) (hc:o.cls=.type "cell"):¬Pn c:=fe S.vw.aE h hc (by decide)
theorem St.ownAt(S:St C cx X0 Pn env ay ρ p s X){x:Str}{j:Nat}{u:V}(hx:cx.vars.lookup x=aa j)(hg:aJ j ρ=.own u):
  ∃a,Reads env s.heap x (.ref a)/\X a/\¬Pn a/\aP C X s.heap u a/\ay.heap.get? a=ae/\(∀y k w b,y≠x->cx.vars.lookup y=aa k->aJ k ρ=.own w->Reads env s.heap y (.ref b)->b≠a):=by
 refine aj S.own λad h1 h2=>?_;refine ao (h1 x j u hx hg) λr1 r2=>?_;refine aQ (S.vw.vars x j hx (by refine rwl hg ?_;simp)) λval q1 q2 q3=>?_;have e:=Reads.unique q1 r1;clear q1 q3;subst e;replace q2:=hg▸q2;refine de q2 λa ea hxa hna ho=>?_;(injection ea with h9;subst h9);refine CI (ad x) r1 hxa hna ho r2 (λy k w b hy hk hgk hb e=>hy ?_);refine ao (h1 y k w hk hgk) λs1 s2=>?_;have e':=Reads.unique hb s1;(injection e' with h9;clear hb;subst h9);exact h2 y x k j w u hk hx hgk hg e
set_option tactic.hygienic false
theorem St.Dz(S:St C cx X0 Pn env ay ρ p s X)(hn:Nx C Pn s s')(hX:∀b,X b->X' b)(hX':∀b,X' b->X b\/s.heap.get? b=ae)(hlt:∀b,X' b->∃o,s'.heap.get? b=aa o)(hp:bA C X' Pn s'.heap p')(hnc:∀b,X' b->X b\/NC s'.heap b):
  St C cx X0 Pn env ay ρ p' s' X'/\Kf X X' s s':=by
 have v:=S.vw;have ne:∀{b o},s.heap.get? b=aa o->¬X b->¬X' b:=λ{b o} e hx q=>by
  rcases hX' b q with r|r
  ·exact hx r
  ·rw[e]at r;exact sN r
 have T:Tr X s.heap X' s'.heap:=λa o e hc hx=>⟨hn.ext.keep a o e (λq=>hx (v.pnX a q)) hc.ne,ne e hx⟩;refine aw S.lns λm hm=>?_;have npL:¬Pn env.locals:=jy v.aE hm;have R':∀{x val},Reads env s.heap x val->Reads env s'.heap x val:=λr=>r.ext hn.ext v.aE;refine⟨⟨{ kind:=v.kind,code:=v.code,globals:=v.globals,builtins:=v.builtins,kinds:=v.kinds,cells:=v.cells,vars:=λx j hx hu=>?_,own:=v.own,caps:=λx c hx hc=>?_,tab:=(hn.ext.tab X v.tab).mono λc q y=>(hnc c q).elim (λq=>⟨q,λr=>hp.nc r y,v.lt c q⟩) λq=>(q.code y).elim,aE:=hp,pnX:=λb hb=>hX b (v.pnX b hb),base:=hn.ext.base,lt:=hlt,fresh:=λb hb=>?_ },S.nx.trans hn,λb hb=>hX b (S.sub b hb),λb hb=>?_,S.pn0,S.lt0,S.base0,⟨m,qe hn.ext npL hm⟩,?_,S.efr,hX _ S.lX,S.l0,λx c hk hc=>?_,S.capK,S.cinj,S.nofree,?_⟩,
  ⟨λb o e hc hx=>⟨hn.ext.keep b o e (λq=>hx (v.pnX b q)) hc,ne e hx⟩⟩⟩
 ·refine aQ (v.vars x j hx hu) λval a c d=>?_;refine aU val (R' a) ?_ d;induction hg:aJ j ρ using Slot.casesOn with
  | undef=>trivial
  | val w=>rw[hg]at c;exact aq.tr T c
  | own w=>rw[hg]at c;refine de c λa e h1 h2 h3=>?_;exact fm a e (hX a h1) h2 (h3.tr T λo ho hc=>hn.ext.keep a o ho h2 hc)
  | aE=>rw[hg]at c;exact c
 ·have hn':=v.caps x c hx hc;intro q;rcases hX' c q with r|r
  ·exact hn' r
  ·by_cases hk:env.kindOf x=aa .cell
   ·refine ao (S.cellX x c hk hc) λz0 zz=>?_;refine bY z0 λo zz ho zz=>?_;rw[ho]at r;exact sN r
   ·exact absurd (S.capK x hx) hk
 ·rcases hX' b hb with r|r
  ·exact v.fresh b r
  ·exact S.oP (S.old r)
 ·rcases hX' b hb with r|r
  ·exact S.new b r
  ·exact .inr (S.old r)
 ·refine aj S.frm λo ho hc=>?_;refine aQ (hn.ext.data _ o ho npL) λo' ho' hc' zz=>?_;exact au o' ho' (hc'.trans hc)
 ·refine bM (S.cellX x c hk hc) λz0 h0 hx=>?_;refine aW z0 λo w ho hcl hd=>?_;exact⟨(bX o w (hn.ext.keep c o ho (S.Eb ho hcl) (bx hcl (by decide))) hcl hd),h0,λq=>hX c (hx q)⟩
 ·refine aj S.own λad h1 h2=>?_;exact au ad (λx j u hx hg=>let ⟨q1,q2⟩:=h1 x j u hx hg;⟨R' q1,q2⟩) h2
theorem St.next(S:St C cx X0 Pn env ay ρ p s X)(hn:Nx C Pn s s')(hp:bA C X Pn s'.heap p'):St C cx X0 Pn env ay ρ p' s' X/\Kf X X s s':=
 S.Dz hn (λJ q=>q) (λJ q=>.inl q) (λb hb=>Ext.lt hn.ext hp b (S.vw.lt b hb)) hp λJ q=>.inl q
theorem St.loc(S:St C cx X0 Pn env ay ρ p s X):Loc C X Pn env s.heap:=⟨S.lns,S.lX,S.oP S.l0⟩
end
section
variable{cx:Cx}{X0 X X' Pn:AP}{env:Env}{ay s s' s'':IY}{ρ ρ':Fr}{p p':List V}{A:I0}{E:IZ->IY->Prop}{h h':Heap}
set_option tactic.hygienic true
theorem fX{x:Str}{j:Nat}(h:cZ cx x=aa j):cx.vars.lookup x=aa j/\(cx.sc.lookup x=aa .local\/cx.sc.lookup x=aa .cell)/\cx.caps.contains x=ag/\bc x=af:=by
 unfold cZ at h
 split at h
 ·rename_i e;simp only[Jn,Bool.or_eq_true,beq_iff_eq,Bool.not_eq_true']at e;exact⟨h,e.1.1,e.1.2,e.2⟩
 ·exact nS h
theorem Frames.but{t:I1}(hs:Jk t h h')(ht:∀o,h.get? t=aa o->o.cls=aY->∃o',h'.get? t=aa o'/\o'.cls=aY/\∃es ep,o'.data=.dict es ep){l:List Env}(H:Frames C h l):Frames C h' l:=
 H.imp' λJ J L o J ho hc=>by
  by_cases e:L=t
  ·subst e;exact aQ (ht o ho hc) λo' a b z=>aU o' a b (λJ=>z)
  ·exact aU o (hs.extBut L o e ho) hc id
theorem bf.but{t:I1}(k:bf C A h)(hs:Jk t h h')(ht:∀o,h.get? t=aa o->o.cls=aY->∃o',h'.get? t=aa o'/\o'.cls=aY/\∃es ep,o'.data=.dict es ep):bf C A h':=
 let ⟨l,a,b⟩:=k;(au l a (b.but hs ht))
set_option tactic.hygienic false
theorem Vw.sm{x:Str}{c:I1}{j:Nat}{sl:Slot}{val:IZ}(v:Vw C cx X Pn env ρ p h)(O:bD cx)(hk:env.kindOf x=aa .cell)(hc:env.cells.lookup x=aa c)(hj:cx.vars.lookup x=aa j)
  (hX:X c) (hcl:∃o w,h.get? c=aa o/\o.cls=.type "cell" /\ o.data=.cell w) (hn:du h' c val) (hs:Jk c h h') (hinj:∀y,env.cells.lookup y=aa c->y=x) (hL:∃m,h.Ns env.locals m)
  (hr:dE C X Pn h sl val) (hv:val≠.ref env.locals) (ho:∀v,sl=.own v->cx.muts.contains x=af):Vw C cx X Pn env (sets j ρ sl) p h':=by
 refine aW hcl λoc w hoc hcc hcd=>?_;have t:=bK (X:=X) hs hX;have hnp:¬Pn c:=fe v.aE hoc hcc (by decide);have tk:∀{sl':Slot}{val':IZ},dE C X Pn h sl' val'->dE C X Pn h' sl' val':=λ{sl' val'} r=>by
  induction sl' using Slot.casesOn with
  | undef=>trivial
  | val u=>exact aq.tr t r
  | aE=>exact r
  | own u=>
   refine de r λa e h1 h2 h3=>?_;refine fm a e h1 h2 (h3.tr t λo ho J=>hs.extBut a o (λq=>?_) ho);clear hc hX hcl hn hs hinj hnp;subst q;refine aj h3.nK λo' ho' hne=>?_;rw[hoc]at ho';obtain rfl:=Jd ho';exact hne hcc
 have hcL:env.locals≠c:=λq=>by
  refine lz hL λm o' es ep ho' hd' zz=>?_;rw[q,hoc]at ho';obtain rfl:=Jd ho';rw[hcd]at hd';exact(nomatch hd')
 have rd:∀{y val'},y≠x->Reads env h y val'->Reads env h' y val':=λ{y val'} hy a=>by
  unfold Reads at a ⊢
  split at a
  ·refine aj a λm' hm' hv'=>?_;exact au m' (hm'.at' λo e=>hs.extBut _ o hcL e) hv'
  ·refine aj a λc' q zq=>?_;refine aQ zq λo r1 r2 r3=>?_;exact au c' q ⟨o,hs.extBut c' o (λe=>hy (hinj y (e▸q))) r1,r2,r3⟩
  ·refine aj a λc' q zq=>?_;refine aQ zq λo r1 r2 r3=>?_;exact au c' q ⟨o,hs.extBut c' o (λe=>hy (hinj y (e▸q))) r1,r2,r3⟩
  ·exact a.elim
 refine { kind:=v.kind,code:=v.code,globals:=v.globals,builtins:=v.builtins,kinds:=v.kinds,cells:=v.cells,vars:=λy k hy hu=>?_,own:=λy k u hy hg=>?_,caps:=v.caps,tab:=v.tab.qQ (W:=λb=>b=c) (λb o e q=>hs.extBut b o q e) (λb q=>q ▸ .jT hoc hcc (by decide)),aE:=v.aE.tr t λb o hb ho J=>hs.extBut b o (λq=>hnp (q▸hb)) ho,pnX:=v.pnX,base:=λb o e=>hs.extBut b o (λq=>by clear hc hcl hn hs hinj hoc hnp hcL;subst q;rw[v.fresh _ hX]at e;exact nS e) (v.base b o e),lt:=λb hb=>?_,fresh:=v.fresh }
 ·rw[cG]at hu ⊢;by_cases q:y=x
  ·clear hinj ho rd;subst q;rw[hj]at hy;obtain rfl:=Jd hy;by_cases h16:j<16
   ·rw[if_pos ⟨rfl,h16⟩]at hu ⊢;exact aU val (by unfold Reads;rw[hk];exact au c hc hn) (tk hr) hv
   ·rw[if_neg (λq=>h16 q.2),eS (Nat.not_lt.mp h16)]at hu;exact absurd rfl hu
  ·have hkj:k≠j:=λe=>q (O.inj y x j (e▸hy) hj);rw[if_neg (λq=>hkj q.1)]at hu ⊢;refine aQ (v.vars y k hy hu) λval' a b d=>?_;exact aU val' (rd q a) (tk b) d
 ·rw[cG]at hg;by_cases q:y=x
  ·clear hk hc hinj rd;subst q;rw[hj]at hy;obtain rfl:=Jd hy;by_cases h16:j<16
   ·rw[if_pos ⟨rfl,h16⟩]at hg;exact ho u hg
   ·rw[if_neg (λq=>h16 q.2),eS (Nat.not_lt.mp h16)]at hg;exact(nomatch hg)
  ·have hkj:k≠j:=λe=>q (O.inj y x j (e▸hy) hj);rw[if_neg (λq=>hkj q.1)]at hg;exact v.own y k u hy hg
 ·refine aw (v.lt b hb) λo ho=>?_;by_cases q:b=c
  ·clear hc hX hcl hs hinj hoc hnp hcL;subst q;refine aj hn λo' h1 zz=>?_;exact⟨o',h1⟩
  ·exact⟨o,hs.extBut b o q ho⟩
theorem St.turned{t:I1}{tk:Tok}(S:St C cx X0 Pn env ay ρ p s X)(vw:Vw C cx X Pn env ρ' p h')(hs:Jk t s.heap h')(hX:X t)(h0:ay.heap.get? t=ae)(hn:NC s.heap t)(lns:∃m,h'.Ns env.locals m)(frm:∃o,h'.get? env.locals=aa o/\o.cls=aY)
  (cell:∀x,env.kindOf x=aa .cell->env.cells.lookup x=aa t->∃o v,h'.get? t=aa o/\o.cls=.type "cell" /\ o.data=.cell v)
  (own:∃ad:Str->I1,(∀x j u,cx.vars.lookup x=aa j->aJ j ρ'=.own u->Reads env h' x (.ref (ad x))/\ay.heap.get? (ad x)=ae)/\
   ∀x y j k u w,cx.vars.lookup x=aa j->cx.vars.lookup y=aa k->aJ j ρ'=.own u->aJ k ρ'=.own w->ad x=ad y->x=y):
  St C cx X0 Pn env ay ρ' p { s with heap:=h',toks:=tk } X/\Kf X X s { s with heap:=h',toks:=tk }:=by
 refine⟨⟨vw,?_,S.sub,S.new,S.pn0,S.lt0,S.base0,lns,frm,S.efr,S.lX,S.l0,λx c hk hc=>?_,S.capK,S.cinj,S.nofree,own⟩,⟨λb o e J hx=>⟨hs.extBut b o (λq=>hx (q▸hX)) e,hx⟩⟩⟩
 ·exact((S.nx.grow (Y:=λb=>Pn b\/b=t) λJ q=>.inl q).trans (ic (o:=default) S.vw.base hs (S.oP h0) (.inr rfl) hn _)).shrink λb hb=>hb.elim .inl λq=>.inr (q▸h0)
 ·refine ao (S.cellX x c hk hc) λz0 r=>?_;refine aW z0 λo w ho hcl hd=>?_;by_cases q:c=t
  ·clear hs hX h0 hn;subst q;exact⟨cell x hk hc,r⟩
  ·exact⟨(bX o w (hs.extBut c o q ho) hcl hd),r⟩
structure Ew(C:Cfg)(X:AP)(env:Env)(x:Str)(val:IZ)(s s':IY):Prop where
 own:∀v a,aP C X s.heap v a->aP C X s'.heap v a
 oth:∀y v,y≠x->Reads env s.heap y v->Reads env s'.heap y v
 self:Reads env s'.heap x val
 but:∃t,(t=env.locals\/env.kindOf x=aa .cell/\env.cells.lookup x=aa t)/\Jk t s.heap s'.heap
set_option tactic.hygienic true
theorem xt {t:I1} {o:Obj} (hs:Jk t h h') (hX:X t) (ho:h.get? t=aa o) (hc:o.cls=aY\/o.cls=.type "cell") {v:V} {a:I1} (r:aP C X h v a):aP C X h' v a:=
 r.tr (bK hs hX) λo' e J=>hs.extBut a o' (λq=>by
  clear hs hX;subst q;refine aj r.nK λDi gD hc2=>?_;rw[ho]at gD;obtain rfl:=Jd gD;rcases hc with hc|hc
  ·induction v using V.casesOn<;>simp only[aP]at r
   case lst l=>refine aj r λvs z0 y=>?_;refine ao z0 λz zq=>?_;refine aw zq λn x=>?_;rw[ho]at x;clear ho gD hc2;obtain rfl:=Jd x;simp[dn,aY]at hc
   case bh ks xs=>refine de r λes z0 y w q=>?_;refine ao z0 λz zq=>?_;refine aw zq λn x=>?_;rw[ho]at x;clear ho gD hc2;obtain rfl:=Jd x;simp[dH,aY]at hc
  ·exact hc2 hc) e
set_option tactic.hygienic false
theorem St.store{x:Str}{j:Nat}{sl:Slot}{val:IZ}{Q:Unit->IY->Prop}(S:St C cx X0 Pn env ay ρ p s X)(O:bD cx)(k:bf C A s.heap)(ht:cZ cx x=aa j)(hr:dE C X Pn s.heap sl val)(hv:val≠.ref env.locals)
  (hown:∀u,sl=.own u->cx.muts.contains x=af/\∃a,val=.ref a/\ay.heap.get? a=ae/\∀y k w b,y≠x->cx.vars.lookup y=aa k->aJ k ρ=.own w->Reads env s.heap y (.ref b)->b≠a)
  (hQ:∀s',St C cx X0 Pn env ay (sets j ρ sl) p s' X->bf C A s'.heap->Kf X X s s'->Ew C X env x val s s'->Q () s'):wpAny (model C.prog C.w) A (storeName env x val) Q E s:=by
 refine fo (fX ht) λhj hsc hcap zz=>?_;refine aw S.lns λm hm=>?_;refine aj S.frm λoL hoL hcL=>?_
 -- the frame's own lists behind the store
 have own:∀h',(∀y v,y≠x->Reads env s.heap y v->Reads env h' y v)->Reads env h' x val->∃ad:Str->I1,(∀x j' u,cx.vars.lookup x=aa j'->aJ j' (sets j ρ sl)=.own u->Reads env h' x (.ref (ad x))/\ay.heap.get? (ad x)=ae)/\
   ∀x y j1 k u w,cx.vars.lookup x=aa j1->cx.vars.lookup y=aa k->aJ j1 (sets j ρ sl)=.own u->aJ k (sets j ρ sl)=.own w->ad x=ad y->x=y:=by
  intro h' r1 r2;refine aj S.own λad a1 a2=>?_;have other:∀{y k u},y≠x->cx.vars.lookup y=aa k->aJ k (sets j ρ sl)=.own u->aJ k ρ=.own u:=λ{y k u} hy hk hg=>by
   have hkj:k≠j:=λe=>hy (O.inj y x j (e▸hk) hj);rw[cG,if_neg (λq=>hkj q.1)]at hg;exact hg
  have self:∀{u},aJ j (sets j ρ sl)=.own u->sl=.own u:=λ{u} hg=>by
   rw[cG]at hg;by_cases h16:j<16
   ·rw[if_pos ⟨rfl,h16⟩]at hg;exact hg
   ·rw[if_neg (λq=>h16 q.2),eS (Nat.not_lt.mp h16)]at hg;exact(nomatch hg)
  refine au (λy=>if y=x then(match val with|.ref a=>a|_=>0) else ad y) (λy k u hy hg=>?_) (λy z j1 k u w hy hz hg hg' e=>?_)
  ·by_cases q:y=x
   ·clear ht hsc hcap zz r1 other;subst q;rw[hj]at hy;obtain rfl:=Jd hy;refine ao (hown u (self hg)) λzz zq=>?_;refine aQ zq λa ea h0 zz=>?_;clear zq;subst ea;simp only[if_true];exact⟨r2,h0⟩
   ·simp only[q,if_false];refine ao (a1 y k u hy (other q hy hg)) λq1 q2=>?_;exact⟨r1 _ _ q q1,q2⟩
  ·by_cases q:y=x<;>by_cases q':z=x
   ·rw[q,q']
   ·clear ht hsc hcap zz r1;subst q;rw[hj]at hy;obtain rfl:=Jd hy;refine ao (hown u (self hg)) λzz zq=>?_;refine aQ zq λa ea h0 hne=>?_;clear zq;subst ea;simp only[if_true,q',if_false]at e;exact absurd e.symm (hne z k w (ad z) q' hz (other q' hz hg') (a1 z k w hz (other q' hz hg')).1)
   ·clear ht hsc hcap zz r1;subst q';rw[hj]at hz;obtain rfl:=Jd hz;refine ao (hown w (self hg')) λzz zq=>?_;refine aQ zq λa ea h0 hne=>?_;clear zq;subst ea;simp only[if_true,q,if_false]at e;exact absurd e (hne y j1 u (ad y) q hy (other q hy hg) (a1 y j1 u hy (other q hy hg)).1)
   ·simp only[q,q',if_false]at e;exact a2 y z j1 k u w hy hz (other q hy hg) (other q' hz hg') e
 rcases hsc with hsc|hsc
 ·have hk:=S.vw.mX hsc;rw[storeName_local hk (rj S.vw.kind)];refine mP hm hoL λh' o' hn' hs' ho' hc' hd'=>?_;have vw:=S.vw.store O S.loc hk hj hm hn' hs' hr hv λu e=>(hown u e).1;have rd:∀y v,y≠x->Reads env s.heap y v->Reads env h' y v:=λy v hy a=>by
   unfold Reads at a ⊢
   split at a
   ·refine aj a λm' hm' hv'=>?_;rw[nA hm' hm]at hv';exact au _ hn' (by simp only[hy,if_false];exact hv')
   ·refine aj a λc' q r=>?_;exact au c' q (r.sameBut hs' hm)
   ·refine aj a λc' q r=>?_;exact au c' q (r.sameBut hs' hm)
   ·exact a.elim
  have hcell:∀y,env.kindOf y=aa .cell->env.cells.lookup y=aa env.locals->∃o v,h'.get? env.locals=aa o/\o.cls=.type "cell" /\ o.data=.cell v:=λy hy hc=>by
   refine ao (S.cellX y _ hy hc) λz0 zz=>?_;refine aW z0 λo w ho hcl zz=>?_;rw[hoL]at ho;clear zz;obtain rfl:=Jd ho;rw[hcL]at hcl;exact absurd hcl (by simp[aY])
  refine ao (S.turned (tk:=s.toks+1) vw hs' S.lX S.l0 (.ka hm) ⟨_,hn'⟩ (au o' ho' (hc'.trans hcL)) hcell (own h' rd (by unfold Reads;rw[hk];exact au _ hn' (if_pos rfl)))) λS' K=>?_;exact hQ _ S' (k.but hs' λo e hc=>⟨o',ho',hc'.trans hcL,hd'⟩) K ⟨λv a r=>xt hs' S.lX hoL (.inl hcL) r,rd,by unfold Reads;rw[hk];exact⟨_,hn',if_pos rfl⟩,_,.inl rfl,hs'⟩
 ·have hk:env.kindOf x=aa .cell:=(S.vw.kinds x .cell hsc).1 (by simp);refine aw (S.vw.cells x (.inl hk)) λc hc=>?_;refine bM (S.cellX x c hk hc) λz0 h0 hx=>?_;refine aW z0 λo w ho hcl hd=>?_;have hX:=hx hcap;have e:storeName env x val=cellSet c (aa val):=by
   unfold storeName;simp only[hk,S.vw.kind,cellOf,hc];rfl
  rw[e];refine oq ho hd λh' hc' hs'=>?_;have hci:du h' c val:=aU _ hc' hcl rfl;have hcL':env.locals≠c:=λq=>by rw[q,ho]at hoL;obtain rfl:=Jd hoL;rw[hcL]at hcl;exact absurd hcl (by simp[aY])
  have vw:=S.vw.sm O hk hc hj hX (bX o w ho hcl hd) hci hs' (λy hy=>S.cinj y x c hy hc) S.lns hr hv λu e=>(hown u e).1;have rd:∀y v,y≠x->Reads env s.heap y v->Reads env h' y v:=λy v hy a=>by
   unfold Reads at a ⊢
   split at a
   ·refine aj a λm' hm' hv'=>?_;exact au m' (hm'.at' λo e=>hs'.extBut _ o hcL' e) hv'
   ·refine aj a λc' q zq=>?_;refine aQ zq λo r1 r2 r3=>?_;exact au c' q ⟨o,hs'.extBut c' o (λe=>hy (S.cinj y x c (e▸q) hc)) r1,r2,r3⟩
   ·refine aj a λc' q zq=>?_;refine aQ zq λo r1 r2 r3=>?_;exact au c' q ⟨o,hs'.extBut c' o (λe=>hy (S.cinj y x c (e▸q) hc)) r1,r2,r3⟩
   ·exact a.elim
  refine ao (S.turned (tk:=s.toks) vw hs' hX h0 (.jT ho hcl (by decide)) ⟨m,hm.at' λo e=>hs'.extBut _ o hcL' e⟩ (au oL (hs'.extBut _ _ hcL' hoL) hcL) (λy hy hc=>bX _ _ hc' hcl rfl) (own h' rd (by unfold Reads;rw[hk];exact au c hc hci))) λS' K=>?_;exact hQ _ S' (k.but hs' λo' e hc'=>by rw[ho]at e;obtain rfl:=Jd e;rw[hcl]at hc';exact absurd hc' (by simp[aY])) K ⟨λv a r=>xt hs' hX ho (.inr hcl) r,rd,by unfold Reads;rw[hk];exact⟨c,hc,hci⟩,c,.inr ⟨hk,hc⟩,hs'⟩
end
section
variable{cx:Cx}{X0 X X' Pn:AP}{env:Env}{ay s s' s'':IY}{ρ ρ':Fr}{p p':List V}{A:I0}{Q:Flow->IY->Prop}{E:IZ->IY->Prop}{h h':Heap}{n:Nat}{call:Call}{b:Bool}
theorem eK{x y:Str}{j k:Nat}{sl:Slot}(O:bD cx)(hy:y≠x)(hk:cx.vars.lookup y=aa k)(hj:cx.vars.lookup x=aa j):aJ k (sets j ρ sl)=aJ k ρ:=by
 have hkj:k≠j:=λe=>hy (O.inj y x j (e▸hk) hj);rw[cG,if_neg (λq=>hkj q.1)]
theorem pS{j:Nat}(h:aJ j ρ≠.undef):j<16:=by
 by_cases q:j<16
 ·exact q
 ·rw[eS (Nat.not_lt.mp q)]at h;exact absurd rfl h
set_option tactic.hygienic true
theorem aP.notDict {v:V} {a:I1} (r:aP C X h v a):∀o,h.get? a=aa o->o.cls≠aY/\o.cls≠.type "cell" := λo ho=>by
 refine aj r.obj λo' ho' hc=>?_;rw[ho]at ho';obtain rfl:=Jd ho';induction v using V.casesOn<;>simp only[aP]at r
 case lst l=>refine aj r λvs z0 y=>?_;refine ao z0 λz zq=>?_;refine aw zq λn x=>?_;rw[ho]at x;clear ho ho' hc;obtain rfl:=Jd x;simp[dn,aY]
 case bh ks xs=>refine de r λes z0 y w q=>?_;refine ao z0 λz zq=>?_;refine aw zq λn x=>?_;rw[ho]at x;clear ho ho' hc;obtain rfl:=Jd x;simp[dH,aY]
set_option tactic.hygienic false
theorem St.freeze{x:Str}{j:Nat}{u:V}(S:St C cx X0 Pn env ay ρ p s X)(O:bD cx)(hx:cx.vars.lookup x=aa j)(hg:aJ j ρ=.own u):∃X',St C cx X0 Pn env ay (sets j ρ (.val u)) p s X'/\Kf X X' s s:=by
 refine jI (S.ownAt hx hg) λa ra hXa hna ho h0 hother=>?_;have v:=S.vw;have h16:j<16:=pS (ρ:=ρ) (by rw[hg];simp);have T:Tr X s.heap (λb=>X b/\b≠a) s.heap:=λa o e hc hx=>⟨e,λq=>hx q.1⟩;have hnd:=ho.notDict;have ne0:∀b,X0 b->b≠a:=λb hb e=>by clear ra hXa hna ho hother T hnd;subst e;refine aw (S.lt0 b hb) λo q=>?_;rw[h0]at q;exact nS q
 have self:aJ j (sets j ρ (.val u))=.val u:=by rw[cG,if_pos ⟨rfl,h16⟩]
 refine au (λb=>X b/\b≠a) ⟨{ kind:=v.kind,code:=v.code,globals:=v.globals,builtins:=v.builtins,kinds:=v.kinds,cells:=v.cells,vars:=λy k hy hu=>?_,own:=λy k w hy hgk=>?_,caps:=λy c hy hc q=>v.caps y c hy hc q.1,tab:=v.tab.mono λc q J=>q.1,aE:=v.aE.tr T λJ J J e J=>e,pnX:=λb hb=>⟨v.pnX b hb,λe=>hna (e▸hb)⟩,base:=v.base,lt:=λb hb=>v.lt b hb.1,fresh:=λb hb=>v.fresh b hb.1 },S.nx,λb hb=>⟨S.sub b hb,ne0 b hb⟩,λb hb=>S.new b hb.1,S.pn0,S.lt0,S.base0,S.lns,S.frm,S.efr,⟨S.lX,λe=>?_⟩,S.l0,λy c hk hc=>?_,S.capK,S.cinj,S.nofree,?_⟩ ⟨λb o e J hx=>⟨e,λq=>hx q.1⟩⟩
 ·by_cases q:y=x
  ·subst q;rw[hx]at hy;clear hu;obtain rfl:=Jd hy;rw[self];refine aU (.ref a) ra (aP.rep (ho.tr T λo e J=>e) (λq=>q.2 rfl)) (λe=>?_);(injection e with h9;clear hXa hna ho h0 T ne0 ra hother;subst h9);refine aj S.frm λo q1 q2=>?_;exact(hnd o q1).1 q2
  ·rw[eK O q hy hx]at hu ⊢;refine aQ (v.vars y k hy hu) λval q1 q2 q3=>?_;refine aU val q1 ?_ q3;induction hgk:aJ k ρ using Slot.casesOn with
   | undef=>trivial
   | val w=>rw[hgk]at q2;exact aq.tr T q2
   | own w=>rw[hgk]at q2;refine de q2 λa' e h1 h2 h3=>?_;clear q3 q2;subst e;exact fm a' rfl ⟨h1,hother y k w a' q hy hgk q1⟩ h2 (h3.tr T λo e J=>e)
   | aE=>rw[hgk]at q2;exact q2
 ·by_cases q:y=x
  ·clear ra hother;subst q;rw[hx]at hy;obtain rfl:=Jd hy;rw[self]at hgk;exact(nomatch hgk)
  ·rw[eK O q hy hx]at hgk;exact v.own y k w hy hgk
 ·clear ra hXa hna ho h0 hother T ne0;subst e;refine aj S.frm λo q1 q2=>?_;exact(hnd o q1).1 q2
 ·refine bM (S.cellX y c hk hc) λq1 q2 q3=>?_;refine⟨q1,q2,λq=>⟨q3 q,λe=>?_⟩⟩;clear ra hXa hna ho h0 hother T ne0;subst e;refine aW q1 λo w r1 r2 zz=>?_;exact(hnd o r1).2 r2
 ·refine aj S.own λad a1 a2=>?_;have back:∀{y k w},cx.vars.lookup y=aa k->aJ k (sets j ρ (.val u))=.own w->y≠x/\aJ k ρ=.own w:=λ{y k w} hy hgk=>by
   by_cases q:y=x
   ·clear ra hother;subst q;rw[hx]at hy;obtain rfl:=Jd hy;rw[self]at hgk;exact(nomatch hgk)
   ·rw[eK O q hy hx]at hgk;exact⟨q,hgk⟩
  exact au ad (λy k w hy hgk=>a1 y k w hy (back hy hgk).2) (λy z k l w w' hy hz hg1 hg2=>a2 y z k l w w' hy hz (back hy hg1).2 (back hz hg2).2)
theorem St.mut{x:Str}{j:Nat}{u u':V}{a:I1}{tk:Tok}(S:St C cx X0 Pn env ay ρ p s X)(k:bf C A s.heap)(O:bD cx)(hx:cx.vars.lookup x=aa j)(hg:aJ j ρ=.own u)(ra:Reads env s.heap x (.ref a))(hs:Jk a s.heap h')(ho':aP C X h' u' a):
  St C cx X0 Pn env ay (sets j ρ (.own u')) p { s with heap:=h',toks:=tk } X/\bf C A h'/\Kf X X s { s with heap:=h',toks:=tk }:=by
 refine jI (S.ownAt hx hg) λa' ra' hXa hna ho h0 hother=>?_;cases Reads.unique ra ra';have v:=S.vw;have h16:j<16:=pS (ρ:=ρ) (by rw[hg];simp);have T:=bK (X:=X) hs hXa;have hnd:=ho.notDict;refine aw S.lns λm hm=>?_;refine aj S.frm λoL hoL hcL=>?_;have hLa:env.locals≠a:=λe=>(hnd oL (e▸hoL)).1 hcL;have self:aJ j (sets j ρ (.own u'))=.own u':=by rw[cG,if_pos ⟨rfl,h16⟩]
 have cell:∀{c:I1}{w:IZ},du s.heap c w->du h' c w:=λ{c w} x=>by
  refine aQ x λmO h1 hc hd=>?_;exact aU mO (hs.extBut c mO (λq=>(hnd mO (q▸h1)).2 hc) h1) hc hd
 have rd:∀{y val'},Reads env s.heap y val'->Reads env h' y val':=λ{y val'} r=>by
  unfold Reads at r ⊢
  split at r
  ·refine aj r λm' hm' hv'=>?_;exact au m' (hm'.at' λo e=>hs.extBut _ o hLa e) hv'
  ·refine aj r λc' q r=>?_;exact au c' q (cell r)
  ·refine aj r λc' q r=>?_;exact au c' q (cell r)
  ·exact r.elim
 have vw:Vw C cx X Pn env (sets j ρ (.own u')) p h':=by
  refine { kind:=v.kind,code:=v.code,globals:=v.globals,builtins:=v.builtins,kinds:=v.kinds,cells:=v.cells,vars:=λy k hy hu=>?_,own:=λy k w hy hgk=>?_,caps:=v.caps,tab:=v.tab.qQ (W:=λb=>b=a) (λb o e q=>hs.extBut b o q e) (λb q=>q▸ho.nc),aE:=v.aE.tr T λb o hb e J=>hs.extBut b o (λq=>hna (q▸hb)) e,pnX:=v.pnX,base:=λb o e=>hs.extBut b o (λq=>by clear ra hs ho' ra' hna ho h0 hother hnd hLa;subst q;rw[v.fresh _ hXa]at e;exact nS e) (v.base b o e),lt:=λb hb=>?_,fresh:=v.fresh }
  ·by_cases q:y=x
   ·subst q;rw[hx]at hy;clear hu;obtain rfl:=Jd hy;rw[self];exact aU (.ref a) (rd ra) (fm a rfl hXa hna ho') (λe=>hLa (by(injection e with h9;clear hs ho' hXa hna ho h0 hnd hLa ra ra' hother;subst h9);rfl))
   ·rw[eK O q hy hx]at hu ⊢;refine aQ (v.vars y k hy hu) λval q1 q2 q3=>?_;refine aU val (rd q1) ?_ q3;induction hgk:aJ k ρ using Slot.casesOn with
    | undef=>trivial
    | val w=>rw[hgk]at q2;exact aq.tr T q2
    | own w=>rw[hgk]at q2;refine de q2 λa' e h1 h2 h3=>?_;clear q3 q2;subst e;exact fm a' rfl h1 h2 (h3.tr T λo e J=>hs.extBut a' o (hother y k w a' q hy hgk q1) e)
    | aE=>rw[hgk]at q2;exact q2
  ·by_cases q:y=x
   ·clear ra ra' hother;subst q;rw[hx]at hy;clear hgk;obtain rfl:=Jd hy;exact v.own y j u hx hg
   ·rw[eK O q hy hx]at hgk;exact v.own y k w hy hgk
  ·refine aw (v.lt b hb) λo gX=>?_;by_cases q:b=a
   ·clear ra hs ra' hXa hna ho h0 hother hnd hLa;subst q;refine aj ho'.obj λo' q' zz=>?_;exact⟨o',q'⟩
   ·exact⟨o,hs.extBut b o q gX⟩
 have hcell:∀y,env.kindOf y=aa .cell->env.cells.lookup y=aa a->∃o v,h'.get? a=aa o/\o.cls=.type "cell" /\ o.data=.cell v:=λy hy hc=>by
  refine ao (S.cellX y _ hy hc) λz0 zz=>?_;refine aW z0 λo w q1 q2 zz=>?_;exact absurd q2 (hnd o q1).2
 have hown:∃ad:Str->I1,(∀x j1 u,cx.vars.lookup x=aa j1->aJ j1 (sets j ρ (.own u'))=.own u->Reads env h' x (.ref (ad x))/\ay.heap.get? (ad x)=ae)/\
   ∀x y j1 k u w,cx.vars.lookup x=aa j1->cx.vars.lookup y=aa k->aJ j1 (sets j ρ (.own u'))=.own u->aJ k (sets j ρ (.own u'))=.own w->ad x=ad y->x=y:=by
  refine aj S.own λad a1 a2=>?_;have back:∀{y k w},cx.vars.lookup y=aa k->aJ k (sets j ρ (.own u'))=.own w->∃w',aJ k ρ=.own w':=λ{y k w} hy hgk=>by
   by_cases q:y=x
   ·clear ra ra' hother;subst q;rw[hx]at hy;clear hgk;obtain rfl:=Jd hy;exact⟨u,hg⟩
   ·rw[eK O q hy hx]at hgk;exact⟨w,hgk⟩
  refine au ad (λy k w hy hgk=>?_) (λy z k l w w' hy hz hg1 hg2=>?_)
  ·refine aw (back hy hgk) λw' q=>?_;refine ao (a1 y k w' hy q) λr1 r2=>?_;exact⟨rd r1,r2⟩
  ·refine aw (back hy hg1) λw1 q1=>?_;refine aw (back hz hg2) λw2 q2=>?_;exact a2 y z k l w1 w2 hy hz q1 q2
 refine ao (S.turned (tk:=tk) vw hs hXa h0 ho.nc ⟨m,hm.at' λo e=>hs.extBut _ o hLa e⟩ (au oL (hs.extBut _ _ hLa hoL) hcL) hcell hown) λS' K=>?_;exact⟨S',k.but hs λo e hc=>absurd hc (hnd o e).1,K⟩
def After(C:Cfg)(cx:Cx)(X0 Pn:AP)(env:Env)(ay:IY)(A:I0)(s:IY)(X:AP)(ρ':Fr)(p':List V)(K:AP->IY->Prop):Prop:=
 ∀s' X',St C cx X0 Pn env ay ρ' p' s' X'->bf C A s'.heap->Kf X X' s s'->K X' s'
structure bE(C:Cfg)(cx:Cx)(X0 Pn:AP)(env:Env)(ay:IY)(A:I0)(r:ai)(Q:Flow->IY->Prop)(E:IZ->IY->Prop)(s:IY)(X:AP):Prop where
 go:r≠.stuck
 next:∀ρ' p',r=.next ρ' p'->After C cx X0 Pn env ay A s X ρ' p' λJ s'=>Q .next s'
 brk:∀ρ' p',r=.brk ρ' p'->After C cx X0 Pn env ay A s X ρ' p' λJ s'=>Q .brk s'
 cont:∀ρ' p',r=.cont ρ' p'->After C cx X0 Pn env ay A s X ρ' p' λJ s'=>Q .cont s'
 ret:∀v ρ' p',r=.ret v ρ' p'->After C cx X0 Pn env ay A s X ρ' p' λX' s'=>∀val,aq C X' s'.heap v val->Q (.ret val) s'
 exc:∀k ρ' p',r=.exc k ρ' p'->∀s' X',St C cx X0 Pn env ay ρ' p' s' X'->bf C A s'.heap->∀e,ExcAt C ay.heap af (aa env.locals) k s'.heap e->E e s'
theorem After.go{K:AP->IY->Prop}{X1:AP}{s₁:IY}(a:After C cx X0 Pn env ay A s X ρ p K)(k:Kf X X1 s s₁):After C cx X0 Pn env ay A s₁ X1 ρ p K:=λs' X' S q r=>a s' X' S q (k.trans r)
theorem bE.to{r:ai}{X1:AP}{s₁:IY}(N:bE C cx X0 Pn env ay A r Q E s X)(k:Kf X X1 s s₁):bE C cx X0 Pn env ay A r Q E s₁ X1:=
 ⟨N.go,λa b e=>(N.next a b e).go k,λa b e=>(N.brk a b e).go k,λa b e=>(N.cont a b e).go k,λv a b e=>(N.ret v a b e).go k,N.exc⟩
def bu(C:Cfg)(cx:Cx)(st:Stmt)(d:bj):Prop:=
 ∀(n:Nat)(call:Call),dJ C n call->∀(X0 Pn:AP)(env:Env)(ay:IY)(ρ:Fr)(p:List V)(s:IY)(X:AP)(A:I0)(Q:Flow->IY->Prop)(E:IZ->IY->Prop),
  (∃l,A.frames=aa (env::l))->St C cx X0 Pn env ay ρ p s X->bf C A s.heap->dU A n->bE C cx X0 Pn env ay A (d call ρ p) Q E s X->wpAny (model C.prog C.w) A (exec st env) Q E s
def eA(C:Cfg)(cx:Cx)(b:List Stmt)(d:bj):Prop:=
 ∀(n:Nat)(call:Call),dJ C n call->∀(X0 Pn:AP)(env:Env)(ay:IY)(ρ:Fr)(p:List V)(s:IY)(X:AP)(A:I0)(Q:Flow->IY->Prop)(E:IZ->IY->Prop),
  (∃l,A.frames=aa (env::l))->St C cx X0 Pn env ay ρ p s X->bf C A s.heap->dU A n->bE C cx X0 Pn env ay A (d call ρ p) Q E s X->wpAny (model C.prog C.w) A (execs b env) Q E s
noncomputable def Out.toS{α:Type}(o:Out α)(ρ:Fr)(K:α->List V->ai):ai:=match o with
 | .ok v p=>K v p
 | .stuck=>.stuck
 | .exc k p=>.exc k ρ p
theorem rQ(r:Res)(K:V->List V->ai):(@Res.rec (λJ=>ai) ai.stuck K (λe p=>ai.exc e ρ p) r)=r.out.toS ρ K:=by induction r using Res.casesOn<;>rfl
theorem Dk(r:aI)(K:List V->List V->ai):(@aI.rec (λJ=>ai) ai.stuck K (λe p=>ai.exc e ρ p) r)=r.out.toS ρ K:=by induction r using aI.casesOn<;>rfl
theorem iE.at{k:List Nat}{e:IZ}{hs:Heap}(x:iE C hs k h e):ExcAt C hs af (aa env.locals) k h e:=by
 refine jG x λa oe d m x t zq=>?_;refine kD zq λvs e1 e2 e3 e4 e5 e6 e7 zq=>?_;refine bM zq λe8 e9 e10=>?_;refine⟨a,oe,d,m,x,t,vs,e1,e2,e3,e4,e5,e6,e7,e8,e9,.inr ?_⟩;rcases e10 with⟨q,_⟩|⟨T,oT,ts,f1,f2,f3,f4,f5,f6,f7⟩
 ·exact fT q
 ·refine vG T oT ts f1 f2 f3 f4 f5 f6 (.inl ?_);rcases f7 with f7|⟨l,q,_⟩
  ·exact f7
  ·exact nS q
theorem bE.o{α:Type}{o:Out α}{K:α->List V->ai}{O:α->IY->Prop}(N:bE C cx X0 Pn env ay A (o.toS ρ K) Q E s X)(S:St C cx X0 Pn env ay ρ p s X)(k:bf C A s.heap)
  (h:∀v p₁ s₁,o=.ok v p₁->St C cx X0 Pn env ay ρ p₁ s₁ X->bf C A s₁.heap->Kf X X s s₁->Nx C Pn s s₁->bE C cx X0 Pn env ay A (K v p₁) Q E s₁ X->O v s₁):bH C X Pn o O E s:=by
 refine⟨λe=>N.go (by refine rwl e ?_;rfl),λv p₁ e s₁ hn hp=>?_,λq p₁ e x s₁ hn hp hx=>?_⟩
 ·refine ao (S.next hn hp) λS1 k₁=>?_;subst e;exact h v p₁ s₁ rfl S1 (k.ext hn.ext S.vw.aE) k₁ hn (N.to k₁)
 ·refine ao (S.next hn hp) λS1 k₁=>?_;clear h;subst e;refine N.exc q ρ p₁ rfl s₁ X S1 (k.ext hn.ext S.vw.aE) x (ExcAt.back (iE.at hx) λb o eb=>Ext.lt S.nx.ext S.vw.aE b ⟨o,eb⟩)
theorem aL.st{e:Expr}{d:aA}{K:V->List V->ai}{Q₁:IZ->IY->Prop}(h:aL C cx b e d)(hc:dJ C n call)(S:St C cx X0 Pn env ay ρ p s X)(k:bf C A s.heap)(hr:dU A n)
  (N:bE C cx X0 Pn env ay A (@Res.rec (λJ=>ai) ai.stuck K (λe p=>ai.exc e ρ p) (d call ρ p)) Q E s X)
  (hk:∀v p₁ val s₁,St C cx X0 Pn env ay ρ p₁ s₁ X->bf C A s₁.heap->Kf X X s s₁->Nx C Pn s s₁->jo b C X Pn s₁.heap v val->bE C cx X0 Pn env ay A (K v p₁) Q E s₁ X->Q₁ val s₁):wpAny (model C.prog C.w) A (eval e env) Q₁ E s:=by
 rw[rQ]at N;exact h n call hc X Pn env ρ p s A Q₁ E S.vw k hr (N.o (O:=uV C b X Pn Q₁) S k λv p₁ s₁ J S1 k₁ kf hn N1 val hv=>hk v p₁ val s₁ S1 k₁ kf hn hv N1).e
theorem cO.st{e:Expr}{d:aA}{K:V->List V->ai}{Q₁:Bool->IY->Prop}(h:cO C cx e d)(hc:dJ C n call)(S:St C cx X0 Pn env ay ρ p s X)(k:bf C A s.heap)(hr:dU A n)
  (N:bE C cx X0 Pn env ay A (@Res.rec (λJ=>ai) ai.stuck K (λe p=>ai.exc e ρ p) (d call ρ p)) Q E s X)
  (hk:∀v p₁ s₁,St C cx X0 Pn env ay ρ p₁ s₁ X->bf C A s₁.heap->Kf X X s s₁->bE C cx X0 Pn env ay A (K v p₁) Q E s₁ X->rg Q₁ v s₁):wpAny (model C.prog C.w) A (isTrue e env (eval e env)) Q₁ E s:=by
 rw[rQ]at N;exact h n call hc X Pn env ρ p s A Q₁ E S.vw k hr (bL.o.mpr (N.o (O:=rg Q₁) S k λv p₁ s₁ J S1 k₁ kf J N1=>hk v p₁ s₁ S1 k₁ kf N1))
end
structure Mk(C:Cfg)(hs:Heap)(Y:AP)(s s':IY):Prop where
 nx:Nx C Y s s'
 ok:∀b,Y b->hs.get? b=ae/\(∃o',s'.heap.get? b=aa o'/\o'.cls≠.type "code")/\∀o,s.heap.get? b=aa o->¬cv o.cls/\o.cls≠aY
section
variable{cx:Cx}{X0 X X' Pn Y Y':AP}{env:Env}{outer:List Env}{ay s s' s'':IY}{ρ ρ':Fr}{p p':List V}{A:I0}{M:Model}{E:IZ->IY->Prop}{h h' hs:Heap}{n:Nat}{k:List Nat}
theorem Mk.trans(a:Mk C hs Y s s')(b:Mk C hs Y' s' s''):Mk C hs (λx=>Y x\/Y' x) s s'':=by
 refine⟨(a.nx.grow λJ q=>.inl q).trans (b.nx.grow λJ q=>.inr q),λx hx=>?_⟩;by_cases q':Y' x
 ·refine bM (b.ok x q') λh1 h2 h3=>?_;refine⟨h1,h2,λo e=>?_⟩;by_cases q:Y x
  ·exact(a.ok x q).2.2 o e
  ·refine aQ (a.nx.ext.data x o e q) λo' e' hc zz=>?_;have:=h3 o' e';replace this:=hc▸this;exact this
 ·have q:=hx.resolve_right q';refine bM (a.ok x q) λh1 z0 h3=>?_;refine aj z0 λo' e' hc'=>?_;refine aQ (b.nx.ext.data x o' e' q') λo'' e'' hc'' zz=>?_;exact⟨h1,(au o'' e'' (by refine rwl hc'' ?_;exact hc')),h3⟩
theorem Mk.refl(hb:Base C s.heap):Mk C hs (λJ=>False) s s:=⟨.refl hb,λJ q=>q.elim⟩
theorem Frames.mem{l:List Env}(H:Frames C h l)(b:I1)(hb:b∈l.filterMap (·.frame)):C.h₀.get? b=ae/\∃o,h.get? b=aa o/\o.cls=aY:=by
 refine aj (List.mem_filterMap.mp hb) λe he hf=>?_;refine dO (H.at_ e he) λL o hf' hn ho z=>?_;obtain rfl:=Jd (hf'.symm.trans hf);exact⟨hn,o,ho,dX z λJ J z=>z.1⟩
theorem Frames.fun:∀{l:List Env},Frames C h l->h.FunFrames C.h₀ l
 | [],_=>trivial
 | _::_,H=>⟨H.1,oB H.2.1 λL o es ep hf hn ho z=>d8 L o hf hn ho (λvs q=>by rw[z.2]at q;exact(nomatch q)),H.2.2.fun⟩
theorem yw{l:List Env}(hF:Frames C s.heap l)(hb:Base C s.heap)(hs:Heap.SlotsOnly (l.filterMap (·.frame)) s.heap h'):Nx C (λJ=>False) s { s with heap:=h' }:=by
 refine⟨⟨λb o e=>?_,λb o e J hc=>?_,λb o e J=>?_,λX x=>x.but (W:=λb=>b∈l.filterMap (·.frame)) (λb o e q=>(hs.2.1 b q).trans e) (λb q=>?_) λb q=>.inl q.1⟩,rfl,rfl⟩
 ·exact(hs.2.1 b λq=>by rw[(hF.mem b q).1]at e;exact nS e).trans (hb b o e)
 ·exact(hs.2.1 b λq=>by refine ao (hF.mem b q) λzz zq=>?_;refine aj zq λo' e' hc'=>?_;rw[e]at e';obtain rfl:=Jd e';exact hc.1 hc').trans e
 ·refine aw (hs.2.2 b o e) λsl e'=>?_;exact aU _ e' rfl (.inr rfl)
 ·refine ao (hF.mem b q) λzz zq=>?_;refine aj zq λo' e' hc'=>?_;exact .jT e' hc' (by decide)
theorem Frames.mk{Y:AP}(m:Mk C hs Y s s'){l:List Env}(hF:Frames C s.heap l):Frames C s'.heap l:=
 hF.ext2 m.nx.ext λe he F hf hy=>by refine aj (hF.cls e he F hf) λo ho hc=>?_;exact((m.ok F hy).2.2 o ho).2 hc
theorem bf.mk{Y:AP}(m:Mk C hs Y s s')(k:bf C A s.heap):bf C A s'.heap:=let ⟨l,a,b⟩:=k;(au l a (b.mk m))
theorem o8 {b:I1} {o:Obj} {n:String} (hb:Base C s.heap) (h0:hs.get? b=ae) (hB:Base C hs) (he:s.heap.get? b=aa o) (hc:(∃q,o.cls=.ref q)\/(o.cls=.type n/\¬cv (.type n)/\n ≠ "frame" /\ n ≠ "code")) {f:Obj->Obj} (hf:(f o).isFreed=ag) (hfc:(f o).cls=o.cls):
  Mk C hs (λx=>x=b) s { s with heap:=s.heap.update b f }:=by
 have hC:C.h₀.get? b=ae:=by
  induction q:C.h₀.get? b using Option.casesOn with
  | none=>rfl
  | some o=>have:=hB b o q;replace this:=h0▸this;exact nS this
 have hs':Jk b s.heap (s.heap.update b f):=Jl ..;have keep:∀x o,s.heap.get? x=aa o->¬x=b->(s.heap.update b f).get? x=aa o:=λx o e q=>hs'.extBut x o q e;have hnc:NC s.heap b:=λo' e'=>by
  replace e':=he▸e';obtain rfl:=Jd e';rcases hc with⟨q,e⟩|⟨e,_,_,e'⟩
  ·exact .inl ⟨by refine rwl e ?_;simp,by refine rwl e ?_;simp⟩
  ·exact .inl ⟨by refine rwl e ?_;exactλq=>by(injection q with h9;clear e left left_1;subst h9);exact e' rfl,by refine rwl e ?_;simp⟩
 have hcode:o.cls≠.type "code" := λq=>by
  rcases hc with⟨q',e⟩|⟨e,_,_,e'⟩
  ·replace e:=q▸e;exact(nomatch e)
  ·replace e:=q▸e;(injection e with h9;clear left left_1;subst h9);exact e' rfl
 refine⟨⟨⟨λx o e=>hs'.extBut x o (λq=>by clear h0 he hs' keep hnc;subst q;replace e:=hC▸e;exact nS e) (hb x o e),λx o e q J=>keep x o e q,λx o e q=>aU o (keep x o e q) rfl (.inr rfl),λX t=>?_⟩,rfl,rfl⟩,λx q=>?_⟩
 ·exact t.but (W:=λx=>x=b) (λx o e q=>keep x o e q) (λx q=>q▸hnc) λx q=>.inl q.1
 ·clear hC hs' keep hnc;subst q;refine⟨h0,(au _ (Ji _ he hf) (by refine rwl hfc ?_;exact hcode)),λo' e'=>?_⟩;replace e':=he▸e';obtain rfl:=Jd e';rcases hc with⟨q,e⟩|⟨e,e1,e2,_⟩
  ·refine rwl e ?_;simp[cv,aY]
  ·refine rwl e ?_;exact⟨e1,λq=>by delta aY at q;(injection q with h9;clear e e1 right;subst h9);exact e2 rfl⟩
theorem push_mk(hb:Base C s.heap)(o:Obj):Mk C hs (λJ=>False) s { s with heap:=s.heap.push o }:=⟨⟨.push hb o,rfl,rfl⟩,λJ q=>q.elim⟩
theorem rh:¬cv (.type "traceback"):=by simp[cv]
theorem xU{L a:I1}{oe:Obj}{vs:Array IZ}{head:IZ}{hadNext:Bool}{Q:Unit->IY->Prop}(hA:A.frames=aa (env::outer))(hF:Frames C s.heap (env::outer))(hf:env.frame=aa L)(hb:Base C s.heap)(hB:Base C hs)(hsub:∀b,(∃o,hs.get? b=aa o)->∃o,s.heap.get? b=aa o)
  (hcls:∃q,C.cls=.ref q) (he:s.heap.get? a=aa oe) (hc:oe.cls=C.cls) (h0:hs.get? a=ae) (hd:oe.data=.fields vs) (hsz:1<vs.size)
  (hQ:∀s' Y T pl,Mk C hs Y s s'->s'.heap.get? a=aa (oe.mapFields (·.setIfInBounds 1 (.ref T)))->hs.get? T=ae->T≠a->IsPlace pl->s'.heap.get? T=aa { cls:=.type "traceback",dict:=ae,data:=.fields ([head,.ref L,.none,rawInt L,.none]++(if pl.isEmpty then List.replicate 6 Value.none else pl)).toArray }->
   (∀b o,s.heap.get? b=aa o->b≠a->(∀vs,o.data≠.fields vs)->∃sl,s'.heap.get? b=aa { o with slots:=sl })->Q () s'):
  wpAny M A (do setField (.ref a) 1 (← EntryCells.newEntry head (← frameOf env) .none (rawInt L) .none (← entryPlaceOf L hadNext))) Q E s:=by
 refine aw hcls λq hq=>?_;have hal:a∉(env::outer).filterMap (·.frame):=λhm=>by
  refine ao (hF.mem a hm) λzz zq=>?_;refine aj zq λo ho hcf=>?_;rw[he]at ho;obtain rfl:=Jd ho;rw[hc,hq]at hcf;exact(nomatch hcf)
 refine IQ (wpAny_frameOf_fun hA hF.fun hf λaT dB=>?_);refine IQ (wpAny_entryPlaceOf λpl hpl=>?_);delta EntryCells.newEntry newFields;refine IQ (wpAny_newObj_type ?_ (hpl.sizeOk5 _ _ _ _ _));have m₁:Mk C hs (λJ=>False) s { s with heap:=aT }:=⟨yw hF hb dB,λJ q=>q.elim⟩;have m₂:=push_mk (hs:=hs) (s:={ s with heap:=aT }) m₁.nx.ext.base { cls:=.type "traceback",dict:=ae,data:=.fields ([head,.ref L,.none,rawInt L,.none]++(if pl.isEmpty then List.replicate 6 Value.none else pl)).toArray }
 have he1:aT.get? a=aa oe:=(dB.2.1 a hal).trans he;have he2:=Jg (h:=aT) { cls:=.type "traceback",dict:=ae,data:=.fields ([head,.ref L,.none,rawInt L,.none]++(if pl.isEmpty then List.replicate 6 Value.none else pl)).toArray } he1
 refine wpAny_setField he2 hd hsz ?_;have hd3:=Obj.data_mapFields hd (·.setIfInBounds 1 (Value.ref aT.objs.size));have yR:=o8 (n := "") (s:={ s with heap:=aT.push { cls:=.type "traceback",dict:=ae,data:=.fields ([head,.ref L,.none,rawInt L,.none]++(if pl.isEmpty then List.replicate 6 Value.none else pl)).toArray } }) m₂.nx.ext.base h0 hB he2 (.inl ⟨q,hc.trans hq⟩) (f:=Obj.mapFields (·.setIfInBounds 1 (Value.ref aT.objs.size))) (Obj.isFreed_of_fields hd3) (Obj.cls_mapFields _ _)
 have hTa:aT.objs.size≠a:=Nat.ne_of_gt (Jj he1);refine hQ _ _ aT.objs.size pl ((m₁.trans m₂).trans yR) (Ji _ he2 (Obj.isFreed_of_fields hd3)) ?_ hTa hpl ?_ λb o eb hba hnf=>?_
 ·induction e:hs.get? aT.objs.size using Option.casesOn with
  | none=>rfl
  | some o=>
   refine aw (hsub _ ⟨o,e⟩) λo' e'=>?_;have:=Jj e';rw[← dB.1]at this;exact absurd this (JB _)
 ·exact(Heap.get?_update_other _ _ (Ne.symm hTa)).trans (Jh aT rfl)
 ·refine aw (dB.2.2 b o eb) λsl e'=>?_;exact⟨sl,(Heap.get?_update_other _ _ (Ne.symm hba)).trans (Jg _ e')⟩
end
section
variable{cx:Cx}{X0 X X' Pn Y Y':AP}{env:Env}{outer:List Env}{ay s s' s'':IY}{ρ ρ':Fr}{p p':List V}{A:I0}{M:Model}{E:IZ->IY->Prop}{h h' hs:Heap}{n:Nat}{k:List Nat}
theorem Gu{d:I1}{m:Str->Option IZ}(x:h.Ns d m)(hk:∀o,h.get? d=aa o->(∀vs,o.data≠.fields vs)->∃sl,h'.get? d=aa { o with slots:=sl }):h'.Ns d m:=by
 refine dz x λo es ep ho hd r=>?_;refine aw (hk o ho λvs q=>by rw[hd]at q;exact(nomatch q)) λsl e=>?_;exact iG _ es ep e hd r
theorem oQ{L:I1}{e:IZ}{fr:Bool}{Q:Unit->IY->Prop}(hA:A.frames=aa (env::outer))(hF:Frames C s.heap (env::outer))(hf:env.frame=aa L)(hb:Base C s.heap)(hB:Base C hs)(hsub:∀b,(∃o,hs.get? b=aa o)->∃o,s.heap.get? b=aa o)
  (hcls:∃q,C.cls=.ref q) (x:ExcAt C hs fr (aa L) k s.heap e) (hQ:∀s' Y,Mk C hs Y s s'->ExcAt C hs ag (aa L) k s'.heap e->Q () s'):wpAny M A (noteFrame e env) Q E s:=by
 obtain⟨a,oe,d,m,w,t,vs,rfl,e2,e3,e4,e5,e6,e7,e8,e9,e10⟩:=x;have key:∀{s₁:IY}{Y1:AP}{head:IZ}{hn:Bool},Mk C hs Y1 s s₁->Frames C s₁.heap (env::outer)->s₁.heap.get? a=aa oe->s₁.heap.Ns d m->1<vs.size->(∀b,(∃o,hs.get? b=aa o)->∃o,s₁.heap.get? b=aa o)->
   wpAny M A (do setField (.ref a) 1 (← EntryCells.newEntry head (← frameOf env) .none (rawInt L) .none (← entryPlaceOf L hn))) Q E s₁:=λ{s₁ Y1 head hn} m₁ hF1 he1 hd1 hsz hsub1=>by
  refine xU hA hF1 hf m₁.nx.ext.base hB hsub1 hcls he1 e3 e8.1 e9 hsz λs' Y T pl mk he' hT hTa hpl hTo hkeep=>hQ s' _ (m₁.trans mk) ?_;refine⟨a,_,d,m,w,t,_,rfl,he',(Obj.cls_mapFields _ _).trans e3,(by refine rwl e4.symm ?_;unfold Obj.mapFields;split<;>rfl),Gu hd1 λo ho hnf=>hkeep d o ho (λq=>by clear hQ e2 e8 e10 he' hTa hkeep;subst q;replace ho:=he1▸ho;obtain rfl:=Jd ho;exact hnf vs e9) hnf,e6,e7,e8,Obj.data_mapFields e9 _,.inr (vG T _ _ (by simp[hsz]) hT hTa hTo rfl rfl (.inr (au L rfl (by clear hTo;rcases hpl with rfl|⟨_,_,_,_,_,_,_,rfl⟩<;>simp))))⟩
 unfold noteFrame;simp only[hf];rcases e10 with⟨_,e10⟩|⟨T,oT,ts,f1,f2,f3,f4,f5,f6,f7⟩
 ·refine IQ (wpAny_field e2 e9 e10 ?_);refine eU (by decide) ?_;exact key (.refl hb) hF e2 e5 (Array.getElem?_eq_some_iff.mp e10).1 hsub
 ·refine IQ (wpAny_field e2 e9 f1 ?_);refine pe (show(Value.ref T !=Value.none)=af from by simp) ?_;rcases f7 with f7|⟨l,hl,f7⟩
  ·refine IQ (wpAny_field f4 f6 f7 ?_);refine eU (show ¬((Value.none==rawInt L)=af) from by simp[rawInt]) ?_;refine IQ (wpAny_setField f4 f6 (Array.getElem?_eq_some_iff.mp f7).1 ?_);have hd3:=Obj.data_mapFields f6 (·.setIfInBounds 3 Value.none);have m₁:=o8 hb f2 hB f4 (.inr ⟨f5,rh,by decide,by decide⟩) (f:=Obj.mapFields (·.setIfInBounds 3 Value.none)) (Obj.isFreed_of_fields hd3) (Obj.cls_mapFields _ _);have other:∀b,b≠T->(s.heap.update T (Obj.mapFields (·.setIfInBounds 3 Value.none))).get? b=s.heap.get? b:=λb hb=>Heap.get?_update_other _ _ (Ne.symm hb);refine key m₁ (hF.mk m₁) ((other a (Ne.symm f3)).trans e2) (e5.at' λo ho=>(other d λq=>?_).trans ho) (Array.getElem?_eq_some_iff.mp f1).1 λb q=>?_
   ·refine dz e5 λo' es ep ho' hd' zz=>?_;clear f1 f2 f3 m₁ other;subst q;replace ho':=f4▸ho';obtain rfl:=Jd ho';replace hd':=f6▸hd';exact(nomatch hd')
   ·refine aw (hsub b q) λo ho=>?_;by_cases q':b=T
    ·clear f1 f2 f3 m₁ other;subst q';exact⟨_,Ji _ f4 (Obj.isFreed_of_fields hd3)⟩
    ·exact⟨o,(other b q').trans ho⟩
  ·obtain rfl:=Jd hl;refine IQ (wpAny_field f4 f6 f7 ?_);refine pe (show(rawInt L==rawInt L)=af from by simp) ?_;exact IP (hQ s _ (.refl hb) ⟨a,oe,d,m,w,t,vs,rfl,e2,e3,e4,e5,e6,e7,e8,e9,.inr (vG T oT ts f1 f2 f3 f4 f5 f6 (.inr (au L rfl f7)))⟩)
theorem jB{e:IZ}{l l':Option I1}{Q:Unit->IY->Prop}(hb:Base C s.heap)(hB:Base C hs)(x:ExcAt C hs ag l k s.heap e)(hQ:∀s' Y,Mk C hs Y s s'->ExcAt C hs ag l' k s'.heap e->Q () s'):wpAny M A (setFlight e l') Q E s:=by
 obtain⟨a,oe,d,m,w,t,vs,rfl,e2,e3,e4,e5,e6,e7,e8,e9,e10⟩:=x;rcases e10 with⟨q,_⟩|⟨T,oT,ts,f1,f2,f3,f4,f5,f6,f7⟩
 ·exact fT q
 ·have hsz:3<ts.size:=by rcases f7 with f7|⟨_,_,f7⟩<;>exact(Array.getElem?_eq_some_iff.mp f7).1
  unfold setFlight;refine IQ (wpAny_field e2 e9 f1 ?_);refine pe (show(Value.ref T !=Value.none)=af from by simp) ?_;refine wpAny_setField f4 f6 hsz ?_;have hd3:=Obj.data_mapFields f6 (·.setIfInBounds 3 (l'.elim Value.none λf=>rawInt f));have m₁:=o8 hb f2 hB f4 (.inr ⟨f5,rh,by decide,by decide⟩) (f:=Obj.mapFields (·.setIfInBounds 3 (l'.elim Value.none λf=>rawInt f))) (Obj.isFreed_of_fields hd3) (Obj.cls_mapFields _ _);have other:∀b,b≠T->(s.heap.update T (Obj.mapFields (·.setIfInBounds 3 (l'.elim Value.none λf=>rawInt f)))).get? b=s.heap.get? b:=λb hb=>Heap.get?_update_other _ _ (Ne.symm hb);refine hQ _ _ m₁ ⟨a,oe,d,m,w,t,vs,rfl,(other a (Ne.symm f3)).trans e2,e3,e4,e5.at' λo ho=>(other d λq=>?_).trans ho,e6,e7,e8,e9,.inr (vG T _ _ f1 f2 f3 (Ji _ f4 (Obj.isFreed_of_fields hd3)) ((Obj.cls_mapFields _ _).trans f5) hd3 ?_)⟩
  ·refine dz e5 λo' es ep ho' hd' zz=>?_;clear f1 f2 f3 m₁ other;subst q;replace ho':=f4▸ho';obtain rfl:=Jd ho';replace hd':=f6▸hd';exact(nomatch hd')
  ·induction l' using Option.casesOn with
   | none=>exact .inl (by simp[hsz])
   | some f=>exact .inr (au f rfl (by simp[hsz]))
theorem oa{L:I1}{e:IZ}{fr:Bool}{Q:Unit->IY->Prop}(hA:A.frames=aa (env::outer))(hF:Frames C s.heap (env::outer))(hf:env.frame=aa L)(hb:Base C s.heap)(hB:Base C hs)(hsub:∀b,(∃o,hs.get? b=aa o)->∃o,s.heap.get? b=aa o)
  (hcls:∃q,C.cls=.ref q) (x:ExcAt C hs fr (aa L) k s.heap e) (hQ:∀s' Y,Mk C hs Y s s'->iE C hs k s'.heap e->Q () s'):wpAny M A (leaving env e) Q E s:=
 IQ (oQ hA hF hf hb hB hsub hcls x λs₁ Y1 m₁ vE=>jB m₁.nx.ext.base hB vE λs₂ Es m₂ oA=>hQ s₂ _ (m₁.trans m₂) oA)
theorem St.qA (S:St C cx X0 Pn env ay ρ p s X) (mnx:Nx C Y s s') (m0:∀b,Y b->ay.heap.get? b=ae) (mc:∀b,Y b->∀o,s.heap.get? b=aa o->¬cv o.cls/\o.cls≠aY) (mlt:∀b,X b->∃o,s'.heap.get? b=aa o) (mcode:∀b,Y b->X b->∀o,s'.heap.get? b=aa o->o.cls≠.type "code"):St C cx X0 Pn env ay ρ p s' X:=by
 have v:=S.vw;have nr:∀{b o},s.heap.get? b=aa o->cv o.cls\/o.cls=aY->¬Y b:=λ{b o} e hc q=>hc.elim (mc b q o e).1 (mc b q o e).2;have keep:∀{b o},s.heap.get? b=aa o->cv o.cls->s'.heap.get? b=aa o:=λ{b o} e hc=>mnx.ext.keep b o e (nr e (.inl hc)) hc.ne;have T:Tr X s.heap X s'.heap:=λa o e hc hx=>⟨keep e hc,hx⟩;have cell:∀{c:I1}{w:IZ},du s.heap c w->du s'.heap c w:=λ{c w} z9=>aQ z9 λo h1 h2 h3=>aU o (keep h1 (by refine rwl h2 ?_;exact .inr (.inr (.inr (.inr rfl))))) h2 h3;refine aw S.lns λmL hm=>?_;refine aj S.frm λoL hoL hcL=>?_;have hY:¬Y env.locals:=nr hoL (.inr hcL);have ns:∀{m'},s.heap.Ns env.locals m'->s'.heap.Ns env.locals m':=λx=>qe mnx.ext hY x;have rd:∀{y val'},Reads env s.heap y val'->Reads env s'.heap y val':=λ{y val'} r=>by
  unfold Reads at r ⊢
  split at r
  ·refine aj r λm' hm' hv'=>?_;exact au m' (ns hm') hv'
  ·refine aj r λc' q r=>?_;exact au c' q (cell r)
  ·refine aj r λc' q r=>?_;exact au c' q (cell r)
  ·exact r.elim
 refine⟨{ kind:=v.kind,code:=v.code,globals:=v.globals,builtins:=v.builtins,kinds:=v.kinds,cells:=v.cells,vars:=λx j hx hu=>?_,own:=v.own,caps:=v.caps,tab:=(mnx.ext.tab X v.tab).mono λc q y=>⟨q,λhy=>by refine ao y λzz zq=>?_;refine dz zq λo zz zz q1 q2 zz=>?_;exact mcode c hy q o q1 q2,v.lt c q⟩,aE:=⟨v.aE.one,λP hP=>?_⟩,pnX:=v.pnX,base:=mnx.ext.base,lt:=mlt,fresh:=v.fresh },
  ((S.nx.grow (Y:=λb=>Pn b\/Y b) λJ q=>.inl q).trans (mnx.grow λJ q=>.inr q)).shrink λb hb=>hb.elim .inl λq=>.inr (m0 b q),S.sub,S.new,S.pn0,S.lt0,S.base0,⟨mL,ns hm⟩,?_,S.efr,S.lX,S.l0,λx c hk hc=>?_,S.capK,S.cinj,S.nofree,?_⟩
 ·refine aQ (v.vars x j hx hu) λval q1 q2 q3=>?_;refine aU val (rd q1) ?_ q3;induction hg:aJ j ρ using Slot.casesOn with
  | undef=>trivial
  | val w=>replace q2:=hg▸q2;exact aq.tr T q2
  | own w=>
   replace q2:=hg▸q2;refine de q2 λa e h1 h2 h3=>?_;refine fm a e h1 h2 (h3.tr T λo ho J=>?_);refine aj h3.obj λo' ho' hc'=>?_;replace ho':=ho▸ho';obtain rfl:=Jd ho';exact keep ho hc'
  | aE=>replace q2:=hg▸q2;exact q2
 ·refine aj (v.aE.at_ P hP) λvs z0 r=>?_;refine ao z0 λz zq=>?_;refine aw zq λn q=>?_;exact au vs ⟨z,n,keep q (.inr (.inl rfl))⟩ (r.tr T)
 ·refine aQ (mnx.ext.data _ oL hoL hY) λo' ho' hc' zz=>?_;exact au o' ho' (hc'.trans hcL)
 ·refine ao (S.cellX x c hk hc) λz0 r=>?_;refine aW z0 λo w ho hcl hd=>?_;exact⟨(bX o w (keep ho (by refine rwl hcl ?_;exact .inr (.inr (.inr (.inr rfl))))) hcl hd),r⟩
 ·refine aj S.own λad a1 a2=>?_;exact au ad (λx j u hx hg=>let ⟨q1,q2⟩:=a1 x j u hx hg;⟨rd q1,q2⟩) a2
theorem St.marked(S:St C cx X0 Pn env ay ρ p s X)(m:Mk C ay.heap Y s s'):St C cx X0 Pn env ay ρ p s' X:=
 S.qA m.nx (λb q=>(m.ok b q).1) (λb q=>(m.ok b q).2.2) (mcode:=λb q J o e=>by refine aj ((m.ok b q).2.1) λo' e' h=>?_;replace e':=e▸e';obtain rfl:=Jd e';exact h) λb hb=>by
  refine aw (S.vw.lt b hb) λo e=>?_;by_cases q:Y b
  ·refine aj ((m.ok b q).2.1) λo' e' zz=>?_;exact⟨o',e'⟩
  ·refine aj (m.nx.ext.data b o e q) λo' e' zz=>?_;exact⟨o',e'⟩
theorem St.has(S:St C cx X0 Pn env ay ρ p s X):∀b,(∃o,ay.heap.get? b=aa o)->∃o,s.heap.get? b=aa o:=λb q=>Ext.lt S.nx.ext S.vw.aE b q
end
section
variable{cx:Cx}{X0 X X' Pn:AP}{env:Env}{ay s s' s'':IY}{ρ ρ':Fr}{p p':List V}{A:I0}{Q:Flow->IY->Prop}{E:IZ->IY->Prop}{h h':Heap}{n:Nat}{call:Call}{b:Bool}
theorem bu.IG{st:Stmt}{d:bj}{j:Nat}(h:bu C cx st d)(O:bD cx)(hx:∃x,cx.vars.lookup x=aa j):bu C cx st (ak (dP (aJ j) (sets j)) d):=by
 intro n call hc X0 Pn env ay ρ p s X A Q E hA S k hr N;refine aw hx λx hx=>?_;have e:ak (dP (aJ j) (sets j)) d call ρ p=d call (match aJ j ρ with|.own v=>sets j ρ (.val v)|_=>ρ) p:=by
  delta ak dP;induction aJ j ρ using Slot.casesOn<;>rfl
 replace N:=e▸N;induction hg:aJ j ρ using Slot.casesOn with
 | own v=>
  replace N:=hg▸N;refine aj (S.freeze O hx hg) λX' S' kf=>?_;exact h n call hc X0 Pn env ay _ p s X' A Q E hA S' k hr (N.to kf)
 | undef=>replace N:=hg▸N;exact h n call hc X0 Pn env ay ρ p s X A Q E hA S k hr N
 | val v=>replace N:=hg▸N;exact h n call hc X0 Pn env ay ρ p s X A Q E hA S k hr N
 | aE=>replace N:=hg▸N;exact h n call hc X0 Pn env ay ρ p s X A Q E hA S k hr N
theorem bu.cH{st:Stmt}{d:bj}{js:List Nat}(h:bu C cx st d)(O:bD cx):bu C cx st (cH cx js d):=by
 delta Internal.cH;generalize hl:(js.eraseDups.filter λj=>cx.muts.any λx=>cx.vars.lookup x==aa j)=l;have key:∀j∈l,∃x,cx.vars.lookup x=aa j:=λj hj=>by
  subst hl;refine ao (List.mem_filter.mp hj) λzz q=>?_;refine aj (List.any_eq_true.mp q) λx zz q=>?_;exact⟨x,by simpa using q⟩
 clear hl;induction l with
 | nil=>exact h
 | cons j l ih=>exact(ih λj' hj'=>key j' (Jr _ hj')).IG O (key j Js)
theorem bE.cW(N:bE C cx X0 Pn env ay A (.next ρ' p') Q E s X)(S:St C cx X0 Pn env ay ρ' p' s' X')(k:bf C A s'.heap)(kf:Kf X X' s s'):Q .next s':=N.next ρ' p' rfl s' X' S k kf
theorem eA.nil:eA C cx [] aN:=by
 intro n call hc X0 Pn env ay ρ p s X A Q E hA S k hr N;exact wpAny_execs_nil (N.cW S k .refl)
theorem eA.cons{st:Stmt}{rest:List Stmt}{d e:bj}(h:bu C cx st d)(hr:eA C cx rest e):eA C cx (st::rest) (ak d e):=by
 intro n call hc X0 Pn env ay ρ p s X A Q E hA S k hrm N;refine wpAny_execs_cons (h n call hc X0 Pn env ay ρ p s X A _ E hA S k hrm ?_);have eq:ak d e call ρ p=@ai.rec (λJ=>ai) ai.stuck (e call) ai.brk ai.cont ai.ret ai.exc (d call ρ p):=rfl;replace N:=eq▸N;induction hd:d call ρ p using ai.casesOn with
 | stuck=>replace N:=hd▸N;exact absurd rfl N.go
 | next ρ1 p₁=>
  replace N:=hd▸N;exact⟨by simp,λJ J q s₁ X1 S1 k₁ kf=>by injection q with zq1 zq2;(try subst zq1);(try subst zq2);exact hr n call hc X0 Pn env ay ρ1 p₁ s₁ X1 A Q E hA S1 k₁ hrm (N.to kf),(λJ J q=>nomatch q),(λJ J q=>nomatch q),(λJ J J q=>nomatch q),(λJ J J q=>nomatch q)⟩
 | brk ρ1 p₁=>
  replace N:=hd▸N;exact⟨by simp,(λJ J q=>nomatch q),(λJ J q=>N.brk _ _ (by injection q with zq1 zq2;(try subst zq1);(try subst zq2);rfl)),(λJ J q=>nomatch q),(λJ J J q=>nomatch q),(λJ J J q=>nomatch q)⟩
 | cont ρ1 p₁=>
  replace N:=hd▸N;exact⟨by simp,(λJ J q=>nomatch q),(λJ J q=>nomatch q),(λJ J q=>N.cont _ _ (by injection q with zq1 zq2;(try subst zq1);(try subst zq2);rfl)),(λJ J J q=>nomatch q),(λJ J J q=>nomatch q)⟩
 | ret v ρ1 p₁=>
  replace N:=hd▸N;exact⟨by simp,(λJ J q=>nomatch q),(λJ J q=>nomatch q),(λJ J q=>nomatch q),(λJ J J q=>N.ret _ _ _ (by cases q;rfl)),(λJ J J q=>nomatch q)⟩
 | exc v ρ1 p₁=>
  replace N:=hd▸N;exact⟨by simp,(λJ J q=>nomatch q),(λJ J q=>nomatch q),(λJ J q=>nomatch q),(λJ J J q=>nomatch q),λJ J J q=>N.exc _ _ _ (by cases q;rfl)⟩
theorem eA.one{st:Stmt}{d:bj}(h:bu C cx st d):eA C cx [st] d:=by
 intro n call hc X0 Pn env ay ρ p s X A Q E hA S k hrm N;refine wpAny_execs_cons (IX (h n call hc X0 Pn env ay ρ p s X A Q E hA S k hrm N) (λf s₁ q=>?_) λJ J q=>q);induction f using Flow.casesOn<;>first|exact q|exact wpAny_execs_nil q
theorem rf{v:V}{x y:ai}(h:(vB ai.stuck (λq=>@Jp (λJ=>ai) y x q) v)≠.stuck):
  ∃q,v=.bool q:=by
 induction v using V.casesOn with
 | bool q=>exact⟨q,rfl⟩
 | _=>exact absurd rfl h
theorem bu.IF{t:Expr}{a b:List Stmt}{pos:Pos}{dt:aA}{da db:bj}(ht:cO C cx t dt)(ha:eA C cx a da)(hb:eA C cx b db):bu C cx (.If t a b pos) (aR dt da db):=by
 intro n call hc X0 Pn env ay ρ p s X A Q E hA S k hrm N;refine wpAny_If (ht.st hc S k hrm N λv p₁ s₁ S1 k₁ kf N1=>?_);refine aw (rf N1.go) λq z0=>?_;subst z0;refine au q rfl ?_;induction q using Bool.casesOn with
 | true=>exact ha n call hc X0 Pn env ay ρ p₁ s₁ X A Q E hA S1 k₁ hrm N1
 | false=>exact hb n call hc X0 Pn env ay ρ p₁ s₁ X A Q E hA S1 k₁ hrm N1
theorem bu.ret{e:Expr}{pos:Pos}{d:aA}(h:aL C cx ag e d):bu C cx (.Return (aa e) pos) (ax d):=by
 intro n call hc X0 Pn env ay ρ p s X A Q E hA S k hrm N;exact wpAny_Return_some (h.st hc S k hrm N λv p₁ val s₁ S1 k₁ kf J hv N1=>N1.ret v ρ p₁ rfl s₁ X S1 k₁ .refl val hv)
theorem bu.cont{pos:Pos}:bu C cx (.Continue pos) v8:=by
 intro n call hc X0 Pn env ay ρ p s X A Q E hA S k hrm N;exact wpAny_Continue (N.cont ρ p rfl s X S k .refl)
theorem St.gp(S:St C cx X0 Pn env ay ρ p s X):interactive env=ag:=by delta interactive;refine rwl S.vw.kind ?_;rfl
theorem bu.expr{f:Expr}{args:List Expr}{kws:List Keyword}{cp pos:Pos}{d:aA}(h:aL C cx ag (.Call f args kws cp) d):bu C cx (.Expr (.Call f args kws cp) pos) (v7 d):=by
 intro n call hc X0 Pn env ay ρ p s X A Q E hA S k hrm N;exact wpAny_Expr_any (h.st hc S k hrm N λv p₁ val s₁ S1 k₁ kf J hv N1=>N1.cW S1 k₁ .refl) S.gp
theorem gG{e:Expr}{t:Option Expr}{l:Nat}(h:iN e=af):swapsWith e t l env=pure ag:=by
 induction e using Expr.casesOn<;>first|rfl|exact fT h
theorem bu.set{x:Str}{px pos:Pos}{e:Expr}{d:aA}{j:Nat}(h:aL C cx ag e d)(O:bD cx)(ht:cZ cx x=aa j)(hn:iN e=af):bu C cx (.Assign [.Name x px] e pos) (aM (sets j) d):=by
 intro n call hc X0 Pn env ay ρ p s X A Q E hA S k hrm N;exact wpAny_Assign_Name (h.st hc S k hrm N λv p₁ val s₁ S1 k₁ kf J hv N1=>S1.store O k₁ ht (sl:=.val v) hv (aq.iq S1.loc hv) (λJ q=>nomatch q) λs₂ S2 k₂ kf2 J=>N1.cW S2 k₂ kf2) (gG hn)
noncomputable def Xa(X:AP)(a:I1):AP:=λb=>X b\/b=a
def jm(C:Cfg)(cx:Cx)(e:Expr)(d:aA):Prop:=
 ∀(n:Nat)(call:Call),dJ C n call->∀(X Pn:AP)(env:Env)(ρ:Fr)(p:List V)(s:IY)(A:I0)(Q E:IZ->IY->Prop),
  Vw C cx X Pn env ρ p s.heap->bf C A s.heap->dU A n->
  bH C X Pn (d call ρ p).out (λv s₁=>∀s' a,Kp s₁ s'->s₁.heap.get? a=ae->aP C (Xa X a) s'.heap v a->Q (.ref a) s') E s->wpAny (model C.prog C.w) A (eval e env) Q E s
theorem St.Dj(S:St C cx X0 Pn env ay ρ p s X){a:I1}(ha:s.heap.get? a=ae):∀y k w b,cx.vars.lookup y=aa k->aJ k ρ=.own w->Reads env s.heap y (.ref b)->b≠a:=λy k w b hy hg hb e=>by
 subst e;refine mw (S.ownAt hy hg) λa' ra zz zz ho zz=>?_;cases Reads.unique ra hb;refine aj ho.obj λo ho' zz=>?_;replace ho':=ha▸ho';exact nS ho'
theorem St.C4{a:I1}{v:V}(S:St C cx X0 Pn env ay ρ p s X)(kp:Kp s s')(ha:s.heap.get? a=ae)(ho:aP C (Xa X a) s'.heap v a):
  St C cx X0 Pn env ay ρ p s' (Xa X a)/\Kf X (Xa X a) s s'/\(∀y k w b,cx.vars.lookup y=aa k->aJ k ρ=.own w->Reads env s'.heap y (.ref b)->b≠a)/\¬Pn a/\ay.heap.get? a=ae/\a≠env.locals:=by
 have hPa:¬Pn a:=λq=>by refine aw (S.vw.lt a (S.vw.pnX a q)) λo e=>?_;rw[ha]at e;exact nS e
 have hn:Nx C Pn s s':=kp.nx S.vw.base;have T:Tr X s.heap (Xa X a) s'.heap:=λb o e J hx=>⟨kp.keep b o e,λq=>q.elim hx λq=>by clear ho hPa;subst q;rw[ha]at e;exact nS e⟩;refine ao (S.Dz hn (X':=Xa X a) (λJ q=>.inl q) (λb q=>q.elim .inl λe=>.inr (e▸ha)) (λb q=>q.elim (λq=>let ⟨o,e⟩:=S.vw.lt b q;⟨o,kp.keep b o e⟩) λe=>by refine aj ho.obj λo q zz=>?_;exact⟨o,e▸q⟩) (S.vw.aE.tr T λb o J e J=>kp.keep b o e) (λb (q:Xa X a b)=>Or.imp id (λ(q:b=a)=>q▸ho.nc) q)) λS' kf=>?_
 refine⟨S',kf,λy k w b hy hg hb=>?_,hPa,S.old ha,λe=>?_⟩
 ·refine aj (S.ownAt hy hg) λb' rb zz=>?_;have rb':Reads env s'.heap y (.ref b'):=rb.ext hn.ext S.vw.aE;clear zz;cases Reads.unique hb rb';exact S.Dj ha y k w b hy hg rb
 ·clear ho hPa T S' kf;subst e;refine aj S.frm λo q zz=>?_;rw[ha]at q;exact nS q
theorem bu.own{x:Str}{px pos:Pos}{e:Expr}{d:aA}{j:Nat}(h:jm C cx e d)(O:bD cx)(ht:cZ cx x=aa j)(hm:cx.muts.contains x=af)(hn:iN e=af):bu C cx (.Assign [.Name x px] e pos) (iK (sets j) d):=by
 intro n call hc X0 Pn env ay ρ p s X A Q E hA S k hrm N;have N:bE C cx X0 Pn env ay A (@Res.rec (λJ=>ai) ai.stuck (λv p=>ai.next (sets j ρ (.own v)) p) (λe p=>ai.exc e ρ p) (d call ρ p)) Q E s X:=N;rw[rQ]at N;refine wpAny_Assign_Name (h n call hc X Pn env ρ p s A _ E S.vw k hrm (N.o S k λv p₁ s₁ J S1 k₁ kf hn N1 s₂ a kp ha ho=>?_)) (gG hn);refine yj (S1.C4 kp ha ho) λS2 kf2 hown hPa h0 hL=>?_;exact S2.store O (k₁.ext (kp.nx (Pn:=Pn) S1.vw.base).ext S1.vw.aE) ht (sl:=.own v) ⟨a,rfl,.inr rfl,hPa,ho⟩ (λq=>hL (by clear ha ho S2 kf2 hown hPa h0 hL;cases q;rfl)) (λu J=>⟨hm,a,rfl,h0,λy k w b J=>hown y k w b⟩) λbr S3 bJ kf3 J=>N1.cW S3 bJ (kf2.trans kf3)
end
section
variable{cx:Cx}{X0 X X' Pn:AP}{env:Env}{ay s s' s'':IY}{ρ ρ':Fr}{p p':List V}{A:I0}{Q:Flow->IY->Prop}{E:IZ->IY->Prop}{h h':Heap}{n:Nat}{call:Call}{b:Bool}
theorem n8 {l:List V} {vs:List IZ} (r:av C X s.heap l vs) (hz:vs.length<=most):aP C (Xa X s.heap.objs.size) (s.heap.push { cls:=.type "list",data:=.seq vs.toArray }) (.lst l) s.heap.objs.size:=by
 dsimp only[aP];refine au vs ⟨hz,0,Jh _ rfl⟩ (r.tr λa o e J hx=>⟨Jg _ e,λq=>q.elim hx λq=>?_⟩);clear hx;subst q;rw[cN]at e;exact nS e
theorem jm.lst{xs:List Expr}{ds:List aA}{pos:Pos}(h:iB C cx xs ds)(hz:ds.length<=100):jm C cx (.List xs pos) (aH ds):=by
 intro n call hc X Pn env ρ p s A Q E hv hk hr N;have e:(aH ds call ρ p).out=(bB ds call ρ p).out.bind λl p=>.ok (V.lst l) p:=pE _ _;rw[e]at N;refine wpAny_List (h n call hc X Pn env ρ p s A _ E pos hv hk hr (N.bind λl p₁ s₁ hl hn hp N1 vals hvals=>?_));have hz':=ku hl;have hlen:=hvals.length;refine⟨by rw[bt];lia,N1.jr hn.ext.base hp _ _ (.push _) (cN _) (n8 hvals (by show _<=8000;lia))⟩
theorem jm.bh{pos:Pos}(hsys:∃o,C.h₀.get? sysModules=aa o):jm C cx (.Dict [] [] pos) (cK (.bh [] [])):=by
 intro n call hc X Pn env ρ p s A Q E hv hk hr N;have N:bH C X Pn (.ok (V.bh [] []) p) _ E s:=N;have hne:s.heap.objs.size≠sysModules:=λq=>by
  refine aw hsys λo ho=>?_;have:=Jj (hv.base _ o ho);rw[← q]at this;exact JB _ this
 refine wpAny_Dict_empty (N.jr hv.base hv.aE _ _ (.push _) (cN _) ?_);dsimp only[aP];exact qi ([]) ⟨⟨by simpa using hne,by simp[most]⟩,0,Jh _ rfl⟩ .nil .nil rfl (λJ hk=>nomatch hk)
set_option tactic.hygienic true
theorem jm.mul{xs:List Expr}{ds:List aA}{lp pos:Pos}{y:Expr}{d:aA}(hx:aL C cx af (.List xs lp) (aH ds))(hy:aL C cx af y d):jm C cx (.BinOp (.List xs lp) .Mult y pos) (Internal.c2 bI (aH ds) d):=by
 intro n call hc X Pn env ρ p s A Q E hv hk hr N;have e:(Internal.c2 bI (aH ds) d call ρ p).out=(aH ds call ρ p).out.bind λa p=>(d call ρ p).out.bind λb p=>(@Option.rec V (λJ=>Res) Res.stuck (λv=>Res.ok v p) (bI a b)).out:=by
  show(@Res.rec (λJ=>Res) Res.stuck (λa p=>@Res.rec (λJ=>Res) Res.stuck (λb p=>@Option.rec V (λJ=>Res) Res.stuck (λv=>Res.ok v p) (bI a b)) Res.exc (d call ρ p)) Res.exc (aH ds call ρ p)).out=_;rw[dj];congr 1;funext a p;rw[dj]
 rw[e]at N
 -- the first value is a list
 have lZ:(aH ds call ρ p).out=(bB ds call ρ p).out.bind λl p=>.ok (V.lst l) p:=pE _ _;have hl:∀v p',(aH ds call ρ p).out=.ok v p'->∃l,v=.lst l:=λv p' q=>by
  rw[lZ]at q;induction hq:(bB ds call ρ p).out using Out.casesOn with
  | ok l p''=>rw[hq]at q;(injection q with h9;subst h9);exact⟨l,rfl⟩
  | stuck=>rw[hq]at q;exact(nomatch q)
  | exc k p''=>rw[hq]at q;exact(nomatch q)
 refine wpAny_BinOp (hx n call hc X Pn env ρ p s A _ E hv hk hr (bH.e (N.bind λv p₁ s₁ hv1 hn hp N1 val hval=>?_)));refine aw (hl v p₁ hv1) λl z0=>?_;clear hv1;subst z0;have v1:=hv.next hn.ext hp;have k₁:=hk.ext hn.ext hv.aE;refine hy.run hc v1 k₁ hr N1 λw bg val' s₂ cJ v2 k₂ hval' N2=>?_;refine oc (bI (.lst l) w) (λhm=>?_) λr hm=>?_
 ·rw[hm]at N2;exact absurd rfl N2.1
 ·
  rw[hm]at N2;have N2:bH C X Pn (.ok r bg) _ E s₂:=N2;induction w using V.casesOn<;>(first|exact nS hm|exact fT hm|(dsimp only[bI]at hm<;>(try cases hm)))
  case int y=>
   refine xs11 val' hval'.b.int λu=>?_;refine ao (cL hm) λhs hm=>?_;induction y using Int.casesOn with
   | negSucc m=>exact nS hm
   | ofNat m=>
    refine ao (cL hm) λhy hm=>?_;clear N2;obtain rfl:=Jd hm;refine xs23 val ((hval.b.ext cJ.ext v1.pnX).lst) λa vs z1 ra=>?_;refine ao z1 λzz zq=>?_;refine aw zq λna ta=>?_;have hl:=dg hs;rw[blt_dec,decide_eq_true_eq]at hy;have hlen:=ra.length;refine n9 ta (by dsimp only[JH];exact Int.natCast_nonneg _) (by dsimp only[JH];lia) ?_ (N2.jr v2.base v2.aE _ _ (.push _) (cN _) (n8 (ra.rep _) ?_))
    ·calc vs.length*m<=8*300:=Nat.mul_le_mul (hlen▸hl) (JA hy)
      _<=2^24:=by decide
    ·show(List.replicate m vs).flatten.length<=8000;have e:(List.replicate m vs).flatten.length=m*vs.length:=by simp
     rw[e]
     calc m*vs.length<=300*8:=Nat.mul_le_mul (JA hy) (hlen▸hl)
      _<=8000:=by decide
set_option tactic.hygienic false
theorem St.recv{x:Str}{px:Pos}{j:Nat}{u:V}{Q:IZ->IY->Prop}(S:St C cx X0 Pn env ay ρ p s X)(hx:cx.vars.lookup x=aa j)(hg:aJ j ρ=.own u)(ok:bc x=af)
  (h:∀a,Reads env s.heap x (.ref a)->aP C X s.heap u a->Q (.ref a) s):wpAny (model C.prog C.w) A (eval (.Name x px) env) Q E s:=by
 refine mw (S.ownAt hx hg) λa ra zz zz ho zz=>?_;exact wpAny_Name (cy S.vw.kind ok ra (h a ra ho)) (cP ok)
theorem Gx{id:String}{ov:IZ}{pos:Pos}{Q:IZ->IY->Prop}(H:wpAny (model C.prog C.w) A (PySem.call (.builtin id) [ov]) Q E s):wpAny (model C.prog C.w) A (callWith pos (.builtin id) [ov] [] []) Q E s:=
 Calls.callWith_builtin rfl (PySem.evalArgs_none H)
theorem Ah{id:String}{ov:IZ}{pos:Pos}{t:Sem IZ}{Q:IZ->IY->Prop}(H:wpAny (model C.prog C.w) A t (λv s₁=>wpAny (model C.prog C.w) A (PySem.call (.builtin id) [ov,v]) Q E s₁) E s):wpAny (model C.prog C.w) A (callWith pos (.builtin id) [ov] [(ag,t)] []) Q E s:=
 Calls.callWith_builtin rfl (Calls.evalArgs_plain (Calls.spliced_cons (IX H (λJ J aT=>Calls.spliced_nil aT) λJ J x=>x)))
theorem Ag{id:String}{ov:IZ}{pos:Pos}{t u:Sem IZ}{Q:IZ->IY->Prop}(H:wpAny (model C.prog C.w) A t (λv s₁=>wpAny (model C.prog C.w) A u (λw s₂=>wpAny (model C.prog C.w) A (PySem.call (.builtin id) [ov,v,w]) Q E s₂) E s₁) E s):
  wpAny (model C.prog C.w) A (callWith pos (.builtin id) [ov] [(ag,t),(ag,u)] []) Q E s:=
 Calls.callWith_builtin rfl (Calls.evalArgs_plain (Calls.spliced_cons (IX H (λJ J aT=>Calls.spliced_cons (IX aT (λJ J bS=>Calls.spliced_nil bS) λJ J x=>x)) λJ J x=>x)))
theorem sM{sl:Slot}{K:ai}(h:(@Slot.rec (λJ=>ai) ai.stuck (λJ=>ai.stuck) (λo=>(vL ai.stuck (λJ=>K) o)) ai.stuck sl)≠.stuck):
  ∃l,sl=.own (.lst l):=by
 induction sl using Slot.casesOn with
 | own o=>induction o using V.casesOn with
  | lst l=>exact⟨l,rfl⟩
  | _=>exact absurd rfl h
 | _=>exact absurd rfl h
theorem kI{g:d6}{st:bT}{f:V->Option V}{o:V}(hg:g ρ=.own o):hZ g st ρ p f=@Option.rec V (λJ=>ai) ai.stuck (λo=>ai.next (st ρ (.own o)) p) (f o):=by
 unfold hZ;rw[hg];simp only[pW]
theorem St.BV{x:Str}{j:Nat}{l l':List V}{a:I1}{f:Array IZ->Array IZ}{vs ws:List IZ}{Q:Unit->IY->Prop}(S:St C cx X0 Pn env ay ρ p s X)(k:bf C A s.heap)(O:bD cx)(hx:cx.vars.lookup x=aa j)(hg:aJ j ρ=.own (.lst l))(ra:Reads env s.heap x (.ref a))
  (hl:LstAt s.heap a vs) (hf:f vs.toArray=ws.toArray) (hz:ws.length<=most) (hws:∀h',Tr X s.heap X h'->av C X h' l' ws)
  (hQ:∀s',St C cx X0 Pn env ay (sets j ρ (.own (.lst l'))) p s' X->bf C A s'.heap->Kf X X s s'->(∀vs',av C X s.heap vs' []->True)->Q () s'):∀{A':I0},wpAny (model C.prog C.w) A' (updateSeq a f) Q E s:=λ{A'}=>by
 refine sW hl hf hz λh' hs hl'=>?_;refine aQ (S.ownAt hx hg) λa' ra' hXa zz=>?_;clear zz;cases Reads.unique ra ra';have ho:aP C X h' (.lst l') a:=by dsimp only[aP];exact au ws hl' (hws h' (bK hs hXa))
 refine bM (S.mut (tk:=s.toks) k O hx hg ra hs ho) λS' k' kf=>?_;exact hQ _ S' k' kf λJ J=>trivial
theorem bu.append{x:Str}{px ap cp pos:Pos}{e:Expr}{d:aA}{j:Nat}(h:aL C cx ag e d)(hs:∀e' p',e≠.Starred e' p')(O:bD cx)(hx:cx.vars.lookup x=aa j)(ok:bc x=af)(hl:(ap.endLine==cp.line)=af):
  bu C cx (.Expr (.Call (.Attribute (.Name x px) "append" ap) [e] [] cp) pos) (ee (aJ j) (sets j) d):=by
 intro n call hc X0 Pn env ay ρ p s X A Q E hA S k hrm N;refine aw (sM N.go) λl hg=>?_;have N:bE C cx X0 Pn env ay A (@Res.rec (λJ=>ai) ai.stuck (λv p=>hZ (aJ j) (sets j) ρ p (zG v)) (λe p=>ai.exc e ρ p) (d call ρ p)) Q E s X:=by
  have q:=N;unfold ee at q;rw[hg]at q;exact q
 refine wpAny_Expr_any ?_ S.gp;refine wpAny_Call_method (T := "list") (id := "list.append") (ia rfl _ _) (by rw[aZ hs];rfl) hl F.plainAttrs_list F.slot_list_append F.type_list_append (S.recv hx hg ok λa ra ho=>?_);have ho':=ho;dsimp only[aP]at ho';refine aj ho' λvs z0 zz=>?_;refine ao z0 λzz zq=>?_;refine aw zq λm hob=>?_;refine⟨(au _ hob rfl),λa' ea=>by(injection ea with h9;subst h9);exact au _ hob rfl,?_⟩;rw[aZ hs];refine Ah (h.st hc S k hrm N λv p₁ val s₁ S1 k₁ kf hn hv N1=>?_);rw[kI hg]at N1;have ra1:=ra.ext hn.ext S.vw.aE;refine jI (S1.ownAt hx hg) λa' ra' hXa hna ho h0 zz=>?_;clear hXa hna h0 zz;cases Reads.unique ra1 ra';refine oc (zG v (.lst l)) (λhapp=>?_) λo happ=>?_
 ·rw[happ]at N1;exact absurd rfl N1.go
 ·
  rw[happ]at N1;refine ao (gN happ) λhsh eo=>?_;clear happ;obtain rfl:=Jd eo;have ho':=ho;dsimp only[aP]at ho';refine aj ho' λvs hl hvs=>?_;have hT:s₁.TypeIs (.ref a) "list" := let ⟨_,m,hob⟩:=hl;(au _ hob rfl)
  have hlen:=hvs.length;have hsz:=dZ hsh;have hli:lid=3000:=rfl;refine IU F.slot_list_append hT entry_list_append ?_ (args_list_append _ _);show wpAny _ _ (updateSeq a (·.push val) >>= λJ=>PySem.ret .none) _ _ s₁;refine az (S1.BV k₁ O hx hg ra1 hl (f:=(·.push val)) (ws:=vs++[val]) (l':=app l [v]) (by simp) (by simp[most];lia) (λh' T=>by rw[gj];exact(hvs.tr T).append (.cons (aq.tr T hv) .nil)) λs₂ S2 k₂ kf2 J=>?_);exact IP (au _ rfl (N1.cW S2 k₂ kf2))
theorem bu.extend{x:Str}{px ap cp pos:Pos}{e:Expr}{d:aA}{j:Nat}(h:aL C cx af e d)(hs:∀e' p',e≠.Starred e' p')(O:bD cx)(hx:cx.vars.lookup x=aa j)(ok:bc x=af)(hl:(ap.endLine==cp.line)=af):
  bu C cx (.Expr (.Call (.Attribute (.Name x px) "extend" ap) [e] [] cp) pos) (qp (aJ j) (sets j) d):=by
 intro n call hc X0 Pn env ay ρ p s X A Q E hA S k hrm N;refine aw (sM N.go) λl hg=>?_;have N:bE C cx X0 Pn env ay A (@Res.rec (λJ=>ai) ai.stuck (λv p=>hZ (aJ j) (sets j) ρ p (wD v)) (λe p=>ai.exc e ρ p) (d call ρ p)) Q E s X:=by
  have q:=N;unfold qp at q;rw[hg]at q;exact q
 refine wpAny_Expr_any ?_ S.gp;refine wpAny_Call_method (T := "list") (id := "list.extend") (ia rfl _ _) (by rw[aZ hs];rfl) hl F.plainAttrs_list F.slot_list_extend F.type_list_extend (S.recv hx hg ok λa ra ho=>?_);have ho':=ho;dsimp only[aP]at ho';refine aj ho' λvs z0 zz=>?_;refine ao z0 λzz zq=>?_;refine aw zq λm hob=>?_;refine⟨(au _ hob rfl),λa' ea=>by(injection ea with h9;subst h9);exact au _ hob rfl,?_⟩;rw[aZ hs];refine Ah (h.st hc S k hrm N λv p₁ val s₁ S1 k₁ kf hn hv N1=>?_);rw[kI hg]at N1;have ra1:=ra.ext hn.ext S.vw.aE;refine jI (S1.ownAt hx hg) λa' ra' hXa hna ho h0 zz=>?_;clear hna h0 zz;cases Reads.unique ra1 ra';refine oc (wD v (.lst l)) (λhapp=>?_) λo happ=>?_
 ·rw[happ]at N1;exact absurd rfl N1.go
 ·
  rw[happ]at N1;have hvl:∃m,v=.lst m:=by clear hv;induction v using V.casesOn<;>(first|exact nS happ|exact fT happ|(dsimp only[wD]at happ<;>(try cases happ)));exact⟨_,rfl⟩
  refine aw hvl λq z0=>?_;clear hvl;subst z0;refine ao (gN happ) λhsh happ=>?_;refine ao (gN happ) λhsh' eo=>?_;obtain rfl:=Jd eo;have ho':=ho;dsimp only[aP]at ho';refine aj ho' λvs z0 hvs=>?_;refine ao z0 λhz zq=>?_;refine aw zq λm hob=>?_;refine xs23 val hv.b.lst λb' ws z1 hws=>?_;refine ao z1 λhz' zq=>?_;refine aw zq λm' hob'=>?_;have hT:s₁.TypeIs (.ref a) "list" := au _ hob rfl;have hlen:=hvs.length;have hlen':=hws.length;have hsz:=dZ hsh;have hsz':=dZ hsh';have hli:lid=3000:=rfl;have hm:most=8000:=rfl;refine call_meets F.slot_list_extend hT F.entry_list_extend (F.args_list_extend_2 _ _) (PySem.AutoSeq1.list_extend_list_list_0 a vs.toArray m b' ws.toArray m' ?_ (by rw[bt,Ju];lia) (by rw[bt,Ju,Ju];lia)) ⟨hob,hob',?_⟩
  ·simp only[Builtin.List.listTooLong,Ju,Jn,decide_eq_true_eq,not_and];intro _;have:=bt;lia
  ·have hs:Jk a s₁.heap (s₁.heap.update a (Obj.mapSeq λx=>x++ws.toArray)):=Jl ..;have T:=bK (X:=X) hs hXa;have hl':LstAt (s₁.heap.update a (Obj.mapSeq λx=>x++ws.toArray)) a (vs++ws):=by
    have e:∃n',Obj.mapSeq (λx=>x++ws.toArray) (dn vs m)=dn (vs++ws) n':=by
     refine aw (Obj.data_mapSeq (o:=dn vs m) (xs:=vs.toArray) (n:=m) rfl (λx=>x++ws.toArray)) λn' hd'=>?_;refine⟨n',?_⟩;unfold Obj.mapSeq dn at *;simpa using hd'
    refine aw e λn' e=>?_;exact⟨by simp;lia,n',by rw[Ji _ hob (by rw[e];rfl),e]⟩
   have iV:aP C X (s₁.heap.update a (Obj.mapSeq λx=>x++ws.toArray)) (.lst (app l q)) a:=by dsimp only[aP];exact au _ hl' (by rw[gj];exact(hvs.tr T).append (hws.tr T))
   refine bM (S1.mut (tk:=s₁.toks) k₁ O hx hg ra1 hs iV) λS2 k₂ kf2=>?_;exact N1.cW S2 k₂ kf2
end
section
variable{cx:Cx}{X0 X X' Pn:AP}{env:Env}{ay s s' s'':IY}{ρ ρ':Fr}{p p':List V}{A:I0}{Q:Flow->IY->Prop}{E:IZ->IY->Prop}{h h':Heap}{n:Nat}{call:Call}{b:Bool}
def Item(C:Cfg)(cx:Cx)(X Pn:AP)(env:Env)(ay:IY)(ρ:Fr)(s:IY)(own:Bool)(v:V)(val:IZ):Prop:=match own with
 | false=>aq C X s.heap v val
 | true=>∃a,val=.ref a/\X a/\¬Pn a/\aP C X s.heap v a/\ay.heap.get? a=ae/\a≠env.locals/\∀y k w b,cx.vars.lookup y=aa k->aJ k ρ=.own w->Reads env s.heap y (.ref b)->b≠a
structure Ent where
 x:Str
 j:Nat
 own:Bool
 v:V
 val:IZ
 t:IZ->Sem Unit
def apart(L:List Ent):Prop:=L.Pairwise λe f=>e.x≠f.x/\(e.own=af->f.own=af->e.val≠f.val)
noncomputable def putAll(L:List Ent)(ρ:Fr):Fr:=L.foldl (λρ e=>sets e.j ρ (jK e.own e.v)) ρ
theorem St.kU(O:bD cx){Q:Unit->IY->Prop}:∀(L:List Ent){ρ:Fr}{s:IY},St C cx X0 Pn env ay ρ p s X->bf C A s.heap->(∀e∈L,cZ cx e.x=aa e.j/\(e.own=af->cx.muts.contains e.x=af)/\Item C cx X Pn env ay ρ s e.own e.v e.val/\
   ∀(s:IY)(Q:Unit->IY->Prop),wpAny (model C.prog C.w) A (storeName env e.x e.val) Q E s->wpAny (model C.prog C.w) A (e.t e.val) Q E s)->apart L->
  (∀s',St C cx X0 Pn env ay (putAll L ρ) p s' X->bf C A s'.heap->Kf X X s s'->Q () s')->wpAny (model C.prog C.w) A (assignInOrder (L.map (·.t)) (L.map (·.val))) Q E s
 | [],ρ,s,S,k,_,_,hQ=>IP (hQ s S k .refl)
 | e::L,ρ,s,S,k,hL,hap,hQ=>by
  refine fo (hL e Js) λht hm hi hst=>?_;refine ao (fX ht) λhj zz=>?_;have hap':=List.pairwise_cons.mp hap;skip;refine az (IS (hst s _ ?_));have hsl:dE C X Pn s.heap (jK e.own e.v) e.val/\e.val≠.ref env.locals:=by
   induction ho:e.own using Bool.casesOn with
   | false=>replace hi:=ho▸hi;exact⟨hi,aq.iq S.loc hi⟩
   | true=>
    replace hi:=ho▸hi;refine sf hi λa e1 e2 e3 e4 e5 e6 zz=>?_;exact⟨(fm a e1 e2 e3 e4),λq=>by replace q:=e1▸q;(injection q with h9;clear e1 e2 e3 e4 e5 zz;subst h9);exact e6 rfl⟩
  refine S.store O k ht (sl:=jK e.own e.v) hsl.1 hsl.2 (λu hu=>?_) λs₁ S1 k₁ kf1 sd=>?_
  ·induction ho:e.own using Bool.casesOn with
   | false=>replace hu:=ho▸hu;exact(nomatch hu)
   | true=>
    replace hi:=ho▸hi;refine sf hi λa e1 e2 e3 e4 e5 e6 e7=>?_;exact⟨hm ho,a,e1,e5,λy k w b J=>e7 y k w b⟩
  ·refine St.kU O L S1 k₁ (λf hf=>?_) hap'.2 λs₂ S2 k₂ kf2=>hQ s₂ S2 k₂ (kf1.trans kf2);refine fo (hL f (Jr _ hf)) λf1 f2 f3 f4=>?_;refine⟨f1,f2,?_,f4⟩;have hne:=hap'.1 f hf;induction ho:f.own using Bool.casesOn with
   | false=>replace f3:=ho▸f3;exact aq.tr kf1.tr f3
   | true=>
    replace f3:=ho▸f3;refine sf f3 λa e1 e2 e3 e4 e5 e6 e7=>?_;refine yg a e1 e2 e3 (sd.own _ _ e4) e5 e6 (λy k' w b hy hg hb=>?_);by_cases q:y=e.x
    ·subst q;replace hy:=hj▸hy;obtain rfl:=Jd hy;have hown:e.own=af:=by
      induction he:e.own using Bool.casesOn with
      | true=>rfl
      | false=>
       rw[cG]at hg;by_cases h16:e.j<16
       ·rw[if_pos ⟨rfl,h16⟩,he]at hg;exact(nomatch hg)
       ·rw[if_neg (λq=>h16 q.2),eS (Nat.not_lt.mp h16)]at hg;exact(nomatch hg)
     have e':=Reads.unique hb sd.self;intro q;exact hne.2 hown ho (by rw[← e',e1,q])
    ·replace hg:=(eK O q hy hj)▸hg;refine aj (S.ownAt hy hg) λb' rb zz=>?_;clear zz;cases Reads.unique hb (sd.oth _ _ q rb);exact e7 y k' w b hy hg rb
theorem Item.kp{own:Bool}{v:V}{val:IZ}(S:St C cx X0 Pn env ay ρ p s X)(k:Kp s s')(i:Item C cx X Pn env ay ρ s own v val):Item C cx X Pn env ay ρ s' own v val:=by
 induction own using Bool.casesOn with
 | false=>exact aq.tr k.tr i
 | true=>
  refine sf i λa e1 e2 e3 e4 e5 e6 e7=>?_;refine yg a e1 e2 e3 (e4.tr k.tr λo e J=>k.keep a o e) e5 e6 (λy j w b hy hg hb=>?_);refine aj (S.ownAt hy hg) λb' rb zz=>?_;have:Reads env s'.heap y (.ref b'):=rb.ext (k.nx (Pn:=Pn) S.vw.base).ext S.vw.aE;clear zz;cases Reads.unique hb this;exact e7 y j w b hy hg rb
theorem St.kp(S:St C cx X0 Pn env ay ρ p s X)(k:Kp s s'):St C cx X0 Pn env ay ρ p s' X/\Kf X X s s':=S.next (k.nx S.vw.base) (k.aE S.vw.aE)
theorem bf.kp(k:bf C A s.heap)(S:St C cx X0 Pn env ay ρ p s X)(q:Kp s s'):bf C A s'.heap:=k.ext (q.nx (Pn:=Pn) S.vw.base).ext S.vw.aE
theorem rv{it l:I1}{items:Array IZ}(hne:l≠it):∀(n i:Nat)(s:IY)(Q:List IZ->IY->Prop),s.heap.IsListIter it l i->s.heap.IsList l items->i+n<=items.size->
  (∀h',h'.IsListIter it l (i+n)->Jk it s.heap h'->Q ((items.toList.drop i).take n) { s with heap:=h' })->wpAny (model C.prog C.w) A (draw (.ref it) n) Q E s
 | 0,i,s,Q,hit,_,_,hQ=>IP (by simpa using hQ s.heap hit (Heap.SameBut.refl ..))
 | n+1,i,s,Q,hit,ht,hle,hQ=>by
  have hlt:i<items.size:=JE (Nat.le_add_right _ _) hle;skip;refine az (wpAny_pyNext_list_item hit ht (x:=items[i]) (by simp[hlt]) λaT hit1 dB=>?_);refine az (IS (rv hne n (i+1) _ _ hit1 (ht.extBut dB.extBut hne) (by lia) λbS DQ gq=>IP ?_));have hd:items.toList.drop i=items[i]::items.toList.drop (i+1):=by simp[List.drop_eq_getElem_cons,hlt]
  have:=hQ bS (by simp only[show i+(n+1)=i+1+n by exact(Nat.succ_add_eq_add_succ _ _).symm];exact DQ) (dB.trans gq);simp only[hd,List.take_succ_cons]at this;exact this
theorem uk{l:I1}{vs:List IZ}{Q:List IZ->IY->Prop}(hh:A.handled=ae)(ht:LstAt s.heap l vs)(hQ:∀s',Kp s s'->Q vs s'):wpAny (model C.prog C.w) A (unpackItems (.ref l) vs.length ae) Q E s:=by
 have hlt:l≠s.heap.objs.size:=by refine ao ht λzz zq=>?_;refine aw zq λn ho=>?_;exact Jz (Jj ho)
 have hl:=ht.isList;unfold unpackItems;refine az ?_;unfold notIterableAtAll;refine az (wpAny_specialOf hl.typeIs slot_list_iter.lookup ?_);refine IP ?_;dsimp only[Jo,if_false];refine az (IS (wpAny_pyIter_list hl ?_));refine IQ (IS (rv (items:=vs.toArray) hlt vs.length 0 _ _ (aU _ (Jh _ rfl) rfl rfl) (hl.push _) (by simp) λaT hit1 dB=>?_));have hall:List.take vs.length (List.drop 0 vs.toArray.toList)=vs:=by simp
 refine rwl hall (rwl (if_neg (by simp)) ?_);have ht1:aT.IsList l vs.toArray:=(hl.push _).extBut dB.extBut hlt;refine az (IS (wpAny_pyNext_list_end hh hit1 ht1 (by simp) λbS he2=>?_));dsimp only[Option.isSome_none,Jo,if_false];exact IP (hQ _ ⟨λb o e=>he2 b o (λq=>by subst q;rw[cN]at e;exact nS e) (dB.extBut b o (λq=>by subst q;rw[cN]at e;exact nS e) (Jg _ e)),rfl,rfl⟩)
set_option tactic.hygienic true
theorem sg{v:V}{m:List V}{val:IZ}{Q:List IZ->IY->Prop}(hh:A.handled=ae)(hr:aq C X s.heap v val)(hm:itemsOf v=aa m)(hQ:∀s' items,Kp s s'->av C X s'.heap m items->Q items s'):
  wpAny (model C.prog C.w) A (unpackItems val m.length ae) Q E s:=by
 induction v using V.casesOn<;>(first|exact nS hm|exact fT hm|(dsimp only[itemsOf]at hm<;>(try cases hm)))
 case tup=>
  dsimp only[aq]at hr;refine dO hr λa vs z0 zz ht hl=>?_;clear hr;subst z0;have e:m.length=vs.toArray.size:=by refine rwl Ju ?_;exact hl.length.symm
  refine rwl e ?_;refine wpAny_unpackItems_tuple hh ht.fH λh' he=>?_;have K:Kp s { s with heap:=h' }:=⟨λb o eb=>he b o (λq=>by subst q;rw[cN]at eb;exact nS eb) eb,rfl,rfl⟩;exact hQ _ vs K (hl.tr K.tr)
 case lst=>
  dsimp only[aq]at hr;refine dO hr λa vs z0 zz ht hl=>?_;clear hr;subst z0;refine rwl hl.length.symm ?_;exact uk hh ht λs' K=>hQ s' vs K (hl.tr K.tr)
end
noncomputable def mn(P:Bool->V->IZ->Prop):List Bool->List V->List IZ->Prop
 | [],[],[]=>True
 | o::os,v::vs,x::xs=>P o v x/\mn P os vs xs
 | _,_,_=>False
noncomputable def kB:List Bool->List IZ->Prop
 | o::os,x::xs=>(o=af->∀b y,(b,y)∈os.zip xs->b=af->x≠y)/\kB os xs
 | _,_=>True
theorem mn.DG{P:Bool->V->IZ->Prop}:∀{os:List Bool}{vs:List V}{xs:List IZ},mn P os vs xs->vs.length=os.length/\xs.length=os.length
 | [],[],[],_=>⟨rfl,rfl⟩
 | _::_,_::_,_::_,⟨_,b⟩=>by refine ao (mn.DG b) λq r=>?_;simp[q,r]
 | [],[],_::_,q=>q.elim
 | [],_::_,_,q=>q.elim
 | _::_,[],_,q=>q.elim
 | _::_,_::_,[],q=>q.elim
section
variable{cx:Cx}{X0 X X' Pn:AP}{env:Env}{ay s s' s'':IY}{ρ ρ':Fr}{p p':List V}{A:I0}{Q:Flow->IY->Prop}{E:IZ->IY->Prop}{h h':Heap}{n:Nat}{call:Call}{b:Bool}
def IL(C:Cfg)(A:I0)(E:IZ->IY->Prop)(env:Env)(x:Str)(t:IZ->Sem Unit):Prop:=
 ∀(val:IZ)(s:IY)(Q:Unit->IY->Prop),wpAny (model C.prog C.w) A (storeName env x val) Q E s->wpAny (model C.prog C.w) A (t val) Q E s
set_option tactic.hygienic true
theorem Av:∀(es:List Expr)(ns:List Str)(js:List Nat)(os:List Bool)(vs:List V)(xs:List IZ),namesOf es=aa ns->iH cx ns=aa js->os.length=js.length->vs.length=js.length->xs.length=js.length->
  ∃L:List Ent,L.map (·.t)=(assignEach es env).map (·.2)/\L.map (·.val)=xs/\L.map (·.x)=ns/\(∀ρ,storeAll ((js.map sets).zip os) vs ρ=aa (putAll L ρ))/\(∀e∈L,cZ cx e.x=aa e.j/\IL C A E env e.x e.t)/\(assignEach es env).findIdx? (·.1)=ae/\(assignEach es env).length=js.length/\
   (∀P,mn P os vs xs->∀e∈L,P e.own e.v e.val)/\(distinct ns=af->kB os xs->apart L)/\(∀e∈L,(e.own,e.val)∈os.zip xs)/\∀f:Str->Bool->Bool,(∀q∈ns.zip os,f q.1 q.2=af)->∀e∈L,f e.x e.own=af
 | [],ns,js,os,vs,xs,hn,hj,h1,h2,h3=>by
  obtain rfl:=Jd hn;obtain rfl:=Jd hj;simp at h1 h2 h3;subst h1 h2 h3;exact⟨[],rfl,rfl,rfl,λJ=>rfl,(λJ q=>nomatch q),rfl,rfl,(λJ J J q=>nomatch q),λJ J=>List.Pairwise.nil,(λJ q=>nomatch q),(λJ J J q=>nomatch q)⟩
 | e::es,ns,js,os,vs,xs,hn,hj,h1,h2,h3=>by
  refine aj (ob hn) λx hx hn1=>?_;refine aj (ob hn1) λl hr hn2=>?_;refine aw (eg hx) λpx z0=>?_;clear hn hx hn1;subst z0;obtain rfl:=Jd hn2
  ·
   ·
    unfold iH at hj;induction ht:cZ cx x using Option.casesOn with
    | none=>replace hj:=ht▸hj;exact nS hj
    | some j=>
     induction hl:iH cx l using Option.casesOn with
     | none=>replace hj:=hl▸ht▸hj;exact nS hj
     | some jl=>
      replace hj:=hl▸ht▸hj;obtain rfl:=Jd hj;refine dX (List.exists_cons_of_length_eq_add_one (h1.trans (List.length_cons))) λo os z0=>?_;subst z0;refine dX (List.exists_cons_of_length_eq_add_one (h2.trans (List.length_cons))) λv vs z0=>?_;subst z0;refine dX (List.exists_cons_of_length_eq_add_one (h3.trans (List.length_cons))) λy xs z0=>?_;subst z0;refine kD (Av es l jl os vs xs hr hl (by simpa using h1) (by simpa using h2) (by simpa using h3)) λL a1 a2 a3 a4 a5 a6 a7 zq=>?_;refine fo zq λa8 a9 a10 a11=>?_;have ea:assignEach (.Name x px::es) env=(ag,assign (.Name x px) env)::assignEach es env:=rfl;refine⟨⟨x,j,o,v,y,assign (.Name x px) env⟩::L,by refine rwl ea ?_;simp[a1],by simp[a2],by simp[a3],λρ=>a4 _,λe he=>?_,by refine rwl ea ?_;simp[List.findIdx?_cons,a6],by refine rwl ea ?_;simp[a7],λP hP e he=>?_,λhd ho=>?_,λe he=>?_,λf hf e he=>?_⟩
      ·rcases Jx.mp he with rfl|he
       ·exact⟨ht,λval s Q hq=>wpAny_assign_Name hq⟩
       ·exact a5 e he
      ·rcases Jx.mp he with rfl|he
       ·exact hP.1
       ·exact a8 P hP.2 e he
      ·simp only[distinct,Jn,Bool.not_eq_true']at hd;refine List.pairwise_cons.mpr ⟨λf hf=>⟨λq=>?_,λq1 q2=>ho.1 q1 f.own f.val (a10 f hf) q2⟩,a9 hd.2 ho.2⟩;have:f.x∈l:=by refine rwl a3.symm ?_;exact List.mem_map.mpr (au f hf rfl)
       have hc:=hd.1;have q:x=f.x:=q;replace this:=q.symm▸this;replace hc:=(List.contains_iff_mem.mpr this)▸hc;exact tF hc
      ·rcases Jx.mp he with rfl|he
       ·exact Js
       ·exact Jr _ (a10 e he)
      ·rcases Jx.mp he with rfl|he
       ·exact hf (x,o) Js
       ·exact a11 f (λq hq=>hf q (Jr _ hq)) e he
theorem oE:∀js:List bT,vals js=js.zip (js.map λJ=>ag)
 | []=>rfl
 | j::r=>by show(j,ag)::vals r=_;refine rwl (oE r) ?_;rfl
theorem rF{m:List V}{items:List IZ}:av C X h m items->mn (λo v x=>o=ag/\aq C X h v x) (m.map λJ=>ag) m items:=by
 induction m generalizing items with
 | nil=>intro q;simp only[av]at q;subst q;trivial
 | cons v m ih=>intro q;simp only[av]at q;refine aW q λx r z0 q1 q2=>?_;clear q;subst z0;exact⟨⟨rfl,q1⟩,ih q2⟩
theorem j8:∀(l:List V)(xs:List IZ),kB (l.map λJ=>ag) xs
 | [],_=>trivial
 | _::_,[]=>trivial
 | _::l,_::xs=>⟨λq=>(nomatch q),j8 l xs⟩
theorem mD:∀{ts:List (bT×Bool)}{l:List V}{ρ ρ':Fr},storeAll ts l ρ=aa ρ'->l.length=ts.length
 | [],[],_,_,_=>rfl
 | [],_::_,_,_,e=>nomatch e
 | _::_,[],_,_,e=>nomatch e
 | t::ts,v::l,ρ,ρ',e=>by
  have e:storeAll ts l (t.1 ρ (jK t.2 v))=aa ρ':=e;simp[mD e]
theorem kQ{es:List Expr}{ns:List Str}{js:List Nat}{k:Nat}{tp:Pos}{v:V}{m:List V}{val:IZ}{Q:Unit->IY->Prop}(S:St C cx X0 Pn env ay ρ p s X)(k':bf C A s.heap)(O:bD cx)(hh:A.handled=ae)(hn:namesOf es=aa ns)(hd:distinct ns=af)(hj:iH cx ns=aa js)
  (hr:aq C X s.heap v val) (hm:itemsOf v=aa m) (hs:storeAll (vals (js.map sets)) m ρ=aa ρ') (hQ:∀s',St C cx X0 Pn env ay ρ' p s' X->bf C A s'.heap->Kf X X s s'->Q () s'):wpAny (model C.prog C.w) A (assign (.Tuple es k tp) env val) Q E s:=by
 have hlen:=mD hs;have hz:(vals (js.map sets)).length=js.length:=by simp only[oE];simp
 simp only[hz]at hlen;simp only[arm_assign_Tuple];refine IQ (IV ?_);refine kD (Av (A:=A) (E:=E) (env:=env) es ns js (m.map λJ=>ag) m (m.map λJ=>Value.none) hn hj (by simp[hlen]) hlen (by simp[hlen])) λzz zz zz zz zz zz i6 i7 zz=>?_;unfold unpack;simp only[i6,i7,← hlen];refine IQ (IS (sg hh hr hm λs₁ items K hl=>?_));refine ao (S.kp K) λS1 kf1=>?_;refine kD (Av (A:=A) (E:=E) (env:=env) es ns js (m.map λJ=>ag) m items hn hj (by simp[hlen]) hlen (by simp only[hl.length,hlen])) λL a1 a2 a3 a4 a5 a6 a7 zq=>?_;refine fo zq λa8 a9 a10 a11=>?_;simp only[← a1,← a2];have ho:∀e∈L,e.own=ag/\aq C X s₁.heap e.v e.val:=a8 _ (rF hl);refine S1.kU O L (k'.kp S K) (λe he=>?_) (a9 hd (j8 _ _)) λs₂ S2 k₂ kf2=>hQ s₂ ?_ k₂ (kf1.trans kf2)
 ·refine ao (a5 e he) λq1 q2=>?_;refine ao (ho e he) λq3 q4=>?_;exact⟨q1,(λq=>by simp only[q3]at q;exact fT q),(by simp only[q3];exact q4),q2 _⟩
 ·have e:vals (js.map sets)=(js.map sets).zip (m.map λJ=>ag):=by
   simp only[oE]
   congr 1
   simp only[List.map_const',List.map_const'];simp[hlen]
  simp only[e,a4 ρ]at hs;clear hQ;obtain rfl:=Jd hs;exact S2
theorem jJ{e:Expr}{es:List Expr}{k:Nat}{tp:Pos}{l:Nat}:swapsWithSole [.Tuple es k tp] e l env=pure ag:=by
 induction e using Expr.casesOn<;>rfl
set_option tactic.hygienic false
theorem mB{e:Expr}{es:List Expr}{k:Nat}{tp:Pos}(h:∀vs k p,e≠.Tuple vs k p):swappedStores [.Tuple es k tp] e env=pure ae:=by
 induction e using Expr.casesOn<;>first|rfl|exact absurd rfl (h _ _ _)
theorem bu.Iy{es:List Expr}{ns:List Str}{js:List Nat}{kk:Nat}{tp pos:Pos}{e:Expr}{d:aA}(h:aL C cx ag e d)(O:bD cx)(hn:namesOf es=aa ns)(hd:distinct ns=af)(hj:iH cx ns=aa js)(hne:∀vs k p,e≠.Tuple vs k p):
  bu C cx (.Assign [.Tuple es kk tp] e pos) (gy (js.map sets) d):=by
 intro n call hc X0 Pn env ay ρ p s X A Q E hA S k hrm N;refine wpAny_Assign_stores (h.st hc S k hrm N λv p₁ val s₁ S1 k₁ kf J hv N1=>?_) jJ (mB hne);show wpAny _ _ (assign (.Tuple es kk tp) env val) _ _ _;refine oc (itemsOf v) (λhm=>?_) λm hm=>?_
 ·replace N1:=hm▸N1;exact absurd rfl N1.go
 ·
  replace N1:=hm▸N1;induction hst:storeAll (vals (js.map sets)) m ρ using Option.casesOn with
  | none=>have N1:bE C cx X0 Pn env ay A (@Option.rec Fr (λJ=>ai) ai.stuck (λρ=>ai.next ρ p₁) (storeAll (vals (js.map sets)) m ρ)) Q E s₁ X:=N1;replace N1:=hst▸N1;exact absurd rfl N1.go
  | some ρ'=>
   have N1:bE C cx X0 Pn env ay A (@Option.rec Fr (λJ=>ai) ai.stuck (λρ=>ai.next ρ p₁) (storeAll (vals (js.map sets)) m ρ)) Q E s₁ X:=N1;replace N1:=hst▸N1;exact kQ S1 k₁ O hrm.handled hn hd hj hv hm hst λs₂ S2 k₂ kf2=>N1.cW S2 k₂ kf2
end
section
variable{cx:Cx}{X0 X X' Pn:AP}{env:Env}{ay s s' s'':IY}{ρ ρ':Fr}{p p':List V}{A:I0}{Q:Flow->IY->Prop}{E:IZ->IY->Prop}{h h':Heap}{n:Nat}{call:Call}{b:Bool}{I a:I1}{wr:List I1}{o:Bool}{l:List V}
def afterLoop(M:Model)(A:I0)(env:Env)(Q:Flow->IY->Prop)(E:IZ->IY->Prop)(r:Result)(s':IY):Prop:=match r with
 | .ok f=>Q f s'
 | .error e=>cameBackBy M A env E e s'
theorem ua{k:List Nat}{e:IZ}(S:St C cx X0 Pn env ay ρ p s X)(kk:bf C A s.heap)(hA:∃l,A.frames=aa (env::l))(hcls:∃q,C.cls=.ref q)(x:ExcAt C ay.heap af (aa env.locals) k s.heap e)
  (hE:∀s',St C cx X0 Pn env ay ρ p s' X->bf C A s'.heap->ExcAt C ay.heap af (aa env.locals) k s'.heap e->E e s'):notedBy (model C.prog C.w) A env (λx s'=>afterLoop (model C.prog C.w) A env Q E (.error x) s') e s:=by
 refine aw hA λl hl=>?_;refine aj (id kk) λl' hl' hF=>?_;replace hl':=hl▸hl';obtain rfl:=Jd hl';refine oQ hl hF S.efr S.vw.base S.base0 S.has hcls x λs₁ Y m₁ vE=>?_;have S1:=S.marked m₁;have k₁:=kk.mk m₁;skip;clear x;obtain⟨a,oe,d,m,w,t,vs,rfl,e2,e3,e4,e5,e6,e7,e8,e9,e10⟩:=id vE;rcases e10 with⟨q,_⟩|⟨T,oT,ts,f1,f2⟩
 ·exact fT q
 ·refine IQ (wpAny_field e2 e9 f1 ?_);refine eU (show ¬((Value.ref T==Value.none)=af) from Bool.false_ne_true) ?_;refine jB S1.vw.base S.base0 vE λs₂ Es m₂ oA=>?_;replace oA:=S.efr▸oA;refine hE s₂ (S1.marked m₂) (k₁.mk m₂) ?_;refine jG oA λa oe d m w t zq=>?_;refine kD zq λvs g1 g2 g3 g4 g5 g6 g7 zq=>?_;refine bM zq λg8 g9 g10=>?_;exact⟨a,oe,d,m,w,t,vs,g1,g2,g3,g4,g5,g6,g7,g8,g9,g10.elim (λq=>nomatch q.1) .inr⟩
theorem cO.IB{e:Expr}{d:aA}{K:V->List V->ai}{Q₁:Bool->IY->Prop}(h:cO C cx e d)(hc:dJ C n call)(S:St C cx X0 Pn env ay ρ p s X)(k:bf C A s.heap)(hr:dU A n)
  (N:bE C cx X0 Pn env ay A (@Res.rec (λJ=>ai) ai.stuck K (λe p=>ai.exc e ρ p) (d call ρ p)) Q E s X)
  (hk:∀v p₁ s₁,d call ρ p=.ok v p₁->St C cx X0 Pn env ay ρ p₁ s₁ X->bf C A s₁.heap->Kf X X s s₁->bE C cx X0 Pn env ay A (K v p₁) Q E s₁ X->rg Q₁ v s₁):wpAny (model C.prog C.w) A (isTrue e env (eval e env)) Q₁ E s:=by
 rw[rQ]at N;refine h n call hc X Pn env ρ p s A Q₁ E S.vw k hr (bL.o.mpr (N.o (O:=rg Q₁) S k λv p₁ s₁ e S1 k₁ kf J N1=>hk v p₁ s₁ ?_ S1 k₁ kf N1));induction hd:d call ρ p using Res.casesOn with
 | stuck=>rw[hd]at e;exact(nomatch e)
 | exc k q=>rw[hd]at e;exact(nomatch e)
 | ok v q=>rw[hd]at e;clear hd;cases e;rfl
theorem bu.CM{t:Expr}{body:List Stmt}{pos:Pos}{dt:aA}{db:bj}(hcls:∃q,C.cls=.ref q)(ht:cO C cx t dt)(hb:eA C cx body db):bu C cx (.While t body [] pos) (cq dt db):=by
 intro n call hc X0 Pn env ay ρ p s X A Q E hA S k hrm N;refine wpAny_While ?_;show codeAny (model C.prog C.w) A (.whileLoop t body [] env) (afterLoop (model C.prog C.w) A env Q E) s;have loop:∀(m:Nat)(ρ:Fr)(p:List V)(s₁:IY)(X1:AP),St C cx X0 Pn env ay ρ p s₁ X1->bf C A s₁.heap->Kf X X1 s s₁->bE C cx X0 Pn env ay A (ib dt db call m ρ p) Q E s X->
   codeAny (model C.prog C.w) A (.whileLoop t body [] env) (afterLoop (model C.prog C.w) A env Q E) s₁:=by
  intro m;induction m with
  | zero=>intro ρ p s₁ X1 S1 k₁ kf N;exact absurd rfl N.go
  | succ m ih=>
   intro ρ p s₁ X1 S1 k₁ kf N;refine codeAny_of_tree ?_;show wpAny (model C.prog C.w) A ((whileTurn t body [] env).onRaise λx=>do noteFrame x env;theTreesLotGoes x) _ _ s₁
   refine wpAny_noted ?_;unfold whileTurn;have N':bE C cx X0 Pn env ay A (@Res.rec (λJ=>ai) ai.stuck (λv p=>(vB ai.stuck (λq=>@Jp (λJ=>ai) (ai.next ρ p) (@ai.rec (λJ=>ai) ai.stuck (ib dt db call m) ai.next (ib dt db call m) ai.ret ai.exc (db call ρ p)) q) v)) (λe p=>ai.exc e ρ p) (dt call ρ p)) Q E s X:=N;have N'':bE C cx X0 Pn env ay A _ Q (notedBy (model C.prog C.w) A env λx s'=>afterLoop (model C.prog C.w) A env Q E (.error x) s') s₁ X1:=
    ⟨N'.go,(N'.to kf).next,(N'.to kf).brk,(N'.to kf).cont,(N'.to kf).ret,λkx ρ' p' e s' X' S' k' x xa=>ua S' k' hA hcls xa λs'' S'' k'' xa'=>N'.exc kx ρ' p' e s'' X' S'' k'' x xa'⟩
   refine az (ht.IB hc S1 k₁ hrm N'' λv bg s₂ hdt S2 k₂ kf2 N2=>?_);have NE:=N';simp only[hdt]at NE;refine aw (rf N2.go) λq z0=>?_;subst z0;refine au q rfl ?_;induction q using Bool.casesOn with
   | false=>
    show wpAny _ _ (execs [] env >>= λf=>pure (Fin.done f)) _ _ _;exact az (wpAny_execs_nil (IP (N2.cW S2 k₂ .refl)))
   | true=>
    show wpAny _ _ (execs body env >>= _) _ _ _;refine az (hb n call hc X0 Pn env ay ρ bg s₂ X1 A _ _ hA S2 k₂ hrm ?_);have N2:bE C cx X0 Pn env ay A (@ai.rec (λJ=>ai) ai.stuck (ib dt db call m) ai.next (ib dt db call m) ai.ret ai.exc (db call ρ bg)) Q _ s₂ X1:=N2;have NE:bE C cx X0 Pn env ay A (@ai.rec (λJ=>ai) ai.stuck (ib dt db call m) ai.next (ib dt db call m) ai.ret ai.exc (db call ρ bg)) Q E s X:=NE;have base:∀ρ' p',(db call ρ bg=.next ρ' p'\/db call ρ bg=.cont ρ' p')->bE C cx X0 Pn env ay A (ib dt db call m ρ' p') Q E s X:=λρ' p' e=>by
     rcases e with e|e<;>(simp only[e]at NE;exact NE)
    refine⟨λe=>(by simp only[e]at NE;exact NE.go rfl),λρ' p' e br X3 S3 bJ kf3=>?_,λρ' p' e br X3 S3 bJ kf3=>?_,λρ' p' e br X3 S3 bJ kf3=>?_,λv ρ' p' e br X3 S3 bJ kf3 val hv=>?_,λkx ρ' p' e=>?_⟩
    ·exact IP ⟨rfl,ih ρ' p' br X3 S3 bJ ((kf.trans kf2).trans kf3) (base ρ' p' (.inl e))⟩
    ·simp only[e]at N2;exact IP (N2.next _ _ rfl br X3 S3 bJ kf3)
    ·exact IP ⟨rfl,ih ρ' p' br X3 S3 bJ ((kf.trans kf2).trans kf3) (base ρ' p' (.inr e))⟩
    ·simp only[e]at N2;exact IP (N2.ret _ _ _ rfl br X3 S3 bJ kf3 val hv)
    ·simp only[e]at N2;exact N2.exc kx ρ' p' rfl
 exact loop _ ρ p s X S k .refl N
end
section
variable{cx:Cx}{X0 X X' Pn:AP}{env:Env}{ay s s' s'':IY}{ρ ρ':Fr}{p p':List V}{A:I0}{Q:Flow->IY->Prop}{E:IZ->IY->Prop}{h h':Heap}{n:Nat}{call:Call}{b:Bool}{I a:I1}{wr:List I1}{o:Bool}{l:List V}
theorem bW.kf(r:bW C X Pn s.heap I wr a o l)(k:Kf X X' s s')(hw:∀c∈wr,¬X c)(ha:¬X a):bW C X' Pn s'.heap I wr a o l/\(∀c∈wr,¬X' c)/\¬X' a:=by
 have t:∀b o,s.heap.get? b=aa o->Kc o->¬X b->s'.heap.get? b=aa o:=λb o e hc hx=>(k.keep b o e hc hx).1;have T:=k.tr;refine⟨?_,λc hc=>?_,?_⟩
 ·induction r using bW.casesOn with
  | list h1 h2 h3 h4=>
   refine aQ h1 λx e c d=>?_;refine ao h2 λz zq=>?_;refine aw zq λn e2=>?_;exact .list (aU x (t _ _ e (bx c (by decide)) (hw _ (by simp))) c d) ⟨z,n,t _ _ e2 (bx rfl (by decide)) ha⟩ h3 (h4.tr T)
  | tup h1 h2 h3 h4=>
   refine aQ h1 λx e c d=>?_;refine ao h2 λz zq=>?_;refine aw zq λn e2=>?_;exact .tup (aU x (t _ _ e (bx c (by decide)) (hw _ (by simp))) c d) ⟨z,n,t _ _ e2 (bx rfl (by decide)) ha⟩ h3 (h4.tr T)
  | range h1=>exact .range (t _ _ h1 (bx rfl (by decide)) (hw _ (by simp)))
  | rev h1 h2 h3 h4 h5=>
   refine aQ h1 λx e c d=>?_;refine ao h2 λz zq=>?_;refine aw zq λn e2=>?_;exact .rev (aU x (t _ _ e (bx c (by decide)) (hw _ (by simp))) c d) ⟨z,n,t _ _ e2 (bx rfl (by decide)) ha⟩ h3 h4 (h5.tr T)
  | enum h1 h2 h3 h4 h5=>
   refine aQ h2 λx e c d=>?_;refine ao h3 λz zq=>?_;refine aw zq λn e2=>?_;exact .enum (t _ _ h1 (bx rfl (by decide)) (hw _ (by simp))) (aU x (t _ _ e (bx c (by decide)) (hw _ (by simp))) c d) ⟨z,n,t _ _ e2 (bx rfl (by decide)) ha⟩ h4 (h5.tr T)
  | items h1 h2 h3 h4 h5 h6=>
   exact .items (t _ _ h1 (bx rfl (by decide)) (hw _ (by simp))) (t _ _ h2 (bx rfl (by decide)) ha) h3 h4 (h5.tr T) (h6.tr T)
 ·refine lB (r.own.2 c hc) λob n e hcl zz hn zz=>?_;exact(k.keep c ob e (bx hcl hn) (hw c hc)).2
 ·have key:∃ob,s.heap.get? a=aa ob/\Kc ob:=by
   induction r using bW.casesOn with
   | list h1 h2=>refine ao h2 λzz zq=>?_;refine aw zq λn e=>?_;exact au _ e (bx rfl (by decide))
   | tup h1 h2=>refine ao h2 λzz zq=>?_;refine aw zq λn e=>?_;exact au _ e (bx rfl (by decide))
   | range h1=>exact au _ h1 (bx rfl (by decide))
   | rev h1 h2=>refine ao h2 λzz zq=>?_;refine aw zq λn e=>?_;exact au _ e (bx rfl (by decide))
   | enum h1 h2 h3=>refine ao h3 λzz zq=>?_;refine aw zq λn e=>?_;exact au _ e (bx rfl (by decide))
   | items h1 h2=>exact au _ h2 (bx rfl (by decide))
  refine aj key λob e hc=>?_;exact(k.keep a ob e hc ha).2
theorem pk(t:Expr)(own:Bool):qk t own=fP t own:=by induction t using Expr.casesOn<;>rfl
set_option tactic.hygienic true
theorem uv{t:Expr}{tg:eN}{v:V}{val:IZ}{Q:Unit->IY->Prop}(S:St C cx X0 Pn env ay ρ p s X)(k:bf C A s.heap)(O:bD cx)(hh:A.handled=ae)(ht:sh cx t=aa tg)(e:d4 tg v ρ=aa ρ')(hr:aq C X s.heap v val)
  (hQ:∀s',St C cx X0 Pn env ay ρ' p s' X->bf C A s'.heap->Kf X X s s'->Q () s'):wpAny (model C.prog C.w) A (assign t env val) Q E s:=by
 rcases vP ht with⟨x,px,j,rfl,hj,rfl⟩|⟨x,px,y,py,kk,pt,j,j',rfl,hj,hj',hne,rfl⟩
 ·obtain rfl:=Jd e;exact wpAny_assign_Name (S.store O k hj (sl:=.val v) hr (aq.iq S.loc hr) (λJ q=>nomatch q) λs' S' k' kf J=>hQ s' S' k' kf)
 ·
  have key:∃u w,v=.tup [u,w]/\ρ'=sets j' (sets j ρ (.val u)) (.val w):=nq e;refine bY key λu w z0 z1=>?_;clear key;subst z0;clear e;subst z1;have hxy:x≠y:=by simpa using hne
  exact kQ (ns:=[x,y]) (js:=[j,j']) (m:=[u,w]) S k O hh rfl (by simp[distinct,hxy]) (by simp[iH,hj,hj']) hr rfl rfl hQ
theorem GF{r:Res}{K:List V->List V->ai}:(@Res.rec (λJ=>ai) ai.stuck (λv p=>@Option.rec (List V) (λJ=>ai) ai.stuck (λl=>K l p) (itemsOf v)) (λe p=>ai.exc e ρ p) r)=(kl r).toS ρ K:=by
 unfold kl;induction r using Res.casesOn with
 | stuck=>rfl
 | exc k p=>rfl
 | ok v p=>
  show(@Option.rec (List V) (λJ=>ai) ai.stuck (λl=>K l p) (itemsOf v))=Out.toS (match itemsOf v with|some l=>Out.ok l p|none=>.stuck) ρ K
  induction itemsOf v using Option.casesOn<;>rfl
noncomputable def ve(t:Expr)(it:IZ)(body orelse:List Stmt)(env:Env)(v:IZ):Sem Fin:=do
 assign t env v
 match ← execs body env with
 | .next|.cont=>again (.forLoop t it body orelse env)
 | .brk=>pure (.done .next)
 | .ret v=>pure (.done (.ret v))
def yS(M:Model)(A:I0)(R:Result->IY->Prop)(fin:Fin)(s':IY):Prop:=match fin with
 | .done f=>R (.ok f) s'
 | .again c'=>c'.quiet=af/\codeAny M A c' R s'
set_option tactic.hygienic false
theorem bu.Ik{t src:Expr}{body:List Stmt}{pos:Pos}{sd:aA}{db:bj}{tg:eN}{own:Bool}(hcls:∃q,C.cls=.ref q)(hIt:eC C cx ag src sd own)(hfs:∀env x,foldedSetIterable src env x=pure x)(hto:fP t own=af)(htg:sh cx t=aa tg)(hb:eA C cx body db)(O:bD cx):
  bu C cx (.For t src body [] pos) (cA tg sd db):=by
 intro n call hc X0 Pn env ay ρ p s X A Q E hA S k hrm N;have N0:bE C cx X0 Pn env ay A ((kl (sd call ρ p)).toS ρ λl p=>forL tg db call l ρ p) Q E s X:=by rw[← GF];exact N
 refine wpAny_For ?_ (hfs env);refine hIt n call hc X Pn env ρ p s A _ E S.vw k hrm (N0.o S k λl p₁ s₁ hio S1 k₁ kf1 hn N1 I wr a o hwo it hfr hXa=>?_);skip;have ht':fP t o=af:=by
  induction o using Bool.casesOn with
  | true=>have h:=hwo rfl;clear hIt hwo;subst h;exact hto
  | false=>clear htg;induction t using Expr.casesOn<;>simp[fP]at hto ⊢
 have hw:∀c∈wr,¬X c:=λc hc hx=>by refine aw (S.vw.lt c hx) λo ho=>?_;rw[hfr c hc]at ho;exact nS ho
 have ha:¬X a:=λhx=>hw a (hXa rfl hx) hx;have hw0:∀c∈wr,ay.heap.get? c=ae:=λc hc=>S.old (hfr c hc);have N2:=N0;rw[hio]at N2;have loop:∀(l:List V)(ρ:Fr)(p:List V)(s₂:IY)(fM:AP),St C cx X0 Pn env ay ρ p s₂ fM->bf C A s₂.heap->(∀b o,s.heap.get? b=aa o->Kc o->¬X b->s₂.heap.get? b=aa o/\¬fM b)->bW C fM Pn s₂.heap I wr a o l->(∀c∈wr,¬fM c)->¬fM a->
   bE C cx X0 Pn env ay A (forL tg db call l ρ p) Q E s X->codeAny (model C.prog C.w) A (.forLoop t (.ref I) body [] env) (afterLoop (model C.prog C.w) A env Q E) s₂:=by
  intro l;induction l with
  | nil=>
   intro ρ p s₂ fM S2 k₂ kf it hw2 ha2 N;refine codeAny_of_tree ?_;skip;refine wpAny_noted ?_;unfold forTurn;refine az (IV (az (wpAny_onRaise (it.stop hrm.handled rfl λbr kw=>?_))));have hB:Base C br.heap:=kw.base (λc hc=>S2.oP (hw0 c hc)) S2.vw.base;have S3:St C cx X0 Pn env ay ρ p br fM:=S2.qA (Y:=λb=>b∈wr) (kw.nx hB (λJ q=>q) it.nc) hw0 (λb hb o e=>⟨it.mQ b hb o e,it.iM b hb o e⟩) (mcode:=λb hb hx=>absurd hx (hw2 b hb)) λb hb=>by
    refine aw (S2.vw.lt b hb) λo e=>?_;exact⟨o,kw.keep b o (λq=>hw2 b q hb) e⟩
   have bJ:=k₂.Ai kw hB it.iM it.nc;refine IP ⟨rfl,codeAny_of_tree ?_⟩;skip;refine az (wpAny_noted (wpAny_execs_nil (IP ?_)));refine N.next ρ p rfl br fM S3 bJ ⟨λb o e hc hx=>?_⟩;refine ao (kf b o e hc hx) λq1 q2=>?_;exact⟨kw.keep b o (λq=>by rw[hfr b q]at e;exact nS e) q1,q2⟩
  | cons v l ih=>
   intro ρ p s₂ fM S2 k₂ kf it hw2 ha2 N;have N':bE C cx X0 Pn env ay A (@Option.rec Fr (λJ=>ai) ai.stuck (λρ=>@ai.rec (λJ=>ai) ai.stuck (forL tg db call l) ai.next (forL tg db call l) ai.ret ai.exc (db call ρ p)) (d4 tg v ρ)) Q E s X:=N;refine oc (d4 tg v ρ) (λhbt=>?_) λρ1 hbt=>?_
   ·rw[hbt]at N';exact absurd rfl N'.go
   ·
    rw[hbt]at N';have N':bE C cx X0 Pn env ay A (@ai.rec (λJ=>ai) ai.stuck (forL tg db call l) ai.next (forL tg db call l) ai.ret ai.exc (db call ρ1 p)) Q E s X:=N';refine codeAny_of_tree ?_;skip;refine wpAny_noted ?_;unfold forTurn;refine az (IV (az (wpAny_onRaise (IX (it.next (tg:=t) (Q:=λval br=>wpAny (model C.prog C.w) A (ve t (.ref I) body [] env val) (yS (model C.prog C.w) A (afterLoop (model C.prog C.w) A env Q E)) (notedBy (model C.prog C.w) A env λx s'=>afterLoop (model C.prog C.w) A env Q E (.error x) s') br) S2.vw.lt rfl ht' λval br kw hval it3=>?_) (λr br q=>?_) λe s' x=>IV x))))
    rotate_left
    ·obtain⟨val,rfl,q⟩:=q;exact az q
    ·have hB:Base C br.heap:=kw.base (λc hc=>S2.oP (hw0 c hc)) S2.vw.base;have S3:St C cx X0 Pn env ay ρ p br fM:=S2.qA (Y:=λb=>b∈wr) (kw.nx hB (λJ q=>q) it.nc) hw0 (λb hb o e=>⟨it.mQ b hb o e,it.iM b hb o e⟩) (mcode:=λb hb hx=>absurd hx (hw2 b hb)) λb hb=>by
      refine aw (S2.vw.lt b hb) λo e=>?_;exact⟨o,kw.keep b o (λq=>hw2 b q hb) e⟩
     have bJ:=k₂.Ai kw hB it.iM it.nc;have kf3:∀b o,s.heap.get? b=aa o->Kc o->¬X b->br.heap.get? b=aa o/\¬fM b:=λb o e hc hx=>by
      refine ao (kf b o e hc hx) λq1 q2=>?_;exact⟨kw.keep b o (λq=>by rw[hfr b q]at e;exact nS e) q1,q2⟩
     unfold ve;refine az (uv S3 bJ O hrm.handled htg hbt hval λeQ S4 k4 kf4=>?_);refine bM (it3.kf kf4 hw2 ha2) λit4 hw4 ha4=>?_;refine az (hb n call hc X0 Pn env ay ρ1 p eQ fM A _ _ hA S4 k4 hrm ?_);have next:∀ρ' p',(db call ρ1 p=.next ρ' p'\/db call ρ1 p=.cont ρ' p')->∀cz X5,St C cx X0 Pn env ay ρ' p' cz X5->bf C A cz.heap->Kf fM X5 eQ cz->codeAny (model C.prog C.w) A (.forLoop t (.ref I) body [] env) (afterLoop (model C.prog C.w) A env Q E) cz:=λρ' p' e cz X5 S5 iP kf5=>by
      refine bM (it4.kf kf5 hw4 ha4) λit5 hw5 ha5=>?_;refine ih ρ' p' cz X5 S5 iP (λb o eb hc hx=>?_) it5 hw5 ha5 (by rcases e with e|e<;>(rw[e]at N';exact N'))
      refine ao (kf3 b o eb hc hx) λq1 q2=>?_;exact(kf4.trans kf5).keep b o q1 hc q2
     have all:∀{X5:AP}{cz:IY},Kf fM X5 eQ cz->Kf X X5 s cz:=λ{X5 cz} q=>⟨λb o eb hc hx=>by
      refine ao (kf3 b o eb hc hx) λq1 q2=>?_;exact(kf4.trans q).keep b o q1 hc q2⟩
     refine⟨λe=>(by rw[e]at N';exact N'.go rfl),λρ' p' e cz X5 S5 iP kf5=>IP ⟨rfl,next ρ' p' (.inl e) cz X5 S5 iP kf5⟩,λρ' p' e cz X5 S5 iP kf5=>?_,λρ' p' e cz X5 S5 iP kf5=>IP ⟨rfl,next ρ' p' (.inr e) cz X5 S5 iP kf5⟩,
      λu ρ' p' e cz X5 S5 iP kf5 val hv=>?_,λkx ρ' p' e cz X5 S5 iP x xa=>?_⟩
     ·rw[e]at N';exact IP (N'.next _ _ rfl cz X5 S5 iP (all kf5))
     ·rw[e]at N';exact IP (N'.ret _ _ _ rfl cz X5 S5 iP (all kf5) val hv)
     ·rw[e]at N';exact ua S5 iP hA hcls xa λCZ S6 k6 xa'=>N'.exc kx ρ' p' rfl CZ X5 S6 k6 x xa'
 exact loop l ρ p₁ s₁ X S1 k₁ (λb o e hc hx=>kf1.keep b o e hc hx) it hw ha N2
end
section
variable{cx:Cx}{X0 X X' Pn:AP}{env:Env}{ay s s' s'':IY}{ρ ρ':Fr}{p p':List V}{A:I0}{Q:Flow->IY->Prop}{E:IZ->IY->Prop}{h h':Heap}{n:Nat}{call:Call}{b:Bool}
inductive kA(C:Cfg)(cx:Cx):List Bool->List Expr->List aA->Prop
 | nil:kA C cx [] [] []
 | val {os:List Bool} {e:Expr} {d:aA} {es:List Expr} {ds:List aA}:aL C cx ag e d->(∀x p,e≠.Starred x p)->kA C cx os es ds->kA C cx (ag::os) (e::es) (d::ds)
 | own {os:List Bool} {e:Expr} {d:aA} {es:List Expr} {ds:List aA}:jm C cx e d->(∀x p,e≠.Starred x p)->kA C cx os es ds->kA C cx (af::os) (e::es) (d::ds)
structure jC(C:Cfg)(X X' Pn:AP)(env:Env)(s s':IY):Prop where
 kf:Kf X X' s s'
 up:∀b,X b->X' b
 own:∀v a,¬Pn a->aP C X s.heap v a->aP C X' s'.heap v a
 rd:∀y v,Reads env s.heap y v->Reads env s'.heap y v
 there:∀b,(∃o,s.heap.get? b=aa o)->∃o,s'.heap.get? b=aa o
theorem jC.refl:jC C X X Pn env s s:=⟨.refl,λJ q=>q,λJ J J q=>q,λJ J q=>q,λJ q=>q⟩
theorem jC.trans{X'':AP}(a:jC C X X' Pn env s s')(b:jC C X' X'' Pn env s' s''):jC C X X'' Pn env s s'':=
 ⟨a.kf.trans b.kf,λx q=>b.up x (a.up x q),λv x hp q=>b.own v x hp (a.own v x hp q),λy v q=>b.rd y v (a.rd y v q),λx q=>b.there x (a.there x q)⟩
theorem St.steps(S:St C cx X0 Pn env ay ρ p s X)(hn:Nx C Pn s s')(hp:bA C X Pn s'.heap p'):jC C X X Pn env s s':=
 ⟨(S.next hn hp).2,λJ q=>q,λJ J ha q=>q.ext hn.ext S.vw.pnX ha,λJ J q=>q.ext hn.ext S.vw.aE,λb q=>Ext.lt hn.ext hp b q⟩
theorem xJ{os:List Bool}{es:List Expr}{ds:List aA}(h:kA C cx os es ds):∀{n:Nat}{call:Call},dJ C n call->∀{ρ:Fr}{p:List V}{s:IY}{X:AP}{A:I0}{K:List V->List V->ai}{Q₁:List IZ->IY->Prop}{pos:Pos},St C cx X0 Pn env ay ρ p s X->bf C A s.heap->dU A n->
  bE C cx X0 Pn env ay A ((bB ds call ρ p).out.toS ρ K) Q E s X->
  (∀l p₁ vals s₁ X1,St C cx X0 Pn env ay ρ p₁ s₁ X1->bf C A s₁.heap->jC C X X1 Pn env s s₁->mn (Item C cx X1 Pn env ay ρ s₁) os l vals->kB os vals->(∀b y,(b,y)∈os.zip vals->b=af->∃a,y=.ref a/\s.heap.get? a=ae)->bE C cx X0 Pn env ay A (K l p₁) Q E s₁ X1->Q₁ vals s₁)->
  wpAny (model C.prog C.w) A (spliced (backTo pos (starEach es env))) Q₁ E s:=by
 induction h with
 | nil=>
  intro n call hc ρ p s X A K Q₁ pos S k hr N hk;exact wpAny_items_nil (hk [] p [] s X S k .refl trivial trivial (λJ J q=>nomatch q) N)
 | @val os e d es ds he hs _ ih=>
  intro n call hc ρ p s X A K Q₁ pos S k hr N hk;have lZ:(bB (d::ds) call ρ p).out=(d call ρ p).out.bind λv p=>(bB ds call ρ p).out.bind λl p=>.ok (v::l) p:=by
   show(@Res.rec (λJ=>aI) aI.stuck (λv p=>(@aI.rec (λJ=>aI) aI.stuck (λl p=>aI.ok (v::l) p) aI.exc (bB ds call ρ p))) aI.exc (d call ρ p)).out=_;rw[pD];congr 1;funext v p;rw[pF];rfl
  have gD:∀v p,((bB ds call ρ p).out.bind λl p=>.ok (v::l) p).toS ρ K=(bB ds call ρ p).out.toS ρ λl p=>K (v::l) p:=λv p=>by induction (bB ds call ρ p).out using Out.casesOn<;>rfl
  have ze:(bB (d::ds) call ρ p).out.toS ρ K=@Res.rec (λJ=>ai) ai.stuck (λv p=>(bB ds call ρ p).out.toS ρ λl p=>K (v::l) p) (λe p=>ai.exc e ρ p) (d call ρ p):=by
   refine rwl lZ ?_;induction d call ρ p using Res.casesOn with
   | stuck=>rfl
   | exc k q=>rfl
   | ok v q=>exact gD v q
  replace N:=ze▸N;refine wpAny_items_cons ?_ (aZ hs env);refine he.st hc S k hr N λv p₁ val s₁ S1 k₁ kf hn hv N1=>ih hc (pos:=pos) S1 k₁ hr N1 λl bg vals s₂ fM S2 k₂ st hi ho hf N2=>?_;refine hk (v::l) bg (val::vals) s₂ fM S2 k₂ ((S.steps hn S1.vw.aE).trans st) ⟨aq.tr st.kf.tr hv,hi⟩ ⟨(λq=>nomatch q),ho⟩ (λb y hby hb=>?_) N2;rcases Jx.mp hby with q|q
  ·(injection q with h9;clear hby;subst h9);exact(nomatch hb)
  ·refine aj (hf b y q hb) λa e ha=>?_;exact au a e (fu hn S1.vw.aE ha)
 | @own os e d es ds he hs _ ih=>
  intro n call hc ρ p s X A K Q₁ pos S k hr N hk;have lZ:(bB (d::ds) call ρ p).out=(d call ρ p).out.bind λv p=>(bB ds call ρ p).out.bind λl p=>.ok (v::l) p:=by
   show(@Res.rec (λJ=>aI) aI.stuck (λv p=>(@aI.rec (λJ=>aI) aI.stuck (λl p=>aI.ok (v::l) p) aI.exc (bB ds call ρ p))) aI.exc (d call ρ p)).out=_;rw[pD];congr 1;funext v p;rw[pF];rfl
  have gD:∀v p,((bB ds call ρ p).out.bind λl p=>.ok (v::l) p).toS ρ K=(bB ds call ρ p).out.toS ρ λl p=>K (v::l) p:=λv p=>by induction (bB ds call ρ p).out using Out.casesOn<;>rfl
  have ze:(bB (d::ds) call ρ p).out.toS ρ K=(d call ρ p).out.toS ρ (λv p=>(bB ds call ρ p).out.toS ρ λl p=>K (v::l) p):=by
   refine rwl lZ ?_;induction (d call ρ p).out using Out.casesOn with
   | stuck=>rfl
   | exc k q=>rfl
   | ok v q=>exact gD v q
  replace N:=ze▸N;refine wpAny_items_cons ?_ (aZ hs env);refine he n call hc X Pn env ρ p s A _ E S.vw k hr (N.o S k λv p₁ s₁ J S1 k₁ kf hn N1 s₂ a kp ha hown=>?_);refine yj (S1.C4 kp ha hown) λS2 kf2 hother hPa h0 hL=>?_;have st2:jC C X (Xa X a) Pn env s₁ s₂:=⟨kf2,λJ q=>.inl q,λv' a' ha' q=>by
    refine aj q.obj λo' e' hc'=>?_;exact q.tr kf2.tr λo e J=>kp.keep _ o e,λy v' q=>q.ext (kp.nx (Pn:=Pn) S1.vw.base).ext S1.vw.aE,λb z9=>aw z9 λo e=>⟨o,kp.keep b o e⟩⟩
  have k₂:bf C A s₂.heap:=k₁.ext (kp.nx (Pn:=Pn) S1.vw.base).ext S1.vw.aE;refine ih hc (pos:=pos) S2 k₂ hr (N1.to kf2) λl bg vals br X3 S3 bJ st hi ho hf N2=>?_;refine hk (v::l) bg (.ref a::vals) br X3 S3 bJ (((S.steps hn S1.vw.aE).trans st2).trans st) ⟨(yg a rfl (st.up a (.inr rfl)) hPa (st.own v a hPa hown) h0 hL (λy j w b hy hg hb=>?_)),hi⟩ ⟨λJ b y hby hb q=>?_,ho⟩ (λb y hby hb=>?_) N2
  ·refine aj (S2.ownAt hy hg) λb' rb zz=>?_;clear zz;cases Reads.unique hb (st.rd _ _ rb);exact hother y j w b hy hg rb
  ·refine aj (hf b y hby hb) λa' e ha'=>?_;replace q:=e▸q;(injection q with h9;clear e;subst h9);refine aj hown.obj λo q zz=>?_;replace q:=ha'▸q;exact nS q
  ·rcases Jx.mp hby with q|q
   ·clear hby hb;injection q with zq1 zq2;(try subst zq1);(try subst zq2);exact au a rfl (fu hn S1.vw.aE ha)
   ·refine aj (hf b y q hb) λa' e ha'=>?_;refine au a' e ?_;induction q':s.heap.get? a' using Option.casesOn with
    | none=>rfl
    | some o=>
     refine aw (((S.steps hn S1.vw.aE).trans st2).there a' ⟨o,q'⟩) λo' q''=>?_;replace q'':=ha'▸q'';exact nS q''
theorem wd{L:List Ent}(hd:L.Pairwise λe f=>e.j≠f.j):putAll L.reverse ρ=putAll L ρ:=by
 unfold putAll;induction L generalizing ρ with
 | nil=>rfl
 | cons e L ih=>
  refine ao (List.pairwise_cons.mp hd) λh1 h2=>?_;simp only[List.reverse_cons,List.foldl_append,ih h2];show sets e.j (L.foldl _ ρ) (jK e.own e.v)=L.foldl _ (sets e.j ρ (jK e.own e.v));clear ih hd h2;induction L generalizing ρ with
  | nil=>rfl
  | cons f L ih=>
   simp only[List.foldl_cons,List.foldl_cons,ih (λg hg=>h1 g (Jr _ hg))]
   congr 1
   exact xg (h1 f Js)
end
section
variable{cx:Cx}{X0 X X' Pn:AP}{env:Env}{ay s s' s'':IY}{ρ ρ':Fr}{p p':List V}{A:I0}{Q:Flow->IY->Prop}{E:IZ->IY->Prop}{h h':Heap}{n:Nat}{call:Call}{b:Bool}
theorem mU{f:Expr->Option Str}{c:Str->Pos->Bool}(hf:∀x p,f (.Name x p)=if c x p then aa x else ae):∀{es:List Expr}{ns:List Str},namesOf es=aa ns->(es.filterMap f).length=es.length->es.filterMap f=ns
 | [],ns,hn,_=>Jd hn
 | e::es,ns,hn,hl=>by
  refine aj (ob hn) λx hx hn1=>?_;refine aj (ob hn1) λl' hr hn2=>?_;refine aw (eg hx) λpx z0=>?_;clear hn hx hn1;subst z0;obtain rfl:=Jd hn2;have hle:=List.length_filterMap_le f es;by_cases hc:c x px=af
  ·have h1:f (.Name x px)=aa x:=(hf x px).trans (if_pos hc);rw[List.filterMap_cons_some h1]at hl ⊢;rw[mU hf hr (Nat.succ.inj hl)]
  ·have h1:f (.Name x px)=ae:=(hf x px).trans (if_neg hc);rw[List.filterMap_cons_none h1]at hl;rw[hl]at hle;exact absurd hle (Nat.not_succ_le_self _)
theorem tq{α:Type}{c:Prop}{i:Decidable c}{x y z w:α}(h1:c->x=z\/x=w)(h2:¬c->y=z\/y=w):(if c then x else y)=z\/(if c then x else y)=w:=by
 by_cases q:c
 ·rw[if_pos q];exact h1 q
 ·rw[if_neg q];exact h2 q
set_option tactic.hygienic true
theorem rD{es vs:List Expr}{ns:List Str}{kk k2:Nat}{tp vp:Pos}(hn:namesOf es=aa ns)(hsw:vR vs=af):
  swappedStores [.Tuple es kk tp] (.Tuple vs k2 vp) env=pure ae\/swappedStores [.Tuple es kk tp] (.Tuple vs k2 vp) env=pure (aa ns):=by
 delta swappedStores;refine tq (λJ=>.inl rfl) λJ=>tq (λJ=>.inl rfl) λJ=>tq (λJ=>.inl rfl) λh3=>?_;simp only[Bool.or_eq_true,bne_iff_ne,ne_eq,not_or,Decidable.not_not]at h3;have e:=mU (c:=λx p=>env.kindOf x==aa .local&&p.line==(es.head?.map (·.pos.line)).getD 0) (λJ J=>rfl) hn h3.1;refine tq (λJ=>.inl rfl) λh4=>tq (λh5=>?_) λJ=>.inr (congrArg (λl=>(pure (aa l):Sem (Option (List Str)))) e);simp only[vR,h5,Bool.not_true,Bool.or_false]at hsw;exact absurd hsw h4
theorem uT:∀{ns:List Str}{vs:List Expr},∀q∈ns.zip (ip cx ns vs),(!q.2||cx.muts.contains q.1)=af
 | [],_,q,hq=>by simp at hq
 | _::_,[],q,hq=>by simp[ip]at hq
 | x::ns,e::vs,q,hq=>by
  unfold ip at hq;simp only[List.zip_cons_cons]at hq;rcases Jx.mp hq with rfl|hq
  ·induction hm:cx.muts.contains x using Bool.casesOn with
   | true=>simp[hm]
   | false=>simp[hm]
  ·exact uT q hq
set_option tactic.hygienic false
theorem oG:∀{ns:List Str}{js:List Nat},iH cx ns=aa js->js.length=ns.length
 | [],js,h=>by obtain rfl:=Jd h;rfl
 | x::ns,js,h=>by
  unfold iH at h;refine oc (cZ cx x) (λht=>?_) λj ht=>?_
  ·simp only[ht]at h;exact nS h
  ·
   induction hl:iH cx ns using Option.casesOn with
   | none=>simp only[ht,hl]at h;exact nS h
   | some l=>simp only[ht,hl]at h;obtain rfl:=Jd h;simp[oG hl]
theorem sL:∀{ns:List Str}{vs:List Expr},vs.length=ns.length->(ip cx ns vs).length=ns.length
 | [],[],_=>rfl
 | [],_::_,h=>by simp at h
 | _::_,[],h=>by simp at h
 | x::ns,e::vs,h=>by unfold ip;simp[sL (ns:=ns) (vs:=vs) (by simpa using h)]
theorem bu.tup{es vs:List Expr}{ns:List Str}{js:List Nat}{ds:List aA}{kk k2:Nat}{tp vp pos:Pos}(h:kA C cx (ip cx ns vs) vs ds)(O:bD cx)(hn:namesOf es=aa ns)(hd:distinct ns=af)(hj:iH cx ns=aa js)(hsw:vR vs=af)(hz:vs.length<=100)(hlen:vs.length=ns.length):
  bu C cx (.Assign [.Tuple es kk tp] (.Tuple vs k2 vp) pos) (bO ((js.map sets).zip (ip cx ns vs)) ds):=by
 intro n call hc X0 Pn env ay ρ p s X A Q E hA S k hrm N;have N:bE C cx X0 Pn env ay A (@aI.rec (λJ=>ai) ai.stuck (λl p=>@Option.rec Fr (λJ=>ai) ai.stuck (λρ=>ai.next ρ p) (storeAll ((js.map sets).zip (ip cx ns vs)) l ρ)) (λe p=>ai.exc e ρ p) (bB ds call ρ p)) Q E s X:=N;simp only[Dk]at N;have hjl:=oG hj;have hol:(ip cx ns vs).length=js.length:=by simp only[sL hlen,hjl]
 simp only[exec_Assign_arm];refine az (IV ?_);simp only[jJ];refine IQ (IP ?_);refine eU (by decide) ?_;refine az (wpAny_Tuple (xJ h hc S k hrm N λl p₁ vals s₁ X1 S1 k₁ st hi ho J N1=>?_));refine ao hi.DG λhl1 hl2=>?_;refine⟨by simp only[bt];lia,?_⟩;refine kD (Av (A:=A) (E:=E) (env:=env) es ns js (ip cx ns vs) l vals hn hj hol (hl1.trans hol) (hl2.trans hol)) λL a1 a2 a3 a4 a5 a6 a7 zq=>?_;refine fo zq λa8 a9 a10 a11=>?_;simp only[a4 ρ]at N1;have kp1:=Kp.push (s:=s₁) { cls:=.type "tuple",data:=.seq vals.toArray };have hTup:(s₁.heap.push { cls:=.type "tuple",data:=.seq vals.toArray }).IsTuple s₁.heap.objs.size vals.toArray:=aU _ (Jh _ rfl) rfl ⟨0,rfl⟩;have hap:=a9 hd ho;have hitem:∀{s₂:IY},Kp s₁ s₂->∀e∈L,cZ cx e.x=aa e.j/\(e.own=af->cx.muts.contains e.x=af)/\Item C cx X1 Pn env ay ρ s₂ e.own e.v e.val:=λ{s₂} kp e he=>by
  refine⟨(a5 e he).1,λq=>?_,(a8 _ hi e he).kp S1 kp⟩;have:=a11 (λx o=>!o||cx.muts.contains x) uT e he;simpa [q]using this
 have fin:∀{s₂:IY}{ρ2:Fr},Kp s₁ s₂->ρ2=putAll L ρ->∀br,St C cx X0 Pn env ay ρ2 p₁ br X1->bf C A br.heap->Kf X1 X1 s₂ br->Q .next br:=λ{s₂ ρ2} kp eρ br S3 bJ kf=>by
  subst eρ;exact N1.cW S3 bJ ((S1.kp kp).2.trans kf)
 skip;rcases rD (env:=env) (kk:=kk) (tp:=tp) (k2:=k2) (vp:=vp) hn hsw with e|e<;>simp only[e]<;>refine az (IP ?_)
 ·show wpAny _ _ (assign (.Tuple es kk tp) env _ >>= λJ=>pure Flow.next) _ _ _;refine az (wpAny_assign_Tuple (s:={ s₁ with heap:=s₁.heap.push { cls:=.type "tuple",data:=.seq vals.toArray } }) (items:=vals.toArray) hrm.handled hTup (by simp only[a7,Ju,hl2,hol]) a6 λaT he=>?_);have kp2:Kp { s₁ with heap:=s₁.heap.push { cls:=.type "tuple",data:=.seq vals.toArray } } { s₁ with heap:=aT }:=⟨λb o eb=>he b o (λq=>by subst q;simp only[cN]at eb;exact nS eb) eb,rfl,rfl⟩;have kp:=kp1.trans kp2;rw[← a1];have gD:vals.toArray.toList=L.map (·.val):=by rw[a2]
  rw[gD];exact(S1.kp kp).1.kU O L (k₁.kp S1 kp) (λe he=>⟨(hitem kp e he).1,(hitem kp e he).2.1,(hitem kp e he).2.2,(a5 e he).2 _⟩) hap λbr S3 bJ kf=>IP (fin kp rfl br S3 bJ kf)
 ·show wpAny _ _ (rule "assign.swapped-stores" >>= λJ=>unpackItems _ ns.length ae >>= λitems=>assignInOrder (ns.reverse.map λn=>bindName env n) items.reverse >>= λJ=>pure Flow.next) _ _ _;refine az (wpAny_rule (IQ ?_));have en:ns.length=vals.toArray.size:=by simp only[Ju,hl2,hol,hjl]
  simp only[en];refine wpAny_unpackItems_tuple (s:={ s₁ with heap:=s₁.heap.push { cls:=.type "tuple",data:=.seq vals.toArray } }) hrm.handled hTup λaT he=>?_;have kp2:Kp { s₁ with heap:=s₁.heap.push { cls:=.type "tuple",data:=.seq vals.toArray } } { s₁ with heap:=aT }:=⟨λb o eb=>he b o (λq=>by subst q;simp only[cN]at eb;exact nS eb) eb,rfl,rfl⟩;have kp:=kp1.trans kp2;have lZ:(ns.reverse.map λn=>bindName env n)=((L.map λe=>{ e with t:=bindName env e.x }).reverse.map (·.t):List (IZ->Sem Unit)):=by
   simp only[← a3,← List.map_reverse,← List.map_reverse,List.map_map,List.map_map];rfl
  have gD:vals.toArray.toList.reverse=((L.map λe=>{ e with t:=bindName env e.x:Ent }).reverse.map (·.val):List IZ):=by
   simp only[← a2,← List.map_reverse,← List.map_reverse,List.map_map];rfl
  simp only[lZ,gD];have hp':apart (L.map λe=>{ e with t:=bindName env e.x }).reverse:=by
   unfold apart at hap ⊢;simp only[List.pairwise_reverse,List.pairwise_map];exact hap.imp λq=>⟨λe=>q.1 e.symm,λq1 q2 e=>q.2 q2 q1 e.symm⟩
  have hj':(L.map λe=>{ e with t:=bindName env e.x:Ent }).Pairwise λe f=>e.j≠f.j:=by
   simp only[List.pairwise_map];refine hap.imp_of_mem λ{e f} he hf q ej=>q.1 ?_;have he':=(fX (a5 e he).1).1;have hf':=(fX (a5 f hf).1).1;have ej:e.j=f.j:=ej;simp only[ej]at he';exact O.inj _ _ _ he' hf'
  refine az ((S1.kp kp).1.kU O _ (k₁.kp S1 kp) (λe he=>?_) hp' λbr S3 bJ kf=>IP (fin kp ?_ br S3 bJ kf))
  ·refine aj (List.mem_map.mp (List.mem_reverse.mp he)) λe' he' z0=>?_;clear he;subst z0;exact⟨(hitem kp e' he').1,(hitem kp e' he').2.1,(hitem kp e' he').2.2,λs Q q=>wpAny_bindName q⟩
  ·simp only[wd hj'];unfold putAll;simp only[List.foldl_map]
end
section
variable{cx:Cx}{X0 X X' Pn:AP}{env:Env}{ay s s' s'':IY}{ρ ρ':Fr}{p p':List V}{A:I0}{Q:Flow->IY->Prop}{E:IZ->IY->Prop}{h h':Heap}{n:Nat}{call:Call}{b:Bool}
theorem LstAt.map{a:I1}{vs ws:List IZ}{f:Array IZ->Array IZ}(x:LstAt h a vs)(e:f vs.toArray=ws.toArray)(hz:ws.length<=most):LstAt (h.update a (Obj.mapSeq f)) a ws:=by
 refine ao x λzz zq=>?_;refine aw zq λm hob=>?_;have e:∃n',Obj.mapSeq f (dn vs m)=dn ws n':=by
  refine aw (Obj.data_mapSeq (o:=dn vs m) (xs:=vs.toArray) (n:=m) rfl f) λn' hd'=>?_;refine⟨n',?_⟩;unfold Obj.mapSeq dn at *;simpa [e]using hd'
 refine aw e λn' e=>?_;exact⟨hz,n',by rw[Ji _ hob (by rw[e];rfl),e]⟩
theorem St.uY{x:Str}{j:Nat}{l l':List V}{a:I1}{f:Array IZ->Array IZ}{vs ws:List IZ}(S:St C cx X0 Pn env ay ρ p s X)(k:bf C A s.heap)(O:bD cx)(hx:cx.vars.lookup x=aa j)(hg:aJ j ρ=.own (.lst l))(ra:Reads env s.heap x (.ref a))
  (hl:LstAt s.heap a vs) (hf:f vs.toArray=ws.toArray) (hz:ws.length<=most) (hws:∀h',Tr X s.heap X h'->av C X h' l' ws):
  St C cx X0 Pn env ay (sets j ρ (.own (.lst l'))) p { s with heap:=s.heap.update a (Obj.mapSeq f) } X/\bf C A (s.heap.update a (Obj.mapSeq f))/\Kf X X s { s with heap:=s.heap.update a (Obj.mapSeq f) }:=by
 refine aQ (S.ownAt hx hg) λa' ra' hXa zz=>?_;clear zz;cases Reads.unique ra ra';have hs:Jk a s.heap (s.heap.update a (Obj.mapSeq f)):=Jl ..;have ho:aP C X (s.heap.update a (Obj.mapSeq f)) (.lst l') a:=by simp only[aP];exact au ws (hl.map hf hz) (hws _ (bK hs hXa))
 exact S.mut (tk:=s.toks) k O hx hg ra hs ho
theorem gR{α:Type}:∀(l:List α)(n:Nat)(x:α),lU l n x=l.take (min n l.length)++x::l.drop (min n l.length)
 | [],n,x=>by simp[lU]
 | a::r,0,x=>by show x::a::r=_;simp
 | a::r,n+1,x=>by
  show a::lU r n x=_;simp only[gR r n x,List.length_cons,Nat.succ_min_succ];rfl
theorem ur{a:I1}{vs:List IZ}{m:Nat}{x:Int}{u:Tok}{val:IZ}{Q:IZ->IY->Prop}{E:IZ->IY->Prop}(hob:s.heap.get? a=aa (dn vs m))(hfit:Builtin.List.listFitsIndex x=af)(hz:vs.length<=sizeLine)
  (hQ:Q .none { s with heap:=s.heap.update a (Obj.mapSeq λxs=>have k:=if x<0 then(x+(xs.size:Int)).toNat else min x.toNat xs.size;(xs.extract 0 k).push val++xs.extract k) }):
  wpAny (model C.prog C.w) A (PySem.call (.builtin "list.insert") [.ref a,.int x u,val]) Q E s:=
 call_meets F.slot_list_insert (au _ hob rfl) F.entry_list_insert (F.args_list_insert_3 _ _ _) (PySem.AutoSeq1.list_insert_list_int_val_1 a vs.toArray m x u val (by simp[hfit]) (by refine rwl Ju ?_;exact hz)) ⟨hob,hQ⟩
set_option tactic.hygienic true
theorem bu.insert{x:Str}{px ap cp pos:Pos}{i e:Expr}{di d:aA}{j:Nat}(hi:aL C cx af i di)(h:aL C cx ag e d)(hs:∀e' p',e≠.Starred e' p')(hs':∀e' p',i≠.Starred e' p')(O:bD cx)(hx:cx.vars.lookup x=aa j)(ok:bc x=af)(hl:(ap.endLine==cp.line)=af):
  bu C cx (.Expr (.Call (.Attribute (.Name x px) "insert" ap) [i,e] [] cp) pos) (sA (aJ j) (sets j) di d):=by
 intro n call hc X0 Pn env ay ρ p s X A Q E hA S k hrm N;refine aw (sM N.go) λl hg=>?_;have N:bE C cx X0 Pn env ay A (@Res.rec (λJ=>ai) ai.stuck (λw p=>@Res.rec (λJ=>ai) ai.stuck (λv p=>hZ (aJ j) (sets j) ρ p (wt w v)) (λe p=>ai.exc e ρ p) (d call ρ p)) (λe p=>ai.exc e ρ p) (di call ρ p)) Q E s X:=by
  have q:=N;unfold sA at q;rw[hg]at q;exact q
 refine wpAny_Expr_any ?_ S.gp;refine wpAny_Call_method (T := "list") (id := "list.insert") (ia rfl _ _) (by rw[aZ hs',aZ hs];rfl) hl F.plainAttrs_list F.slot_list_insert F.type_list_insert (S.recv hx hg ok λa ra ho=>?_);have ho':=ho;simp only[aP]at ho';refine aj ho' λvs z0 zz=>?_;refine ao z0 λzz zq=>?_;refine aw zq λm hob=>?_;refine⟨(au _ hob rfl),λa' ea=>by(injection ea with h9;subst h9);exact au _ hob rfl,?_⟩;rw[aZ hs',aZ hs];refine Ag (hi.st hc S k hrm N λw p₁ valw s₁ S1 k₁ kf hn hw N1=>h.st hc S1 k₁ hrm N1 λv bg val s₂ S2 k₂ kf2 cJ hv N2=>?_);rw[kI hg]at N2;have ra2:=(ra.ext hn.ext S.vw.aE).ext cJ.ext S1.vw.aE;refine jI (S2.ownAt hx hg) λa' ra' hXa hna ho h0 zz=>?_;clear hXa hna h0 zz;cases Reads.unique ra2 ra';refine oc (wt w v (.lst l)) (λhapp=>?_) λo happ=>?_
 ·rw[happ]at N2;exact absurd rfl N2.go
 ·
  rw[happ]at N2;induction w using V.casesOn<;>(first|exact nS happ|exact fT happ|(simp only[wt]at happ<;>(try cases happ)))
  case int w=>
   induction w using Int.casesOn with
   | negSucc q=>exact nS happ
   | ofNat q=>
    refine ao (cL happ) λhq happ=>?_;refine ao (gN happ) λhsh eo=>?_;obtain rfl:=Jd eo;refine aw hw.b.int λu z0=>?_;clear hw;subst z0;have ho':=ho;simp only[aP]at ho';refine aj ho' λvs z0 hvs=>?_;refine ao z0 λhz zq=>?_;refine aw zq λm hob=>?_;have hT:s₂.TypeIs (.ref a) "list" := au _ hob rfl;have hlen:=hvs.length;have hsz:=dZ hsh;have hli:lid=3000:=rfl;rw[blt_dec,decide_eq_true_eq]at hq;have hfit:Builtin.List.listFitsIndex (Int.ofNat q)=af:=by
     unfold Builtin.List.listFitsIndex;simp only[JH,Jn,decide_eq_true_eq];omega
    have hf:(λxs:Array IZ=>have k:=if (Int.ofNat q)<0 then((Int.ofNat q)+(xs.size:Int)).toNat else min (Int.ofNat q).toNat xs.size;(xs.extract 0 k).push val++xs.extract k) vs.toArray=(lU vs q val).toArray:=by
     have:¬(Int.ofNat q)<0:=by simp
     simp only[if_neg this,gR];apply Array.ext';have e:(min (Int.ofNat q).toNat vs.toArray.size)=min q vs.length:=by simp
     rw[e];simp[List.take_of_length_le]
    obtain⟨S3,bJ,kf3⟩:=S2.uY (f:=λxs:Array IZ=>have k:=if (Int.ofNat q)<0 then((Int.ofNat q)+(xs.size:Int)).toNat else min (Int.ofNat q).toNat xs.size;(xs.extract 0 k).push val++xs.extract k) k₂ O hx hg ra2 ⟨hz,m,hob⟩ hf (l':=lU l q v) (ws:=lU vs q val) (by rw[gR];simp[most];omega) (λh' T=>by
     rw[gR,gR,← hlen];exact((hvs.take _).tr T).append (.cons (aq.tr T hv) ((hvs.drop _).tr T)))
    have hQ:=N2.cW S3 bJ kf3;exact ur hob hfit (by rw[bt];omega) hQ
end
section
variable{cx:Cx}{X0 X X' Pn:AP}{env:Env}{ay s s' s'':IY}{ρ ρ':Fr}{p p':List V}{A:I0}{Q:Flow->IY->Prop}{E:IZ->IY->Prop}{h h':Heap}{n:Nat}{call:Call}{b:Bool}
theorem mr:∀{l l':List V}{v:V},fZ l=aa (l',v)->l=l'++[v]
 | [],_,_,e=>by exact nS e
 | [v],_,_,e=>by refine ao (bU e) λz0 z1=>?_;subst z0;clear e;subst z1;rfl
 | v::w::r,l',x,e=>by
  unfold fZ at e;refine oc (fZ (w::r)) (λq=>?_) λy q=>?_
  ·replace e:=q▸e;exact nS e
  ·replace e:=q▸e;refine ao (bU e) λz0 z1=>?_;subst z0;clear e;subst z1;refine rwl (mr q) ?_;rfl
theorem av.snoc:∀{l:List V}{v:V}{vs:List IZ},av C X h (l++[v]) vs->∃ws y,vs=ws++[y]/\av C X h l ws/\aq C X h v y
 | [],v,vs,r=>by
  dsimp only[List.nil_append,av]at r;refine aW r λy r z0 q z1=>?_;subst z0;clear r;subst z1;exact bX ([]) y rfl .nil q
 | x::l,v,vs,r=>by
  dsimp only[List.cons_append,av]at r;refine xs23 vs r λz r q t=>?_;refine xs23 r t.snoc λws y a b=>?_;exact bX (z::ws) y rfl (.cons q a) b
theorem pY:∀(ws:List IZ)(y:IZ),(ws++[y]).eraseIdx ws.length=ws
 | [],_=>rfl
 | a::r,y=>by show a::(r++[y]).eraseIdx r.length=_;rw[pY r y]
theorem wF(ws:List IZ)(y:IZ):((ws++[y]).toArray).eraseIdxIfInBounds ((ws++[y]).toArray.size-1)=ws.toArray:=by
 have e:(ws++[y]).toArray.size-1=ws.length:=by simp
 refine rwl e ?_;simp[Array.eraseIdxIfInBounds,pY]
theorem uS{y:Str}{py ap cp:Pos}{kk:Nat}{l l':List V}{v:V}{Q₁:IZ->IY->Prop}(S:St C cx X0 Pn env ay ρ p s X)(k:bf C A s.heap)(O:bD cx)(hx:cx.vars.lookup y=aa kk)(hg:aJ kk ρ=.own (.lst l))(ok:bc y=af)(hl:(ap.endLine==cp.line)=af)
  (e:fZ l=aa (l',v)) (hQ:∀val s',St C cx X0 Pn env ay (sets kk ρ (.own (.lst l'))) p s' X->bf C A s'.heap->Kf X X s s'->aq C X s'.heap v val->Q₁ val s'):
  wpAny (model C.prog C.w) A (eval (.Call (.Attribute (.Name y py) "pop" ap) [] [] cp) env) Q₁ E s:=by
 refine wpAny_Call_method (T := "list") (id := "list.pop") (ia rfl _ _) (by rfl) hl F.plainAttrs_list F.slot_list_pop F.type_list_pop (S.recv hx hg ok λa ra ho=>?_);have ho':=ho;dsimp only[aP]at ho';refine aj ho' λvs z0 hvs=>?_;obtain⟨hz,m,hob⟩:=z0;refine⟨(au _ hob rfl),λa' ea=>by(injection ea with h9;subst h9);exact au _ hob rfl,Gx ?_⟩;have hT:s.TypeIs (.ref a) "list" := au _ hob rfl;simp only[mr e]at hvs;refine aW hvs.snoc λws z z0 hws hz'=>?_;clear hvs;subst z0;have hm:most=8000:=rfl;have hzz:=hz;simp only[List.length_append,List.length_singleton]at hzz;refine bM (S.uY (f:=λxs=>xs.eraseIdxIfInBounds ((ws++[z]).toArray.size-1)) (l':=l') (ws:=ws) k O hx hg ra ⟨hz,m,hob⟩ (wF ws z) (JA hzz) λh' T=>hws.tr T) λS1 k₁ kf=>?_;refine call_meets F.slot_list_pop hT F.entry_list_pop (F.args_list_pop_1 _) (PySem.MeetsSeq.list_pop_last a (ws++[z]).toArray m z (by simp) (by simp only[Ju,bt];lia)) ⟨hob,hQ _ _ S1 k₁ kf (aq.tr kf.tr hz')⟩
noncomputable def Dh(ts:List bT)(v:V)(ρ:Fr)(p:List V):ai:=match ts with
 | [t]=>.next (t ρ (.val v)) p
 | _=>match itemsOf v with
  | some m=>match storeAll (vals ts) m ρ with
   | some ρ=>.next ρ p
   | none=>.stuck
  | none=>.stuck
theorem uK{ts:List bT}{g:d6}{st:bT}(e:jj ts g st call ρ p≠.stuck):∃l l' v,g ρ=.own (.lst l)/\fZ l=aa (l',v)/\jj ts g st call ρ p=Dh ts v (st ρ (.own (.lst l'))) p:=by
 have h1:∃l,g ρ=.own (.lst l):=by
  delta jj at e
  split at e
  ·exact⟨_,‹_›⟩
  ·exact absurd rfl e
 refine aw h1 λl hg=>?_;have h2:∃l' v,fZ l=aa (l',v):=by
  delta jj at e;simp only[hg]at e
  split at e
  ·exact fU _ _ (‹_›)
  ·exact absurd rfl e
 refine dX h2 λl' v hl=>?_;refine iG l l' v hg hl ?_;delta jj Dh;simp only[hg,hl]
 try rfl
theorem bu.pop{x y:Str}{px py ap cp pos:Pos}{j kk:Nat}(O:bD cx)(ht:cZ cx x=aa j)(hy:cx.vars.lookup y=aa kk)(ok:bc y=af)(hl:(ap.endLine==cp.line)=af):
  bu C cx (.Assign [.Name x px] (.Call (.Attribute (.Name y py) "pop" ap) [] [] cp) pos) (jj [sets j] (aJ kk) (sets kk)):=by
 intro n call hc X0 Pn env ay ρ p s X A Q E hA S k hrm N;refine dz (uK N.go) λl l' v hg he e=>?_;rw[e]at N;exact wpAny_Assign_Name (uS S k O hy hg ok hl he λval s₁ S1 k₁ kf hv=>S1.store O k₁ ht (sl:=.val v) hv (aq.iq S1.loc hv) (λJ q=>nomatch q) λs₂ S2 k₂ kf2 J=>(N.to kf).cW S2 k₂ kf2) (gG rfl)
theorem bu.HX{es:List Expr}{ns:List Str}{js:List Nat}{k1:Nat}{tp:Pos}{y:Str}{py ap cp pos:Pos}{kk:Nat}(O:bD cx)(hn:namesOf es=aa ns)(hd:distinct ns=af)(hj:iH cx ns=aa js)(h1:ns.length≠1)(hy:cx.vars.lookup y=aa kk)(ok:bc y=af)(hl:(ap.endLine==cp.line)=af):
  bu C cx (.Assign [.Tuple es k1 tp] (.Call (.Attribute (.Name y py) "pop" ap) [] [] cp) pos) (jj (js.map sets) (aJ kk) (sets kk)):=by
 intro n call hc X0 Pn env ay ρ p s X A Q E hA S k hrm N;refine dz (uK N.go) λl l' v hg he e=>?_;have hl1:js.length≠1:=by refine rwl (oG hj) ?_;exact h1
 have e:jj (js.map sets) (aJ kk) (sets kk) call ρ p=(match itemsOf v with
    | some m=>match storeAll (vals (js.map sets)) m (sets kk ρ (.own (.lst l')))with
     | some ρ=>.next ρ p
     | none=>.stuck
    | none=>.stuck):=by
  refine rwl e ?_
  match js,hl1 with
  | [],_=>rfl
  | [_],q=>exact absurd rfl q
  | _::_::_,_=>rfl
 replace N:=e▸N;refine wpAny_Assign_stores (uS S k O hy hg ok hl he λval s₁ S1 k₁ kf hv=>?_) jJ (mB λJ J J q=>by exact(nomatch q));have N1:=N.to kf;show wpAny _ _ (assign (.Tuple es k1 tp) env val) _ _ _;refine oc (itemsOf v) (λhm=>?_) λm hm=>?_
 ·replace N1:=hm▸N1;exact absurd rfl N1.go
 ·
  replace N1:=hm▸N1;induction hst:storeAll (vals (js.map sets)) m (sets kk ρ (.own (.lst l')))using Option.casesOn with
  | none=>simp only[hst]at N1;exact absurd rfl N1.go
  | some ρ'=>
   simp only[hst]at N1;exact kQ S1 k₁ O hrm.handled hn hd hj hv hm hst λs₂ S2 k₂ kf2=>N1.cW S2 k₂ kf2
theorem jc{α:Type}:∀(l:List α)(n:Nat),fD l n=l.eraseIdx n
 | [],_=>rfl
 | a::r,0=>rfl
 | a::r,n+1=>by show a::fD r n=_;refine rwl (jc r n) ?_;rfl
theorem av.erase:∀{l:List V}{vs:List IZ}(n:Nat),av C X h l vs->av C X h (l.eraseIdx n) (vs.eraseIdx n)
 | [],_,n,r=>by dsimp only[av]at r;subst r;simpa using av.nil
 | x::xs,_,0,r=>by
  dsimp only[av]at r;refine aW r λv q z0 a b=>?_;clear r;subst z0;exact b
 | x::xs,_,n+1,r=>by
  dsimp only[av]at r;refine aW r λv q z0 a b=>?_;clear r;subst z0;exact .cons a (b.erase n)
theorem kh{α β:Type}(f:α->β):∀(l:List α)(n:Nat),(l.eraseIdx n).map f=(l.map f).eraseIdx n
 | [],_=>rfl
 | a::r,0=>rfl
 | a::r,n+1=>by simp[kh f r n]
theorem m8{w:World}:∀(l:List V)(n:Nat),bq w (l.eraseIdx n)=(bq w l).eraseIdx n
 | [],_=>by simp[bq]
 | a::r,0=>by simp[bq]
 | a::r,n+1=>by simp[bq,m8 r n]
theorem qX{d:I1}{ks xs:List V}{k:V}{key:IZ}{o:Option Nat}{Q:Option I2->IY->Prop}{E:IZ->IY->Prop}(hd:aP C X s.heap (.bh ks xs) d)(hX:X d)(hx:keyOk 8 k=af)(hkey:aq C X s.heap k key)(hu:A.units+100<cLine)(hf:dD ks k 0=aa o)
  (hnone:o=ae->∀tk,Q ae { s with toks:=tk })
  (hsome:∀m v,o=aa m->eY xs m=aa v->∀e h' tk,Jk d s.heap h'->aP C X h' (.bh (fD ks m) (fD xs m)) d->aq C X s.heap v e.val->Q (aa e) { s with heap:=h',toks:=tk }):
  wpAny (model C.prog C.w) A (Builtin.Dict.takeOut d key) Q E s:=by
 dsimp only[aP]at hd;refine mw hd λes z0 hks hxs hh hok=>?_;obtain⟨⟨hsys,hz⟩,n,ho⟩:=z0;have hm:most=8000:=rfl;delta Builtin.Dict.takeOut
 try with_reducible refine IS ?_
 refine az (oN (X:=X) 8 k key _ _ _ _ hx hkey (JE (JG (by decide) _) hu) λtk=>az (ma (X:=X) (s:={ s with toks:=tk }) ho hks hh hok hx hkey hu hf ?_));induction o using Option.casesOn with
 | none=>exact IP (hnone rfl tk)
 | some m=>
  refine aj ((ents hks hh hok hf).hit m rfl) λe he zz=>?_;refine IQ (wpAny_dictEntries (s:={ s with toks:=tk }) ho rfl ?_);have he':es.toArray[m]?=aa e:=by simpa using he
  rw[he'];refine az (wpAny_updateDictKeys (s:={ s with toks:=tk }) ho rfl ?_ (by rw[bt,Ju];omega));have hs:Jk d s.heap (s.heap.update d (Obj.mapDictKeys λx=>x.eraseIdxIfInBounds m)):=Jl ..;have T:=bK (X:=X) hs hX;have hlt:=(Jw.mp he).1;have hlen:=hxs.length;rw[Jv]at hlen;have hv:xs[m]?=aa xs[m]:=Jt (hlen▸hlt);refine aj (hxs.get hv) λv' hv' hr'=>?_;rw[List.getElem?_map,he]at hv';obtain rfl:=Jd hv';refine IP (hsome m xs[m] rfl (by rw[hJ];exact hv) e _ tk hs ?_ hr');dsimp only[aP];refine qi (es.eraseIdx m) ⟨⟨hsys,?_⟩,n+1,?_⟩ ?_ ?_ ?_ ?_
  ·rw[List.length_eraseIdx];split<;>omega
  ·have e:Obj.mapDictKeys (λx=>x.eraseIdxIfInBounds m) (dH es n)=dH (es.eraseIdx m) (n+1):=by
    delta Obj.mapDictKeys dH;simp
   rw[Ji _ ho (by rw[e];rfl),e]
  ·rw[kh,jc];exact(hks.tr T).erase m
  ·rw[kh,jc];exact(hxs.tr T).erase m
  ·rw[kh,hh,jc,m8]
  ·intro q hq;rw[jc]at hq;exact hok q (List.mem_of_mem_eraseIdx hq)
end
section
variable{cx:Cx}{X0 X X' Pn:AP}{env:Env}{ay s s' s'':IY}{ρ ρ':Fr}{p p':List V}{A:I0}{Q:Flow->IY->Prop}{E:IZ->IY->Prop}{h h':Heap}{n:Nat}{call:Call}{b:Bool}
noncomputable def we(t st:bT)(ks vs:List V)(k d:V)(ρ:Fr)(p:List V):ai:=match keyOk 8 k with
 | true=>match dD ks k 0 with
  | some (aa n)=>match eY vs n with
   | some v=>.next (t (st ρ (.own (.bh (fD ks n) (fD vs n)))) (.val v)) p
   | none=>.stuck
  | some ae=>.next (t ρ (.val d)) p
  | none=>.stuck
 | false=>.stuck
theorem yC{t:bT}{g:d6}{st:bT}{dk dd:aA}(e:lJ t g st dk dd call ρ p≠.stuck):∃ks vs,g ρ=.own (.bh ks vs)/\
  lJ t g st dk dd call ρ p=@Res.rec (λJ=>ai) ai.stuck (λk p=>@Res.rec (λJ=>ai) ai.stuck (λd p=>we t st ks vs k d ρ p) (λe p=>ai.exc e ρ p) (dd call ρ p)) (λe p=>ai.exc e ρ p) (dk call ρ p):=by
 have h1:∃ks vs,g ρ=.own (.bh ks vs):=by
  delta lJ at e
  split at e
  ·exact fU _ _ (‹_›)
  ·exact absurd rfl e
 refine dX h1 λks vs hg=>?_;refine gw ks vs hg ?_;delta lJ we;simp only[hg];induction dk call ρ p using Res.casesOn with
 | stuck=>rfl
 | exc k q=>rfl
 | ok k q=>dsimp only;induction dd call ρ q using Res.casesOn<;>rfl
theorem zm{a:I1}{ks xs:List V}{k:V}{key val:IZ}{o:Option Nat}{Q E:IZ->IY->Prop}(hd:aP C X s.heap (.bh ks xs) a)(hX:X a)(hx:keyOk 8 k=af)(hkey:aq C X s.heap k key)(hu:A.units+200<cLine)(hf:dD ks k 0=aa o)
  (hnone:o=ae->∀tk,Q val { s with toks:=tk })
  (hsome:∀m v,o=aa m->eY xs m=aa v->∀y h' tk,Jk a s.heap h'->aP C X h' (.bh (fD ks m) (fD xs m)) a->aq C X s.heap v y->Q y { s with heap:=h',toks:=tk }):
  wpAny (model C.prog C.w) A (PySem.call (.builtin "dict.pop") [.ref a,key,val]) Q E s:=by
 have ho':=hd;dsimp only[aP]at ho';refine mw ho' λes z0 hks hxs hh hok=>?_;obtain⟨⟨hsys,hz⟩,m,hob⟩:=z0;have hT:s.TypeIs (.ref a) "dict" := au _ hob rfl;refine IU F.slot_dict_pop hT F.entry_dict_pop ?_ (F.args_dict_pop_3 _ _ _);delta Builtin.«dict.pop»;refine IQ ?_;delta Builtin.Dict.keyAndDefault;refine IQ (wpAny_notOrdered_dict hT ?_);skip;refine IP ?_;dsimp only;have none_:∀tk,o=ae->wpAny (model C.prog C.w) A.in1 (Builtin.Dict.missedRemoval a key >>= λJ=>rule "dict.pop.default" >>= λJ=>PySem.ret val) (λfin s'=>∃v,fin=.done (.ret v)/\Q v s') E { s with toks:=tk }:=λtk e=>
  IQ (wpAny_missedRemoval_other hsys (IQ (wpAny_rule (IP (au val rfl (hnone e tk))))))
 have tk_some:∀m v,o=aa m->eY xs m=aa v->∀(en:I2) h' tk,Jk a s.heap h'->aP C X h' (.bh (fD ks m) (fD xs m)) a->aq C X s.heap v en.val->wpAny (model C.prog C.w) A.in1 (letGo [en.key] [en.val] >>= λJ=>PySem.ret en.val) (λfin s'=>∃v,fin=.done (.ret v)/\Q v s') E { s with heap:=h',toks:=tk }:=λm v e hv en h' tk hs ho hr=>
  IQ (wpAny_letGo (IP (au en.val rfl (hsome m v e hv en.val h' tk hs ho hr))))
 have hu':A.in1.units+100<cLine:=by show A.units+1+100<cLine;lia
 split
 ·refine IQ (IP ?_);simp only[Jo,if_false];refine IQ (qX hd hX hx hkey hu' hf (λe tk=>?_) λm v e hv en h' tk hs ho hr=>?_)
  ·dsimp only[Option.isNone_none,if_true];exact none_ tk e
  ·dsimp only[Option.isNone_some,Jo,if_false];exact tk_some m v e hv en h' tk hs ho hr
 ·refine IQ (wpAny_dictEntries hob rfl (IQ (IP ?_)));induction hes:es.toArray.isEmpty using Bool.casesOn with
  | true=>
   have he:es=[]:=by simpa using hes
   clear hxs hz hob hes;subst he;have hk0:ks=[]:=by have:=hks.length;simpa using this.symm
   clear hd ho' hok hks hh;subst hk0;have ho:o=ae:=by have hf:(aa ae:Option (Option Nat))=aa o:=hf;clear hnone none_ hsome tk_some;obtain rfl:=Jd hf;rfl
   simp only[if_true];refine IQ (wpAny_rule (IQ (IP ?_)));dsimp only[Option.isNone_none,if_true];exact none_ s.toks ho
  | false=>
   simp only[Jo,if_false];refine IQ (qX hd hX hx hkey hu' hf (λe tk=>?_) λm v e hv en h' tk hs ho hr=>?_)
   ·dsimp only[Option.isNone_none,if_true];exact none_ tk e
   ·dsimp only[Option.isNone_some,Jo,if_false];exact tk_some m v e hv en h' tk hs ho hr
theorem bu.HY{x y:Str}{px py ap cp pos:Pos}{j kk:Nat}{ek ed:Expr}{dk dd:aA}(hk':aL C cx ag ek dk)(hd':aL C cx ag ed dd)(hs':∀e' p',ek≠.Starred e' p')(hs:∀e' p',ed≠.Starred e' p')(O:bD cx)(ht:cZ cx x=aa j)(hy:cx.vars.lookup y=aa kk)(ok:bc y=af)(hl:(ap.endLine==cp.line)=af):
  bu C cx (.Assign [.Name x px] (.Call (.Attribute (.Name y py) "pop" ap) [ek,ed] [] cp) pos) (lJ (sets j) (aJ kk) (sets kk) dk dd):=by
 intro n call hc X0 Pn env ay ρ p s X A Q E hA S k hrm N;refine bY (yC N.go) λks xs hg e=>?_;rw[e]at N;refine wpAny_Assign_Name (wpAny_Call_method (T := "dict") (id := "dict.pop") (ia rfl _ _) (by rw[aZ hs',aZ hs];rfl) hl F.plainAttrs_dict F.slot_dict_pop F.type_dict_pop (S.recv hy hg ok λa ra ho=>?_)) (gG rfl);have ho':=ho;dsimp only[aP]at ho';refine aj ho' λes z0 zz=>?_;obtain⟨_,m,hob⟩:=z0;refine⟨(au _ hob rfl),λa' ea=>by(injection ea with h9;subst h9);exact au _ hob rfl,?_⟩;rw[aZ hs',aZ hs];refine Ag (hk'.st hc S k hrm N λw p₁ valw s₁ S1 k₁ kf hn hw N1=>hd'.st hc S1 k₁ hrm N1 λv bg val s₂ S2 k₂ kf2 cJ hv N2=>?_);have hw:aq C X s₂.heap w valw:=aq.tr kf2.tr hw;have ra2:=(ra.ext hn.ext S.vw.aE).ext cJ.ext S1.vw.aE;refine jI (S2.ownAt hy hg) λa' ra' hXa hna ho h0 zz=>?_;clear hna h0 zz;cases Reads.unique ra2 ra';unfold we at N2;refine kY (keyOk 8 w) (λhkey=>?_) λhkey=>?_
 ·simp only[hkey]at N2;exact absurd rfl N2.go
 ·
  simp only[hkey]at N2;induction hf:dD ks w 0 using Option.casesOn with
  | none=>simp only[hf]at N2;exact absurd rfl N2.go
  | some o=>
   have hu:=hrm.units;refine zm ho hXa hkey hw (by lia) hf (λe tk=>?_) λm v' e hv' y h' tk hs ho' hr=>?_
   ·subst e;simp only[hf]at N2;have kp:Kp s₂ { s₂ with toks:=tk }:=.toks tk;refine ao (S2.kp kp) λS3 kf3=>?_;exact S3.store O (k₂.kp S2 kp) ht (sl:=.val v) hv (aq.iq S3.loc hv) (λJ q=>nomatch q) λeQ S4 k4 kf4 J=>N2.cW S4 k4 (kf3.trans kf4)
   ·subst e;simp only[hf,hv']at N2;refine bM (S2.mut (tk:=tk) k₂ O hy hg ra2 hs ho') λS3 bJ kf3=>?_;have hr3:aq C X h' v' y:=hr.tr (bK hs hXa);exact S3.store O bJ ht (sl:=.val v') hr3 (aq.iq S3.loc hr3) (λJ q=>nomatch q) λeQ S4 k4 kf4 J=>N2.cW S4 k4 (kf3.trans kf4)
end
section
variable{cx:Cx}{X0 X X' Pn:AP}{env:Env}{ay s s' s'':IY}{ρ ρ':Fr}{p p':List V}{A:I0}{Q:Flow->IY->Prop}{E:IZ->IY->Prop}{h h':Heap}{n:Nat}{call:Call}{b:Bool}
theorem mI{l:I1}{vs:List IZ}{i:Int}{t:Tok}{v:IZ}{Q:Unit->IY->Prop}{E:IZ->IY->Prop}(hl:LstAt s.heap l vs)(h0:0<=i)(hi:i<vs.length)
  (hQ:∀h',Jk l s.heap h'->LstAt h' l (vs.set i.toNat v)->Q () { s with heap:=h' }):wpAny (model C.prog C.w) A (setItem (.ref l) (.int i t) v) Q E s:=by
 have hl0:=hl;refine ao hl λhz zq=>?_;refine aw zq λn ho=>?_;have hm:most=8000:=rfl;have hT:s.TypeIs (.ref l) "list" := au _ ho rfl;have hfit:i<2^63:=by lia
 delta setItem
 try with_reducible refine IS ?_
 first|refine az (IP ?_)|skip
 refine az (wpAny_sequenceKey hT (by decide) ?_);refine az (wpAny_callSpecial?_slot (name:=Jf "__setitem__") hT slot_list_setitem
  (IU slot_list_setitem hT entry_list_setitem ?_ (args_list_setitem _ _ _)))
 show wpAny _ _ (Builtin.List.listSubscript? (.int i t) >>= _) _ _ s;refine az (wpAny_listSubscript_int (fitsIndex_of h0 hfit) ?_);clear hfit;refine aw (Int.eq_ofNat_of_zero_le h0) λj z0=>?_;clear h0;subst z0;have hj:j<vs.length:=by lia
 have hx':vs.toArray[j]?=aa vs[j]:=by simp
 skip;refine az (az (wpAny_seqItemAt ho rfl (IP ?_)));refine rwl hx' ?_;skip;have hfin:LstAt (s.heap.update l (Obj.mapSeq (·.setIfInBounds j v))) l (vs.set j v):=hl0.map (by simp) (by simpa using hz);refine az (wpAny_setSeqItemAt ho rfl ?_)
 first
  | exact az (IP (IP (au .none rfl (IP (hQ _ (Jl ..) hfin)))))
  | exact IP ⟨.none,rfl,IP (hQ _ (Jl ..) hfin)⟩
theorem sz{d:I1}{ks xs ks' xs':List V}{k v:V}{key val:IZ}{Q:Unit->IY->Prop}{E:IZ->IY->Prop}(hd:aP C X s.heap (.bh ks xs) d)(hX:X d)(hput:eV ks xs k v=aa (ks',xs'))
  (hkey:aq C X s.heap k key) (hval:aq C X s.heap v val) (hu:A.units+200<cLine)
  (hQ:∀h' tk,Jk d s.heap h'->aP C X h' (.bh ks' xs') d->Q () { s with heap:=h',toks:=tk }):wpAny (model C.prog C.w) A (setItem (.ref d) key val) Q E s:=by
 have rV:=hd;dsimp only[aP]at hd;refine aj hd λes z0 zz=>?_;obtain⟨_,n,ho⟩:=z0;have hT:s.TypeIs (.ref d) "dict" := au _ ho rfl;delta setItem
 try with_reducible refine IS ?_
 refine az (wpAny_sequenceKey hT (by decide) ?_);refine az (wpAny_callSpecial?_slot (name:=Jf "__setitem__") hT slot_dict_setitem
  (IU slot_dict_setitem hT entry_dict_setitem ?_ (args_dict_setitem _ _ _)))
 skip;refine az (wpAny_notOrdered_dict hT ?_);show wpAny _ _ (dictSet d key val >>= _) _ _ s;exact az (nd rV hX hput hkey hval (by show A.units+1+100<cLine;lia) λh' tk hs' ho'=>IP (au .none rfl (IP (hQ h' tk hs' ho'))))
theorem wc{l l':List V}{i:Int}{v:V}(e:putAt l i v=aa l'):∃n,i=Int.ofNat n/\n<l.length/\l'=l.set n v:=by
 induction i using Int.casesOn with
 | negSucc n=>exact nS e
 | ofNat n=>
  have e:(@Jp (λJ=>Option (List V)) ae (aa (setAt l n v)) (Nat.blt n (dA l)))=aa l':=e;refine ao (cL e) λq e=>?_;obtain rfl:=Jd e;rw[blt_dec,decide_eq_true_eq,cj]at q;exact aU n rfl q (oJ _ _ _)
theorem St.aE{P:I1}{h':Heap}{p':List V}{vs:List IZ}(S:St C cx X0 Pn env ay ρ p s X)(k:bf C A s.heap)(hP:Pn P)(hs:Jk P s.heap h')(hl:LstAt h' P vs)(hr:av C X h' p' vs):
  St C cx X0 Pn env ay ρ p' { s with heap:=h' } X/\bf C A h'/\Kf X X s { s with heap:=h' }:=by
 refine aj (S.vw.aE.at_ P hP) λws z0 hw=>?_;obtain⟨hz,m,hob⟩:=z0;have hX:=S.vw.pnX P hP;have hn:Nx C Pn s { s with heap:=h' }:=by
  refine⟨⟨λb o e=>hs.extBut b o (λq=>?_) (S.vw.base b o e),λb o e q J=>hs.extBut b o (λr=>q (r▸hP)) e,λb o e q=>aU o (hs.extBut b o (λr=>q (r▸hP)) e) rfl (.inr rfl),λX x=>x.but (W:=λb=>b=P) (λb o e q=>hs.extBut b o q e) (λb q=>q ▸ .jT hob rfl (by decide)) λb q=>.inl q.1⟩,rfl,rfl⟩;clear hP hs hl hob;subst q;replace e:=(S.vw.fresh _ hX)▸e;exact nS e
 have hp:bA C X Pn h' p':=⟨S.vw.aE.one,λP' hP'=>by obtain rfl:=S.vw.aE.one P P' hP hP';exact au vs hl hr⟩;refine ao (S.next hn hp) λS' kf=>?_;exact⟨S',k.ext hn.ext S.vw.aE,kf⟩
noncomputable def putK(g:d6)(st:bT)(di:aA)(call:Call)(ρ:Fr)(v:V)(p:List V):ai:=@Res.rec (λJ=>ai) ai.stuck (λi p=>jP g st ρ p λo=>oO o i v) (λe p=>ai.exc e ρ p) (di call ρ p)
theorem yB{g:d6}{st:bT}{di d:aA}{o:V}(hg:g ρ=.own o):fq g st di d call ρ p=@Res.rec (λJ=>ai) ai.stuck (λv p=>putK g st di call ρ v p) (λe p=>ai.exc e ρ p) (d call ρ p):=by
 delta fq putK;rw[hg]
theorem yA{g:d6}{st:bT}{di d:aA}(hg:g ρ=.aE):fq g st di d call ρ p=@Res.rec (λJ=>ai) ai.stuck (λv p=>putK g st di call ρ v p) (λe p=>ai.exc e ρ p) (d call ρ p):=by
 delta fq putK;rw[hg]
theorem xj{g:d6}{st:bT}{di d:aA}(h1:∀o,g ρ≠.own o)(h2:g ρ≠.aE):fq g st di d call ρ p=@Res.rec (λJ=>ai) ai.stuck (λJ J=>ai.stuck) (λe p=>ai.exc e ρ p) (d call ρ p):=by
 delta fq;induction hg:g ρ using Slot.casesOn with
 | own o=>exact absurd hg (h1 o)
 | aE=>exact absurd hg h2
 | _=>rfl
theorem sJ{l:List V}{i v o:V}(e:oO (.lst l) i v=aa o):∃n l',i=.int (Int.ofNat n)/\n<l.length/\l'=l.set n v/\o=.lst l':=by
 induction i using V.casesOn with
 | int i=>
  have e:(@Option.rec (List V) (λJ=>Option V) ae (λl=>aa (.lst l)) (putAt l i v))=aa o:=e;refine oc (putAt l i v) (λhp=>?_) λl' hp=>?_
  ·replace e:=hp▸e;exact nS e
  ·replace e:=hp▸e;obtain rfl:=Jd e;refine xs13 i (wc hp) λn h1 h2=>?_;exact d8 n l' rfl h1 h2 rfl
 | _=>exact nS e
theorem yJ{ks xs:List V}{i v o:V}(e:oO (.bh ks xs) i v=aa o):∃ks' xs',eV ks xs i v=aa (ks',xs')/\o=.bh ks' xs':=by
 have e:(@Option.rec (List V×List V) (λJ=>Option V) ae (λq=>aa (.bh q.1 q.2)) (eV ks xs i v))=aa o:=e;induction hp:eV ks xs i v using Option.casesOn with
 | none=>replace e:=hp▸e;exact nS e
 | some q=>replace e:=hp▸e;obtain rfl:=Jd e;exact gw q.1 q.2 rfl rfl
theorem bu.put{x:Str}{px sp pos:Pos}{i e:Expr}{di d:aA}{j:Nat}(h:aL C cx ag e d)(hi:aL C cx af i di)(O:bD cx)(hx:cx.vars.lookup x=aa j)(ok:bc x=af)(hn:iN e=af):
  bu C cx (.Assign [.Subscript (.Name x px) i sp] e pos) (fq (aJ j) (sets j) di d):=by
 intro n call hc X0 Pn env ay ρ p s X A Q E hA S k hrm N;refine wpAny_Assign_Subscript ?_ (gG hn);have own:∀o,aJ j ρ=.own o->wpAny (model C.prog C.w) A (eval e env) (λv s₁=>wpAny (model C.prog C.w) A (eval (.Name x px) env) (λov s₂=>wpAny (model C.prog C.w) A (eval i env) (λiv br=>wpAny (model C.prog C.w) A (setItem ov iv v) (λJ=>Q .next) E br) E s₂) E s₁) E s:=λo hg=>by
  rw[yB hg]at N;refine h.st hc S k hrm N λv p₁ val s₁ S1 k₁ kf1 wy hv N1=>?_;refine S1.recv hx hg ok λa ra ho=>?_;refine hi.st hc S1 k₁ hrm N1 λw bg valw s₂ S2 k₂ kf2 cJ hw N2=>?_;have hv:aq C X s₂.heap v val:=aq.tr kf2.tr hv;have ra2:=ra.ext cJ.ext S1.vw.aE;refine jI (S2.ownAt hx hg) λa' ra' hXa hna ho h0 zz=>?_;clear hna h0 zz;cases Reads.unique ra2 ra';have hu:=hrm.units;refine oc (oO o w v) (λhput=>?_) λo' hput=>?_
  ·unfold jP at N2;simp only[hg,hput]at N2;exact absurd rfl N2.go
  ·
   have N2:bE C cx X0 Pn env ay A (ai.next (sets j ρ (.own o')) bg) Q E s₂ X:=by
    have q:=N2;unfold jP at q;simp only[hg,hput,pW]at q;exact q
   induction o using V.casesOn with
   | lst l=>
    refine dO (sJ hput) λm l' z0 hm z1 z2=>?_;subst z0;subst z1;clear hput;subst z2;refine aw hw.b.int λu z0=>?_;clear hw;subst z0;have ho':=ho;dsimp only[aP]at ho';refine aj ho' λvs hl hvs=>?_;have hlen:=hvs.length;refine mI hl (by simp) (by dsimp only[JH];lia) λh' hs hl'=>?_;have iV:aP C X h' (.lst (l.set m v)) a:=by dsimp only[aP];exact au _ hl' (av.set (hvs.tr (bK hs hXa)) (aq.tr (bK hs hXa) hv))
    refine bM (S2.mut (tk:=s₂.toks) k₂ O hx hg ra2 hs iV) λS3 bJ kf3=>?_;exact N2.cW S3 bJ kf3
   | bh ks xs=>
    refine bY (yJ hput) λks' xs' hp z0=>?_;clear hput;subst z0;have hk:keyOk 8 w=af:=by
     induction hq:keyOk 8 w using Bool.casesOn with
     | true=>rfl
     | false=>unfold eV at hp;rw[hq]at hp;exact nS hp
    refine sz ho hXa hp (hw.b.tl hk) hv (by lia) λh' tk hs iV=>?_;refine bM (S2.mut (tk:=tk) k₂ O hx hg ra2 hs iV) λS3 bJ kf3=>?_;exact N2.cW S3 bJ kf3
   | _=>exact nS hput
 by_cases hpen:aJ j ρ=.aE
 ·rw[yA hpen]at N;refine h.st hc S k hrm N λv p₁ val s₁ S1 k₁ kf1 wy hv N1=>?_;refine aQ (S1.vw.vars x j hx (by rw[hpen];simp)) λpv rp sp' zz=>?_;rw[hpen]at sp';refine aj sp' λP z0 hP=>?_;clear sp';clear zz;subst z0;refine wpAny_Name (cy S1.vw.kind ok rp ?_) (cP ok);refine hi.st hc S1 k₁ hrm N1 λw bg valw s₂ S2 k₂ kf2 cJ hw N2=>?_;have hv:aq C X s₂.heap v val:=aq.tr kf2.tr hv;refine oc (oO (.lst bg) w v) (λhput=>?_) λo' hput=>?_
  ·unfold jP at N2;simp only[hpen,hput]at N2;exact absurd rfl N2.go
  ·
   refine dO (sJ hput) λm l' z0 hm z1 z2=>?_;subst z0;subst z1;subst z2;have N2:bE C cx X0 Pn env ay A (ai.next ρ (bg.set m v)) Q E s₂ X:=by
    have q:=N2;unfold jP at q;simp only[hpen,hput]at q;exact q
   refine aw hw.b.int λu z0=>?_;clear hw;subst z0;refine aj (S2.vw.aE.at_ P hP) λvs hl hvs=>?_;have hlen:=hvs.length;have hX:=S2.vw.pnX P hP;refine mI hl (by simp) (by dsimp only[JH];lia) λh' hs hl'=>?_;refine bM (S2.aE k₂ hP hs hl' (av.set (hvs.tr (bK hs hX)) (aq.tr (bK hs hX) hv))) λS3 bJ kf3=>?_;exact N2.cW S3 bJ kf3
 ·by_cases ho:∃o,aJ j ρ=.own o
  ·refine aw ho λo ho=>?_;exact own o ho
  ·rw[xj (λo q=>ho ⟨o,q⟩) hpen]at N;exact h.st hc S k hrm N λv p₁ val s₁ S1 k₁ kf1 wy hv N1=>absurd rfl N1.go
theorem BE{op:Jb}{j:Nat}{st:bT}{d:aA}(e:aM st (Internal.c2 (nv op) (aC (aJ j)) d) call ρ p≠.stuck):∃u,aJ j ρ=.val u/\
  aM st (Internal.c2 (nv op) (aC (aJ j)) d) call ρ p=@Res.rec (λJ=>ai) ai.stuck (λw p=>@Option.rec V (λJ=>ai) ai.stuck (λv=>ai.next (st ρ (.val v)) p) (nv op u w)) (λe p=>ai.exc e ρ p) (d call ρ p):=by
 delta aM Internal.c2 aC at e ⊢;induction hg:aJ j ρ using Slot.casesOn with
 | val u=>
  refine au u rfl ?_;dsimp only;induction d call ρ p using Res.casesOn with
  | stuck=>rfl
  | exc k q=>rfl
  | ok w q=>dsimp only;induction nv op u w using Option.casesOn<;>rfl
 | _=>rw[hg]at e;exact absurd rfl e
theorem bu.aug{x:Str}{px pos:Pos}{op:Jb}{e:Expr}{d:aA}{j:Nat}(h:aL C cx af e d)(O:bD cx)(ht:cZ cx x=aa j):
  bu C cx (.AugAssign (.Name x px) op e pos) (aM (sets j) (Internal.c2 (nv op) (aC (aJ j)) d)):=by
 intro n call hc X0 Pn env ay ρ p s X A Q E hA S k hrm N;refine aj (BE N.go) λu hg e=>?_;replace N:=e▸N;refine fo (fX ht) λhx zz zz ok=>?_;refine aQ (S.vw.vars x j hx (by refine rwl hg ?_;simp)) λold ro so zz=>?_;replace so:=hg▸so;refine wpAny_AugAssign_Name (cy S.vw.kind ok ro ?_);refine h.st hc S k hrm N λw p₁ val s₁ S1 k₁ kf1 wy hv N1=>?_;have fin:∀{a:Int}{tk tk':Tok},nv op u w=aa (.int a)->(λr br=>wpAny (model C.prog C.w) A (storeName env x r) (λJ=>Q .next) E br) (.int a tk) { s₁ with toks:=tk' }:=λ{a tk tk'} ha=>by
  replace N1:=ha▸N1;refine ao (S1.kp (.toks tk')) λS2 kf2=>?_;exact S2.store O (k₁.kp S1 (.toks tk')) ht (sl:=.val (.int a)) (by show aq C X _ _ _;simp[aq]) (by simp) (λJ q=>nomatch q) λbr S3 bJ kf3 J=>N1.cW S3 bJ (kf2.trans kf3)
 have int:∀{f:Int->Int->Int}{r:V},iQ f u w=aa r->∃a b ta tb,u=.int a/\w=.int b/\old=.int a ta/\val=.int b tb:=λ{f r} q=>by
  refine aj (jv q) λa z0 q2=>?_;refine aj (jv q2) λb z1 zz=>?_;clear N hg e;subst z0;clear N1 fin;subst z1;refine xs11 val hv.b.int λtb=>?_;have so:aq C X s.heap (.int _) old:=so;dsimp only[aq]at so;refine aw so λta z0=>?_;clear so;clear ro zz so;subst z0;exact vF _ _ _ _ rfl rfl rfl rfl
 refine oc (nv op u w) (λha=>?_) λr ha=>?_
 ·replace N1:=ha▸N1;exact absurd rfl N1.go
 ·
  induction op using Operator.casesOn<;>(try (cases ha;done))
  ·refine oB (int (f:=cQ) ha) λa b ta tb z0 z1 z2 z3=>?_;clear hg N e;subst z0;clear N1 ha;subst z1;clear ro zz so;subst z2;clear hv int;subst z3;exact P.iadd_int (by rw[← jE];exact fin rfl)
  ·refine oB (int (f:=eR) ha) λa b ta tb z0 z1 z2 z3=>?_;clear hg N e;subst z0;clear N1 ha;subst z1;clear ro zz so;subst z2;clear hv int;subst z3;exact P.isub_int (by rw[← lh];exact fin rfl)
end
section
variable{cx:Cx}{X0 X X' Pn:AP}{env:Env}{ay s s' s'':IY}{ρ ρ':Fr}{p p':List V}{A:I0}{Q:Flow->IY->Prop}{E:IZ->IY->Prop}{h h':Heap}{n:Nat}{call:Call}{b:Bool}
set_option tactic.hygienic true
theorem Reads.Ee{L:I1}{x:Str}{val:IZ}(r:Reads env h x val)(hs:Jk L h h')(hL:env.locals≠L)(hc:∀y c,env.kindOf y=aa .cell\/env.kindOf y=aa .free->env.cells.lookup y=aa c->c≠L):Reads env h' x val:=by
 unfold Reads at r ⊢
 split at r
 ·refine aj r λm' hm' hv'=>?_;exact au m' (hm'.at' λo e=>hs.extBut _ o hL e) hv'
 ·rename_i e;refine aj r λc' q zq=>?_;refine aQ zq λo r1 r2 r3=>?_;exact au c' q ⟨o,hs.extBut c' o (hc _ _ (.inl e) q) r1,r2,r3⟩
 ·rename_i e;refine aj r λc' q zq=>?_;refine aQ zq λo r1 r2 r3=>?_;exact au c' q ⟨o,hs.extBut c' o (hc _ _ (.inr e) q) r1,r2,r3⟩
 ·exact r.elim
theorem Tr.drop{L:I1}(hs:Jk L h h'):Tr (Xa X L) h X h':=λa o e J hx=>⟨hs.extBut a o (λq=>hx (.inr q)) e,λq=>hx (.inl q)⟩
set_option tactic.hygienic false
theorem Vw.wJ{L:I1}(v:Vw C cx (Xa X L) Pn env ρ p h)(hs:Jk L h h')(hnX:¬X L)(hL:env.locals≠L)(hc:∀y c,env.kindOf y=aa .cell\/env.kindOf y=aa .free->env.cells.lookup y=aa c->c≠L)(hP:¬Pn L)(hn:NC h L)
  (hown:∀y j w a,cx.vars.lookup y=aa j->aJ j ρ=.own w->Reads env h y (.ref a)->a≠L):Vw C cx X Pn env ρ p h':=by
 have T:=Tr.drop (X:=X) hs;refine { kind:=v.kind,code:=v.code,globals:=v.globals,builtins:=v.builtins,kinds:=v.kinds,cells:=v.cells,vars:=λy k hy hu=>?_,own:=v.own,caps:=λy c a b q=>v.caps y c a b (.inl q),tab:=v.tab.but (W:=λb=>b=L) (λb o e q=>hs.extBut b o q e) (λb q=>q▸hn) λb q=>.inl (.inl q),aE:=v.aE.tr T λb o hb e J=>hs.extBut b o (λq=>hP (q▸hb)) e,pnX:=λb hb=>(v.pnX b hb).resolve_right λq=>hP (q▸hb),base:=λb o e=>hs.extBut b o (λq=>by clear hs hnX hL hc hP hn hown T;subst q;rw[v.fresh _ (.inr rfl)]at e;exact nS e) (v.base b o e),lt:=λb hb=>?_,fresh:=λb hb=>v.fresh b (.inl hb) }
 ·refine aQ (v.vars y k hy hu) λval q1 q2 q3=>?_;refine aU val (q1.Ee hs hL hc) ?_ q3;induction hgk:aJ k ρ using Slot.casesOn with
  | undef=>trivial
  | val w=>rw[hgk]at q2;exact aq.tr T q2
  | own w=>
   rw[hgk]at q2;refine de q2 λa' e h1 h2 h3=>?_;clear q3 q2;subst e;have hne:=hown y k w a' hy hgk q1;exact fm a' rfl (h1.resolve_right hne) h2 (h3.tr T λo e J=>hs.extBut a' o hne e)
  | aE=>rw[hgk]at q2;exact q2
 ·refine aw (v.lt b (.inl hb)) λo gX=>?_;exact⟨o,hs.extBut b o (λq=>hnX (q▸hb)) gX⟩
theorem St.wJ{L:I1}(S:St C cx X0 Pn env ay ρ p s (Xa X L))(hs:Jk L s.heap h')(hnX:¬X L)(h0:ay.heap.get? L=ae)(hL:env.locals≠L)(hc:∀y c,env.kindOf y=aa .cell\/env.kindOf y=aa .free->env.cells.lookup y=aa c->c≠L)(hP:¬Pn L)(hns:NC s.heap L)
  (hown:∀y j w a,cx.vars.lookup y=aa j->aJ j ρ=.own w->Reads env s.heap y (.ref a)->a≠L):St C cx X0 Pn env ay ρ p { s with heap:=h' } X:=by
 have vw:=S.vw.wJ hs hnX hL hc hP hns hown;refine aw S.lns λm hm=>?_;refine aj S.frm λoL hoL hcL=>?_;refine aj S.own λad a1 a2=>?_;refine⟨vw,?_,λb hb=>(S.sub b hb).resolve_right λq=>?_,λb hb=>S.new b (.inl hb),S.pn0,S.lt0,S.base0,⟨m,hm.at' λo e=>hs.extBut _ o hL e⟩,(au oL (hs.extBut _ _ hL hoL) hcL),S.efr,S.lX.resolve_right hL,S.l0,λx c hk hcx=>?_,S.capK,S.cinj,S.nofree,(au ad (λy j u hy hg=>⟨(a1 y j u hy hg).1.Ee hs hL hc,(a1 y j u hy hg).2⟩) a2)⟩
 ·exact((S.nx.grow (Y:=λb=>Pn b\/b=L) λJ q=>.inl q).trans (ic (o:=default) S.vw.base hs (S.oP h0) (.inr rfl) hns _)).shrink λb hb=>hb.elim .inl λq=>.inr (q▸h0)
 ·clear hs hnX hL hc hP hns hown;subst q;refine aw (S.lt0 b hb) λo e=>?_;rw[h0]at e;exact nS e
 ·refine bM (S.cellX x c hk hcx) λz0 r1 r2=>?_;refine aW z0 λo w ho hcl hd=>?_;have hne:=hc x c (.inl hk) hcx;exact⟨(bX o w (hs.extBut c o hne ho) hcl hd),r1,λq=>(r2 q).resolve_right hne⟩
theorem Frames.Ef{L:I1}(hs:Jk L h h'){l:List Env}(H:Frames C h l)(q:∀e∈l,∀F,e.frame=aa F->F≠L):Frames C h' l:=
 H.imp' λe he F o hf ho hc=>aU o (hs.extBut F o (q e he F hf) ho) hc id
theorem vQ{K:Kd}{gs:List I3}{sc:Jc}{pos px:Pos}{x:Str}{l:Nat}:∃r,swapsWith (K.expr gs sc pos) (aa (.Name x px)) l env=pure r:=by induction K using Kd.casesOn<;>exact⟨_,rfl⟩
theorem St.C1{x:Str}{j:Nat}{v:V}{val:IZ}(S:St C cx X0 Pn env ay ρ p s X)(O:bD cx)(k:bf C A s.heap)(ht:cZ cx x=aa j)(hv:aq C X s.heap v val)
  (N:bE C cx X0 Pn env ay A (.next (sets j ρ (.val v)) p) Q E s X):wpAny (model C.prog C.w) A (storeName env x val) (λJ=>Q .next) E s:=
 S.store O k ht (sl:=.val v) hv (aq.iq S.loc hv) (λJ q=>nomatch q) λs₂ S2 k₂ kf2 J=>N.cW S2 k₂ kf2
theorem bu.comp{K:Kd}{t src:Expr}{ifs:List Expr}{gs:List I3}{sc:Jc}{cp px pos:Pos}{g:G}{x:Str}{j:Nat}(hG:j4 C af cx (ff cx sc) K.elt (⟨t,src,ifs,0⟩::gs) g)(hok:fG cx sc=af)(O:bD cx)(hsys:∃o,C.h₀.get? sysModules=aa o)(ht:cZ cx x=aa j):
  bu C cx (.Assign [.Name x px] (K.expr (⟨t,src,ifs,0⟩::gs) sc cp) pos) (aM (sets j) (iw (iY cx sc) (K.comb g))):=by
 intro n call hc X0 Pn env ay ρ p s X A Q E hA S k hrm N;refine aw (vQ (env:=env) (K:=K) (gs:=⟨t,src,ifs,0⟩::gs) (sc:=sc) (pos:=cp) (px:=px) (x:=x) (l:=pos.line)) λr hr=>?_;induction r using Bool.casesOn with
 | false=>
  exact wpAny_Assign_Name ((aL.comp (b:=ag) hG hok O hsys).st hc S k hrm N λv p₁ val s₁ S1 k₁ kf J hv N1=>S1.C1 O k₁ ht hv N1) hr
 | true=>
  have N:bE C cx X0 Pn env ay A (@Res.rec (λJ=>ai) ai.stuck (λv p=>ai.next (sets j ρ (.val v)) p) (λe p=>ai.exc e ρ p) (iw (iY cx sc) (K.comb g) call ρ p)) Q E s X:=N;have hne:iw (iY cx sc) (K.comb g) call ρ p≠.stuck:=λe=>by rw[e]at N;exact absurd rfl N.go
  refine ao (rn hne) λhg e=>?_;rw[e]at N hne;refine d9 (vq hne) λl p' w e hF hw e'=>?_;rw[e']at N;have N:bE C cx X0 Pn env ay A (ai.next (sets j ρ (.val w)) p') Q E s X:=N;rw[exec_Assign_arm];refine az (IV ?_);show wpAny _ _ (swapsWith (K.expr (⟨t,src,ifs,0⟩::gs) sc cp) (aa (.Name x px)) pos.line env >>= _) _ _ _;rw[hr];refine IQ (IP ?_);refine pe rfl ?_;have key:∀pp,wpAny (model C.prog C.w) A (comprehension (K.expr (⟨t,src,ifs,0⟩::gs) sc cp) sc env pp K.new ag (eval src env) (aa λv=>assignAll v ((assignEach [.Name x px] env).map (·.2)))) (λJ=>Q .next) E s:=λpp=>by
   refine tY hG hok O (p8 S.vw hg) hc S.vw k hrm hsys e hF λD L s' w' hD hL hDL hns hn hp ha ho=>?_;rw[hw]at ha;obtain rfl:=Jd ha;have hXL:¬X L:=λq=>by refine aw (S.vw.lt L q) λo ho=>?_;rw[hL]at ho;exact nS ho
   have hXD:¬X D:=λq=>by refine aw (S.vw.lt D q) λo ho=>?_;rw[hD]at ho;exact nS ho
   have hPL:¬Pn L:=λq=>hXL (S.vw.pnX L q);have T:Tr (X2 X D L) s'.heap (Xa X L) s'.heap:=λa o e J hx=>⟨e,λq=>hx (q.elim .inl λq=>.inr (.inr q))⟩;have hp':bA C (Xa X L) Pn s'.heap p':=hp.tr T λb o J e J=>e;refine aw hns λmL hmL=>?_;refine ao (S.Dz hn (X':=Xa X L) (λb q=>.inl q) (λb q=>q.elim .inl λq=>.inr (q▸hL)) (λb q=>q.elim (λq=>Ext.lt hn.ext hp b (S.vw.lt b q)) λq=>by refine lA hmL λo es ep ho zz=>?_;exact⟨o,q▸ho⟩) hp' (λb (q:Xa X L b)=>Or.imp id (λ(q:b=L)=>q ▸ .ka hmL) q)) λS1 kf1=>?_;have k₁:=k.ext hn.ext S.vw.aE;have hwR:aq C (Xa X L) s'.heap w (.ref D):=aP.rep (ho.tr T λo e J=>e) (λq=>q.elim hXD hDL);have hLL:env.locals≠L:=λq=>by refine aj S.frm λo ho zz=>?_;rw[q,hL]at ho;exact nS ho
   have hcL:∀y c,env.kindOf y=aa .cell\/env.kindOf y=aa .free->env.cells.lookup y=aa c->c≠L:=λy c hk hcy q=>by
    rcases hk with hk|hk
    ·refine ao (S.cellX y c hk hcy) λz0 zz=>?_;refine bY z0 λo zz ho zz=>?_;rw[q,hL]at ho;exact nS ho
    ·exact S.nofree y hk
   skip;refine wpAny_assign_Name (S1.store O k₁ ht (sl:=.val w) hwR (aq.iq S1.loc hwR) (λJ q=>nomatch q) λs₂ S2 k₂ kf2 sd=>au mL ?_ (λh' hs'=>?_))
   ·refine aj sd.but λt ht' hst=>?_;refine hmL.at' λo e=>hst.extBut _ o (λq=>?_) e;rcases ht' with q'|⟨q',q''⟩
    ·exact hLL (q'.symm.trans q.symm)
    ·exact hcL x t (.inl q') q'' q.symm
   ·have hnsL:NC s₂.heap L:=by
     refine aj sd.but λt ht' hst=>?_;refine .ka (m:=mL) (hmL.at' λo e=>hst.extBut _ o (λq=>?_) e);rcases ht' with q'|⟨q',q''⟩
     ·exact hLL (q'.symm.trans q.symm)
     ·exact hcL x t (.inl q') q'' q.symm
    have hj:=(fX ht).1;have S3:=S2.wJ hs' hXL (S.old hL) hLL hcL hPL hnsL λy i u a hy hgy ra q=>by
     by_cases hyx:y=x
     ·clear ht hr sd;subst hyx;rw[hj]at hy;obtain rfl:=Jd hy;rw[cG]at hgy;by_cases h16:j<16
      ·rw[if_pos ⟨rfl,h16⟩]at hgy;exact(nomatch hgy)
      ·rw[if_neg (λq=>h16 q.2),eS (Nat.not_lt.mp h16)]at hgy;exact(nomatch hgy)
     ·rw[eK O hyx hy hj]at hgy;refine mw (S.ownAt hy hgy) λb rb zz zz hob zz=>?_;have rb':=sd.oth y _ hyx (rb.ext hn.ext S.vw.aE);clear rb;cases Reads.unique ra rb';refine aj hob.obj λo ho' zz=>?_;rw[q,hL]at ho';exact nS ho'
    refine aj k λl' hl' fr=>?_;have bJ:bf C A h':=by
     refine aj k₂ λDF lV fr2=>?_;rw[hl']at lV;obtain rfl:=Jd lV;refine au l' hl' (fr2.Ef hs' λe he F hf q=>?_);refine aj (fr.cls e he F hf) λo ho' zz=>?_;rw[q,hL]at ho';exact nS ho'
    refine N.cW S3 bJ ⟨λb o e hc hx=>?_⟩;have hb:b≠L:=λq=>by rw[q,hL]at e;exact nS e
    refine ao ((kf1.trans kf2).keep b o e hc hx) λq1 q2=>?_;exact⟨hs'.extBut b o hb q1,hx⟩
  induction K using Kd.casesOn with
  | l elt=>exact az (az (IX (key _) (λJ J q=>IP (IP q)) λJ J q=>q))
  | d k u ck cp=>exact az (az (IX (key _) (λJ J q=>IP (IP q)) λJ J q=>q))
end
section
variable{M:Model}{A:I0}{E:IZ->IY->Prop}{s s₁:IY}
theorem nh:∀(names:List (Str×NameKind)) (h:Heap) (acc:List (Str×I1)),(∀n c,(n,c)∈acc->h.get? c=aa { cls:=.type "cell",data:=.cell ae })->
  ∀n c,(n,c)∈cellsFrom h.objs.size names acc->(pushCells h names).get? c=aa { cls:=.type "cell",data:=.cell ae }
 | [],_,_,x=>x
 | (name,kind)::r,h,acc,x=>by
  unfold pushCells cellsFrom
  split
  ·have:=nh r (h.push { cls:=.type "cell",data:=.cell ae }) ((name,h.objs.size)::acc) λn c hm=>by
    rcases Jx.mp hm with e|hm
    ·clear hm;injection e with zq1 zq2;(try subst zq1);(try subst zq2);exact Jh _ rfl
    ·exact Jg _ (x n c hm)
   rwa [Heap.size_push]at this
  ·exact nh r h acc x
set_option tactic.hygienic true
theorem jd:∀(names:List (Str×NameKind))(n:Nat)(acc:List (Str×I1))(x:Str),((x,NameKind.cell)∈names\/∃c,acc.lookup x=aa c)->∃c,(cellsFrom n names acc).lookup x=aa c
 | [],_,_,_,h=>h.resolve_left (by simp)
 | (name,kind)::r,n,acc,x,h=>by
  unfold cellsFrom
  split
  ·rename_i hk;refine jd r (n+1) _ x ?_;by_cases e:x=name
   ·clear h;subst e;exact .inr ⟨n,by simp[List.lookup_cons]⟩
   ·rcases h with h|⟨c,h⟩
    ·rcases Jx.mp h with h|h
     ·(injection h with h9;clear h;subst h9);exact absurd rfl e
     ·exact .inl h
    ·exact .inr ⟨c,by simp only[List.lookup_cons,show(x==name)=ag by simpa using e];exact h⟩
  ·rename_i hk;refine jd r n acc x ?_;rcases h with h|h
   ·rcases Jx.mp h with h|h
    ·injection h with zq1 zq2;(try subst zq1);(try subst zq2);exact absurd rfl hk
    ·exact .inl h
   ·exact .inr h
structure Laid(s:IY)(env:Env)(m cm:Str->Option IZ)(s₁:IY):Prop where
 kp:Kp s s₁
 ns:s₁.heap.Ns env.locals m
 frm:∃o,s₁.heap.get? env.locals=aa o/\o.cls=aY
 cell:∀n c,env.cells.lookup n=aa c->∃o,s₁.heap.get? c=aa o/\o.cls=.type "cell" /\ o.data=.cell (cm n)
 apart:env.cells.Pairwise λx y=>x.2≠y.2
 above:∀n c,(n,c)∈env.cells->env.locals<c
 fresh:s.heap.objs.size<=env.locals
set_option tactic.hygienic false
theorem Laid.kU{env:Env}{m cm:Str->Option IZ}{x:Str}{v:IZ}{Q:Unit->IY->Prop}(l:Laid s env m cm s₁)(hk:env.scope.kind=.function)(hl:env.kindOf x=aa .local)
  (hQ:∀s₂,Laid s env (λy=>if y=x then aa v else m y) cm s₂->Q () s₂):wpAny M A (storeName env x v) Q E s₁:=by
 refine aj l.frm λoL hoL hcL=>?_;rw[storeName_local hl (by rw[hk];rfl)];refine mP l.ns hoL λh' o' hn' hs' ho' hc' hd'=>hQ _ ⟨⟨λb o e=>hs'.extBut b o (Jz (JD (Jj e) l.fresh)) (l.kp.keep b o e),l.kp.gens,l.kp.os⟩,hn',(au o' ho' (hc'.trans hcL)),λn c hc=>?_,l.apart,l.above,l.fresh⟩;refine aQ (l.cell n c hc) λo h1 h2 h3=>?_;exact aU o (hs'.extBut c o (Nat.ne_of_gt (l.above n c (I6 hc))) h1) h2 h3
theorem Laid.sm{env:Env}{m cm:Str->Option IZ}{x:Str}{v:IZ}{c:I1}{Q:Unit->IY->Prop}(l:Laid s env m cm s₁)(hk:env.scope.kind=.function)(hl:env.kindOf x=aa .cell)(hc:env.cells.lookup x=aa c)
  (hQ:∀s₂,Laid s env m (λy=>if y=x then aa v else cm y) s₂->Q () s₂):wpAny M A (storeName env x v) Q E s₁:=by
 refine aQ (l.cell x c hc) λo h1 h2 h3=>?_;have hLc:=l.above x c (I6 hc);have e:storeName env x v=cellSet c (aa v):=by
  unfold storeName;simp only[hl,hk,cellOf,hc];rfl
 refine rwl e ?_;refine oq h1 h3 λh' hc' hs'=>hQ _ ⟨⟨λb o e=>hs'.extBut b o (Jz (Nat.lt_trans (JD (Jj e) l.fresh) hLc)) (l.kp.keep b o e),l.kp.gens,l.kp.os⟩,l.ns.at' λo e=>hs'.extBut _ o (Jz hLc) e,?_,λn c' hcn=>?_,l.apart,l.above,l.fresh⟩
 ·refine aj l.frm λoL hoL hcL=>?_;exact au oL (hs'.extBut _ _ (Jz hLc) hoL) hcL
 ·by_cases hnx:n=x
  ·clear hl hQ h3 e;subst hnx;replace hcn:=hc▸hcn;obtain rfl:=Jd hcn;exact aU _ hc' h2 (by simp)
  ·refine aQ (l.cell n c' hcn) λo' g1 g2 g3=>?_;refine aU o' (hs'.extBut c' o' (λq=>hnx (name_of_addr l.apart (I6 hcn) (q▸I6 hc))) g1) g2 (by refine rwl (if_neg hnx) ?_;exact g3)
theorem Laid.binds{env:Env}(hk:env.scope.kind=.function)(f:Str×IZ->Unit->Sem (ForInStep Unit))(hf:∀n v u,f (n,v) u=(do storeName env n v;pure (.yield ⟨⟩))):
  ∀(binds:List (Str×IZ))(m cm:Str->Option IZ)(s₁:IY)(Q:Unit->IY->Prop),Laid s env m cm s₁->
   (∀x∈binds,env.kindOf x.1=aa .local\/(env.kindOf x.1=aa .cell/\∃c,env.cells.lookup x.1=aa c))->
   (∀s',Laid s env (bindL env.kindOf binds m) (PySem.bindC env.kindOf binds cm) s'->Q ⟨⟩ s')->wpAny M A (forIn binds ⟨⟩ f) Q E s₁
 | [],m,cm,s₁,Q,l,_,h=>by rw[List.forIn_nil];exact IP (h s₁ l)
 | (n,v)::r,m,cm,s₁,Q,l,hkind,h=>by
  rw[List.forIn_cons,hf];have hr:∀y∈r,env.kindOf y.1=aa .local\/(env.kindOf y.1=aa .cell/\∃c,env.cells.lookup y.1=aa c):=λy hy=>hkind y (Jr _ hy);rcases hkind (n,v) Js with hl|⟨hl,c,hc⟩
  ·refine az (az (l.kU hk hl λs' x'=>IP (Laid.binds hk f hf r _ _ s' Q x' hr λs'' x''=>h s'' ?_)));unfold bindL PySem.bindC;refine rwl (if_pos hl) (rwl (if_pos hl) ?_);exact x''
  ·have hnl:¬env.kindOf n=aa .local:=by refine rwl hl ?_;decide
   refine az (az (l.sm hk hl hc λs' x'=>IP (Laid.binds hk f hf r _ _ s' Q x' hr λs'' x''=>h s'' ?_)));unfold bindL PySem.bindC;refine rwl (if_neg hnl) (rwl (if_neg hnl) ?_);exact x''
noncomputable abbrev jX (fd:FuncData) (L a:I1):Env:=newEnv fd.scope L fd.globals (cellsFrom (L+1) fd.scope.names []) (fd.qualname ++ ".<locals>.") (aa a) fd.code ae fd.builtins
theorem th{fd:FuncData}{a:I1}{binds:List (Str×IZ)}{Q:Env->IY->Prop}(hk:fd.scope.kind=.function)
  (hkind:∀x∈binds,fd.scope.names.lookup x.1=aa .local\/fd.scope.names.lookup x.1=aa .cell)
  (hQ:∀s₁,Laid s (jX fd s.heap.objs.size a) (bindL (jX fd s.heap.objs.size a).kindOf binds λJ=>ae) (PySem.bindC (jX fd s.heap.objs.size a).kindOf binds λJ=>ae) s₁->Q (jX fd s.heap.objs.size a) s₁):
  wpAny M A (newFunctionEnv fd.scope fd.globals [] binds (fd.qualname ++ ".<locals>.") (aa a) fd.code ae fd.builtins) Q E s:=by
 simp only[newFunctionEnv,Option.isSome_none,Jo,if_false];refine az (wpAny_alloc ?_);refine az (wpAny_layCells _ (λname kind cells=>by induction hkc:kind==NameKind.cell using Bool.casesOn<;>simp[hkc]) _ _ _ _ ?_)
 have ok:=cellsFrom_ok fd.scope.names (s.heap.push { cls:=.type "frame",data:=.dict #[] }) (s.heap.objs.size+1) [] ⟨λJ J hm=>(nomatch hm),List.Pairwise.nil⟩ (by rw[Heap.size_push];exact Nat.le_refl _);have cl:=nh fd.scope.names (s.heap.push { cls:=.type "frame",data:=.dict #[] }) [] (λJ J hm=>nomatch hm);rw[Heap.size_push]at ok cl;refine rwl (show({ s with heap:=s.heap.push { cls:=.type "frame",data:=.dict #[] } }:IY).heap.objs.size=s.heap.objs.size+1 from Heap.size_push ..) ?_;refine az (Laid.binds (s:=s) (env:=jX fd s.heap.objs.size a) hk _ (λJ J J=>rfl) binds (λJ=>ae) (λJ=>ae) _ _
  ⟨⟨λb o e=>pushCells_keeps _ _ b o (Jg _ e),rfl,rfl⟩,(Heap.Ns.new s.heap (.type "frame")).keeps (pushCells_keeps _ _),(au _ (pushCells_keeps _ _ _ _ (Jh _ rfl)) rfl),
   λn c hc=>aU _ (cl n c (I6 hc)) rfl rfl,ok.apart,λn c hm=>(ok.empty n c hm).2,Nat.le_refl _⟩ (λx hx=>?_) λs' l=>IP (hQ s' l))
 rcases hkind x hx with h|h
 ·exact .inl h
 ·exact .inr ⟨h,jd _ _ _ _ (.inl (I6 h))⟩
end
section
variable{M:Model}{A:I0}{E:IZ->IY->Prop}{s s₁:IY}
theorem fE{x:Str}{r:List Str}(h:distinct (x::r)=af):x∉r/\distinct r=af:=by
 unfold distinct at h;simp only[Jn]at h;refine⟨λq=>?_,h.2⟩;have:=h.1;simp[q]at this
theorem qV:∀{names:List Str}{vals:List IZ}(pre:List (Str×IZ)),vals.length=names.length->distinct names=af->(∀x∈names,pre.lookup x=ae)->
  names.filterMap (λn=>((pre++names.zip vals).lookup n).map (n,·))=names.zip vals
 | [],[],_,_,_,_=>rfl
 | [],_::_,_,h,_,_=>by simp at h
 | _::_,[],_,h,_,_=>by simp at h
 | n::r,v::vs,pre,hl,hd,hp=>by
  refine ao (fE hd) λh1 h2=>?_;have e1:(pre++(n::r).zip (v::vs)).lookup n=aa v:=by
   rw[List.lookup_append,hp n Js];simp[List.lookup_cons]
  rw[List.filterMap_cons,e1,List.zip_cons_cons];dsimp only[Option.map_some];have e2:pre++(n,v)::r.zip vs=(pre++[(n,v)])++r.zip vs:=by simp
  rw[e2,qV (pre++[(n,v)]) (by simpa using hl) h2 λx hx=>?_];rw[List.lookup_append,hp x (Jr _ hx)];have:(x==n)=ag:=by rw[beq_eq_false_iff_ne];exactλe=>h1 (e▸hx)
  simp[List.lookup_cons,this]
theorem uB:∀{names:List Str}{vals:List IZ},vals.length=names.length->∀x∈names,∃v,(names.zip vals).lookup x=aa v
 | [],_,_,x,hx=>by simp at hx
 | _::_,[],h,_,_=>by simp at h
 | n::r,v::vs,h,x,hx=>by
  refine rwl List.zip_cons_cons (rwl List.lookup_cons ?_);by_cases e:x=n
  ·clear h hx;subst e;exact⟨v,by simp⟩
  ·have:(x==n)=ag:=by rw[beq_eq_false_iff_ne];exact e
   refine rwl this ?_;exact uB (by simpa using h) x ((Jx.mp hx).resolve_left e)
theorem wY{α β γ:Type}{l:List α}{b:β}{f:α->β->Sem (ForInStep β)}{k:β->Sem γ}{Q:γ->IY->Prop}(e:l=[])(h:wpAny M A (k b) Q E s):wpAny M A (forIn l b f >>= k) Q E s:=by
 subst e;rw[List.forIn_nil];exact IQ (IP h)
theorem nk{fd:FuncData}{names:List Str}{vals:List IZ}{Q:List (Str×IZ)->IY->Prop}(h1:fd.params.posonlyargs=[])(h2:fd.params.args.map (·.arg)=names)(h3:fd.params.kwonlyargs=[])(h4:fd.params.vararg=ae)(h5:fd.params.kwarg=ae)(h6:fd.defaults=.none)
  (hl:vals.length=names.length) (hd:distinct names=af) (hQ:Q (names.zip vals) s):wpAny M A (bindArgs fd ⟨vals,[]⟩) Q E s:=by
 obtain⟨f1,f2,⟨po,ar,va,ko,kd,kw,df⟩,f4,f5,f6,f7,dv,f9,f10,f11,f12,f13,f14,f15⟩:=fd;have h1:po=[]:=h1;have h3:ko=[]:=h3;have h4:va=ae:=h4;have h5:kw=ae:=h5;have h6:dv=.none:=h6;have h2:ar.map (·.arg)=names:=h2;subst h1 h3 h4 h5 h6 h2;have hz:=qV (vals:=vals) [] hl hd λJ J=>rfl;have hm:((ar.map (·.arg)).filter λn=>(((ar.map (·.arg)).zip vals).lookup n).isNone)=[]:=by
  rw[List.filter_eq_nil_iff];intro x hx;refine aw (uB hl x hx) λv e=>?_;rw[e];simp
 delta bindArgs;dsimp only[List.map_nil,List.nil_append,List.append_nil];refine IQ (IP ?_);refine IQ (m:=seqItems? .none) (IQ (IP (IP ?_)));refine eU ?_ ?_
 ·dsimp only[List.map_nil,List.nil_append,Option.isNone_none];rw[Bool.and_true,hl,decide_eq_true_eq];exact JB _
 refine eU ?_ ?_
 ·simp only[Option.getD_none,List.drop_nil,List.length_nil,Nat.sub_zero,List.map_nil,List.nil_append,List.take_length,hm];exact fT
 refine wY (by simp) ?_;refine wY rfl ?_;refine eU (λq=>fT q) ?_;exact IP (rwl (p:=λl=>Q l s) ((congrArg (List.filterMap _) (List.append_nil _)).trans hz) hQ)
end
theorem ou{k:Str->Option NameKind}{x:Str}:∀{names:List Str}{vals:List IZ}{m:Str->Option IZ},x∉names->bindL k (names.zip vals) m x=m x
 | [],_,_,_=>rfl
 | _::_,[],_,_=>rfl
 | n::r,v::vs,m,h=>by
  simp only[List.zip_cons_cons];unfold bindL;simp only[ou λq=>h (Jr _ q)];have:x≠n:=λe=>h (e▸Js)
  split<;>simp[this]
theorem ox{k:Str->Option NameKind}{x:Str}:∀{names:List Str}{vals:List IZ}{m:Str->Option IZ},x∉names->PySem.bindC k (names.zip vals) m x=m x
 | [],_,_,_=>rfl
 | _::_,[],_,_=>rfl
 | n::r,v::vs,m,h=>by
  simp only[List.zip_cons_cons];unfold PySem.bindC;simp only[ox λq=>h (Jr _ q)];have:x≠n:=λe=>h (e▸Js)
  split<;>simp[this]
theorem ry{k:Str->Option NameKind}{x:Str}{v:IZ}:∀{names:List Str}{vals:List IZ}{m:Str->Option IZ}{i:Nat},distinct names=af->names[i]?=aa x->vals[i]?=aa v->k x=aa .local->bindL k (names.zip vals) m x=aa v
 | [],_,_,_,_,h,_,_=>by simp at h
 | _::_,[],_,_,_,_,h,_=>by simp at h
 | n::r,v'::vs,m,0,hd,hn,hv,hk=>by
  simp at hn hv;subst hn hv;refine rwl List.zip_cons_cons ?_;unfold bindL;refine rwl (ou (fE hd).1) (rwl (if_pos hk) ?_);simp
 | n::r,v'::vs,m,i+1,hd,hn,hv,hk=>by
  refine rwl List.zip_cons_cons ?_;unfold bindL;exact ry (fE hd).2 (by simpa using hn) (by simpa using hv) hk
theorem rz{k:Str->Option NameKind}{x:Str}{v:IZ}:∀{names:List Str}{vals:List IZ}{m:Str->Option IZ}{i:Nat},distinct names=af->names[i]?=aa x->vals[i]?=aa v->k x=aa .cell->PySem.bindC k (names.zip vals) m x=aa v
 | [],_,_,_,_,h,_,_=>by simp at h
 | _::_,[],_,_,_,_,h,_=>by simp at h
 | n::r,v'::vs,m,0,hd,hn,hv,hk=>by
  simp at hn hv;subst hn hv;refine rwl List.zip_cons_cons ?_;unfold PySem.bindC;refine rwl (ox (fE hd).1) (rwl (if_neg (by rw[hk];decide)) ?_);simp
 | n::r,v'::vs,m,i+1,hd,hn,hv,hk=>by
  refine rwl List.zip_cons_cons ?_;unfold PySem.bindC;exact rz (fE hd).2 (by simpa using hn) (by simpa using hv) hk
theorem eP.get{X Pn:AP}{h:Heap}:∀{args:List Slot}{vals:List IZ}{j:Nat}{sl:Slot},eP C X Pn h args vals->args[j]?=aa sl->∃v,vals[j]?=aa v/\zS C X Pn h sl v
 | [],_,_,_,_,e=>by simp at e
 | a::r,_,0,_,q,e=>by
  refine aW q λv t z0 q1 q2=>?_;clear q;subst z0;simp at e;subst e;exact au v (by simp) q1
 | a::r,_,j+1,_,q,e=>by
  refine aW q λv t z0 q1 q2=>?_;clear q;subst z0;refine aj (eP.get q2 (by simpa using e)) λv' e' q'=>?_;exact au v' (by simpa using e') q'
theorem eP.length{X Pn:AP}{h:Heap}:∀{args:List Slot}{vals:List IZ},eP C X Pn h args vals->vals.length=args.length
 | [],_,q=>by have q:_=[]:=q;subst q;rfl
 | a::r,_,q=>by refine aW q λv t z0 zz q2=>?_;clear q;subst z0;simp[eP.length q2]
structure nD(C:Cfg)(a:I1)(cx:Cx)(names:List Str)(body:List Stmt):Prop where
 obj:∃o fd,C.h₀.get? a=aa o/\o.data=.func fd/\oz C.h₀ fd (.stmts body) names cx.sc
 dist:distinct names=af
 kinds:∀x∈names,cx.sc.lookup x=aa .local\/cx.sc.lookup x=aa .cell
 vars:∀x j,cx.vars.lookup x=aa j->j<names.length->names[j]?=aa x
 nofree:∀x,cx.sc.lookup x≠aa .free
 capK:∀x,cx.caps.contains x=af->cx.sc.lookup x=aa .cell
 nolim:C.h₀.NoLimit
 code:cx.caps=[]\/∀fd,(∃o,C.h₀.get? a=aa o/\o.data=.func fd)->fd.code=.ref C.lc/\fd.qualname++(".<locals>." : Str)++("<lambda>" : Str)=C.lqual
section
variable{cx:Cx}{X0 X X' Pn:AP}{env:Env}{ay s s' s'':IY}{ρ ρ':Fr}{p p':List V}{A:I0}{h h':Heap}{n:Nat}{call:Call}{b:Bool}
theorem Frames.kp(k:Kp s s'){l:List Env}(H:Frames C s.heap l):Frames C s'.heap l:=H.imp' λJ J F o J ho hc=>aU o (k.keep F o ho) hc id
theorem rt{a:I1}{names:List Str}{body:List Stmt}{args:List Slot}{vals:List IZ}{R:Result->IY->Prop}(F:nD C a cx names body)(P:bp C (n+1) X Pn p A s)(ha:eP C X Pn s.heap args vals)(hl:args.length=names.length)
  (hQ:∀env s₁ X1,St C cx X Pn env s (fill args) p s₁ X1->bf C (A.deeper env) s₁.heap->Kf X X1 s s₁->dU (A.deeper env) n->(∃l,(A.deeper env).frames=aa (env::l))->
   wpAny (model C.prog C.w) (A.deeper env) (execs body env) (λf s'=>R (.ok (.ret (match f with|.ret v=>v|_=>.none))) s')
    (λe s'=>wpAny (model C.prog C.w) (A.deeper env) (leaving env e) (λJ s''=>R (.error e) s'') (λe' s''=>R (.error e') s'') s') s₁):
  codeAny (model C.prog C.w) A (.call (.ref a) ⟨vals,[]⟩) R s:=by
 refine aW F.obj λo fd ho hd D=>?_;have hvl:=ha.length;have hroom:=P.room;refine codeAny_call_function (by have:=hroom.depth;lia) (P.base _ _ ho) hd D.co D.ge D.bd (D.cd.keeps P.base) ?_;refine nk D.po D.ar D.ko D.va D.kw D.df (hvl.trans hl) F.dist ?_;rw[D.clo];refine th D.ki (λx hx=>by rw[D.sc];exact F.kinds x.1 (List.of_mem_zip hx).1) λs₁ l=>⟨(F.nolim.keeps P.base).keeps l.kp.keep,codeAny_func ?_⟩;have hLs:s.heap.get? s.heap.objs.size=ae:=cN _;generalize hL:s.heap.objs.size=L at *;generalize hE:jX fd L a=env at *;have e1:env.locals=L:=by rw[← hE];rfl
 have e2:env.scope=fd.scope:=by rw[← hE];rfl
 have e3:env.cells=cellsFrom (L+1) fd.scope.names []:=by rw[← hE];rfl
 have hkn:∀x,env.kindOf x=cx.sc.lookup x:=λx=>by unfold Env.kindOf;rw[e2,D.sc]
 have hcn:∀x c,env.cells.lookup x=aa c->s.heap.get? c=ae:=λx c hc=>by
  have:=l.above x c (I6 hc);rw[e1]at this;exact gU (by rw[hL];exact JA this)
 have hcL:∀x c,env.cells.lookup x=aa c->c≠L:=λx c hc=>by
  have:=l.above x c (I6 hc);rw[e1]at this;exact Nat.ne_of_gt this
 have h0:∀b,s.heap.get? b=ae->C.h₀.get? b=ae:=λb e=>by
  induction q:C.h₀.get? b using Option.casesOn with
  | none=>rfl
  | some o=>have:=P.base b o q;rw[e]at this;exact nS this
 have hX:∀b,X b->s.heap.get? b≠ae:=λb hb e=>by refine aw (P.lt b hb) λo q=>?_;rw[e]at q;exact nS q
 let X1:AP:=λb=>X b\/b=L\/∃y,env.cells.lookup y=aa b/\cx.caps.contains y=ag
 have hX1:∀b,X1 b->X b\/s.heap.get? b=ae:=λb q=>by
  rcases q with q|rfl|⟨y,q,_⟩
  ·exact .inl q
  ·exact .inr hLs
  ·exact .inr (hcn y b q)
 have T:Tr X s.heap X1 s₁.heap:=λb o e J hx=>⟨l.kp.keep b o e,λq=>(hX1 b q).elim hx λq=>by rw[q]at e;exact nS e⟩;have hlt:∀b,X1 b->∃o,s₁.heap.get? b=aa o:=λb q=>by
  rcases q with q|rfl|⟨y,q,_⟩
  ·refine aw (P.lt b q) λo q=>?_;exact⟨o,l.kp.keep b o q⟩
  ·refine aj l.frm λo q zz=>?_;exact⟨o,e1▸q⟩
  ·refine aj (l.cell y b q) λo q zz=>?_;exact⟨o,q⟩
 have nx:Nx C Pn s s₁:=l.kp.nx P.base;have slots:∀x j,cx.vars.lookup x=aa j->aJ j (fill args)≠.undef->∃val,vals[j]?=aa val/\names[j]?=aa x/\zS C X Pn s.heap (aJ j (fill args)) val:=λx j hx hu=>by
  have e:=lY hu;refine aj (ha.get e) λv hv hr=>?_;have hj:j<args.length:=(Jw.mp e).1;exact aU v hv (F.vars x j hx (hl▸hj)) hr
 have noown:∀x j u,cx.vars.lookup x=aa j->aJ j (fill args)≠.own u:=λx j u hx e=>by
  refine aQ (slots x j hx (by rw[e];simp)) λval zz zz q=>?_;rw[e]at q;exact q
 have hval:∀x j val,vals[j]?=aa val->names[j]?=aa x->Reads env s₁.heap x val:=λx j val hv hn=>by
  unfold Reads;rw[hkn];have hmem:x∈names:=List.mem_of_getElem? hn;rcases F.kinds x hmem with hk|hk
  ·rw[hk];exact au _ l.ns (ry F.dist hn hv (by rw[hkn];exact hk))
  ·rw[hk];refine aw (jd fd.scope.names (L+1) [] x (.inl (I6 (by rw[D.sc];exact hk)))) λc hc=>?_;rw[← e3]at hc;refine aQ (l.cell x c hc) λo q1 q2 q3=>?_;rw[rz F.dist hn hv (by rw[hkn];exact hk)]at q3;exact au c hc ⟨o,q1,q2,q3⟩
 have vw:Vw C cx X1 Pn env (fill args) p s₁.heap:={
  kind:=by rw[e2];exact D.ki
  globals:=by rw[← hE];exact D.gl
  builtins:=by rw[← hE];exact D.bi
  kinds:=λx k hk=>⟨λJ=>by rw[hkn];exact hk,λe=>absurd (e▸hk) (F.nofree x)⟩
  cells:=λx hk=>by
   rw[hkn]at hk;rcases hk with hk|hk
   ·rw[e3];exact jd _ _ _ _ (.inl (I6 (by rw[D.sc];exact hk)))
   ·exact absurd hk (F.nofree x)
  vars:=λx j hx hu=>by
   refine aQ (slots x j hx hu) λval hv hn hr=>?_;refine aU val (hval x j val hv hn) ?_ (λe=>?_)
   ·induction hg:aJ j (fill args)using Slot.casesOn with
    | undef=>trivial
    | val w=>rw[hg]at hr;exact aq.tr T hr
    | own w=>exact absurd hg (noown x j w hx)
    | aE=>rw[hg]at hr;exact hr
   ·clear hv;subst e;rw[e1]at hr;induction hg:aJ j (fill args)using Slot.casesOn with
    | undef=>exact hu hg
    | val w=>rw[hg]at hr;refine ao (aq.obj hr) λzz zq=>?_;refine aj zq λo q zz=>?_;rw[hLs]at q;exact nS q
    | own w=>exact noown x j w hx hg
    | aE=>rw[hg]at hr;refine aj hr λP' e hP=>?_;(injection e with h9;subst h9);exact hX _ (P.pnX _ hP) hLs
  own:=λx j v hx hg=>absurd hg (noown x j v hx)
  code:=F.code.imp id λq=>by rw[← hE];exact q fd (au o ho hd)
  caps:=λx c hc hcx q=>by
   rcases q with q|q|⟨y,q,hy⟩
   ·exact hX c q (hcn x c hcx)
   ·exact hcL x c hcx q
   ·have:=name_of_addr l.apart (I6 hcx) (I6 q);clear q;subst this;rw[hc]at hy;exact tF hy
  tab:=P.tab.keeps l.kp.keep λb q=>(hX1 b q).imp id .none
  aE:=P.aE.tr T λb o J e J=>l.kp.keep b o e
  pnX:=λb hb=>.inl (P.pnX b hb)
  base:=nx.ext.base
  lt:=hlt
  fresh:=λb hb=>(hX1 b hb).elim (P.fresh b) (h0 b) }
 have S:St C cx X Pn env s (fill args) p s₁ X1:={
  vw:=vw,nx:=nx,sub:=λb q=>.inl q,new:=hX1,pn0:=P.pnX,lt0:=P.lt,base0:=P.base,lns:=⟨_,l.ns⟩,frm:=l.frm
  efr:=by rw[← hE];rfl
  lX:=.inr (.inl e1),l0:=by rw[e1];exact hLs
  cellX:=λx c hk hc=>by
   refine aQ (l.cell x c hc) λo q1 q2 q3=>?_;exact⟨(bX o _ q1 q2 q3),hcn x c hc,λq=>.inr (.inr (au x hc q))⟩
  capK:=λx hx=>by rw[hkn];exact F.capK x hx
  cinj:=λx y c hx hy=>name_of_addr l.apart (I6 hx) (I6 hy)
  nofree:=λx=>by rw[hkn];exact F.nofree x
  own:=(au (λJ=>0) (λx j u hx hg=>absurd hg (noown x j u hx)) (λx y j k u w hx J hg=>absurd hg (noown x j u hx))) }
 refine aj P.stk λfr hfr hFr=>?_;have hfr':(A.deeper env).frames=aa (env::fr):=by show A.frames.map (env::·)=_;rw[hfr];rfl
 refine aj l.frm λoL hoL hcLL=>?_;have hLd:∃es ep,oL.data=.dict es ep:=by refine dz l.ns λo' es ep q1 q2 zz=>?_;rw[hoL]at q1;obtain rfl:=Jd q1;exact fU es ep q2
 refine dX hLd λes ep hLd=>?_;refine hQ env s₁ X1 S (au (env::fr) hfr' ⟨?_,(yf L oL es ep (by rw[S.efr,e1]) (h0 L hLs) (e1▸hoL) hcLL hLd),hFr.kp l.kp⟩) ⟨λb o e hc hx=>⟨l.kp.keep b o e,λq=>(hX1 b q).elim hx λq=>by rw[q]at e;exact nS e⟩⟩
  ⟨hroom.handled,?_,?_⟩ ⟨fr,hfr'⟩
 ·rw[e2,D.ki];decide
 ·have:=hroom.depth;show A.depth+1+n+3<recursionLimit;lia
 ·have:=hroom.units;show A.units+3+4*n+500<cLine;lia
end
section
variable{cx:Cx}{X0 X X' Pn:AP}{env:Env}{ay s s' s'':IY}{ρ ρ':Fr}{p p':List V}{A:I0}{h h':Heap}{n:Nat}{call:Call}{b:Bool}
noncomputable def ai.res(r:ai):Res:=@ai.rec (λJ=>Res) Res.stuck (λJ p=>Res.ok V.none p) (λJ J=>Res.stuck) (λJ J=>Res.stuck) (λv J p=>Res.ok v p) (λk J p=>Res.exc k p) r
theorem sC{d:aB}{args:List Slot}(e:gn d call args p≠.stuck):args.length=d.np/\gn d call args p=(d.body call (fill args) p).res:=by
 have q:gn d call args p=@Jp (λJ=>Res) Res.stuck (d.body call (fill args) p).res (Nat.beq (dA args) d.np):=rfl;rw[q]at e ⊢;induction hb:Nat.beq (dA args) d.np using Bool.casesOn with
 | false=>rw[hb]at e;exact absurd rfl e
 | true=>
  have:=Nat.eq_of_beq_eq_true hb;rw[cj]at this;exact⟨this,rfl⟩
theorem St.leave(S:St C cx X0 Pn env ay ρ p s X):bA C X0 Pn s.heap p:=S.vw.aE.tr (λa o e J hx=>⟨e,λq=>hx (S.sub a q)⟩) λJ J J e J=>e
theorem St.DH(S:St C cx X0 Pn env ay ρ p s X){v:V}{val:IZ}(r:aq C X s.heap v val):aq C X0 s.heap v val:=r.tr λa o e J hx=>⟨e,λq=>hx (S.sub a q)⟩
theorem x7{Q E:IZ->IY->Prop}{r:ai}{s₁:IY}{X1:AP}{outer:List Env}(hcls:∃q,C.cls=.ref q)(N:Ends C ag X Pn r.res Q E s)(hA:A.frames=aa (env::outer))(hfr:env.frame=aa env.locals):
  bE C cx X Pn env s A r (λf s'=>(λr s'=>match r with|.ok (.ret v)=>Q v s'|.ok _=>False|.error e=>E e s') (.ok (.ret (match f with|.ret v=>v|_=>.none)):Result) s')
   (λe s'=>wpAny (model C.prog C.w) A (leaving env e) (λJ s''=>E e s'') (λe' s''=>E e' s'') s') s₁ X1 where
 go:=λe=>N.1 (by refine rwl e ?_;rfl)
 next ρ' p' e:=λs' X' S' J J=>by
  have N:=N.2.1 .none p' (by refine rwl e ?_;rfl);exact N .none s' S'.nx S'.leave (by show aq C X _ _ _;simp[aq])
 brk ρ' p' e:=absurd (show r.res=.stuck by refine rwl e ?_;rfl) N.1
 cont ρ' p' e:=absurd (show r.res=.stuck by refine rwl e ?_;rfl) N.1
 ret v ρ' p' e:=λs' X' S' J J val hv=>N.2.1 v p' (by refine rwl e ?_;rfl) val s' S'.nx S'.leave (S'.DH hv)
 exc k ρ' p' e:=λs' X' S' k' ex hx=>by
  have N:=N.2.2 k p' (by refine rwl e ?_;rfl);refine aj k' λl hl hF=>?_;replace hl:=hA▸hl;obtain rfl:=Jd hl;refine oa hA hF hfr S'.vw.base S'.base0 S'.has hcls hx λs'' Y m x=>?_;have S'':=S'.marked m;exact N ex s'' S''.nx S''.leave x
theorem zy{a:I1}{names:List Str}{body:List Stmt}{d:aB}{args:List Slot}{vals:List IZ}{Q E:IZ->IY->Prop}(hcls:∃q,C.cls=.ref q)(F:nD C a cx names body)(hnp:d.np=names.length)(B:eA C cx body d.body)(hc:dJ C n call)
  (P:bp C (n+1) X Pn p A s) (ha:eP C X Pn s.heap args vals) (N:Ends C ag X Pn (gn d call args p) Q E s):wpAny (model C.prog C.w) A (PySem.call (.ref a) vals) Q E s:=by
 refine ao (sC N.1) λhl e=>?_;rw[e]at N;refine wpAny_call (rt F P ha (hl.trans hnp) λenv s₁ X1 S k kf hr hA=>?_);refine aw hA λouter hA=>?_;exact B n call hc X Pn env s (fill args) p s₁ X1 (A.deeper env) _ _ ⟨outer,hA⟩ S k hr (x7 hcls N hA S.efr)
end
section
variable{M:Model}{A:I0}{E:IZ->IY->Prop}{s:IY}
theorem B5{scope:Jc}{globals builtins a:I1}{closure:List (Str×I1)}{x:Str}{val code:IZ}{qual:Str}{Q:Env->IY->Prop}(hk:scope.kind=.function)(hc:∀x∈scope.names,x.2≠.cell)(hl:scope.names.lookup x=aa .local)
  (hQ:∀h' tk m,h'.Ns s.heap.objs.size m->m x=aa val->(∃o,h'.get? s.heap.objs.size=aa o/\o.cls=aY)->(∀b o,s.heap.get? b=aa o->h'.get? b=aa o)->Q (newEnv scope s.heap.objs.size globals closure qual (aa a) code ae builtins) { s with heap:=h',toks:=tk }):
  wpAny M A (newFunctionEnv scope globals closure [(x,val)] qual (aa a) code ae builtins) Q E s:=by
 simp only[newFunctionEnv,Option.isSome_none,Jo,if_false];refine az (wpAny_alloc ?_);rw[forIn_yield_id closure (λx hx c=>by
  obtain⟨name,kind⟩:=x;have:(kind==NameKind.cell)=ag:=by simpa using hc _ hx
  simp only[this,Jo,if_false])]
 refine az (IP (az ?_));rw[List.forIn_cons];have hk':Env.kindOf { scope,locals:=s.heap.objs.size,globals,cells:=closure,qual,func:=aa a,code,frame:=aa s.heap.objs.size,builtins } x=aa .local:=hl;rw[storeName_local hk' (by
  skip;rw[hk];rfl)]
 refine IQ (IQ (mP (s:={ s with heap:=s.heap.push { cls:=.type "frame",data:=.dict #[] } }) (Heap.Ns.new s.heap (.type "frame")) (Jh _ rfl) λh' o' hn' hs' ho' hc' hd'=>IP ?_));dsimp only;rw[List.forIn_nil];refine IP (IP (hQ h' _ _ hn' (by simp) (au o' ho' hc') λb o e=>?_));exact hs'.extBut b o (Jz (Jj e)) (Jg _ e)
end
structure wV(C:Cfg)(f:Nat)(d:aB):Prop where
 at_:∀fd cs,C.lam f fd cs->∃(cx:Cx)(x y:Str)(c:I1)(body:Expr)(db:aA),
  cs=[c]/\fd.closure=[(y,c)]/\fd.qualname=C.lqual/\fd.body=.expr body/\fd.scope.isCoroutine=ag/\fd.scope.isGenerator=ag/\fd.scope.kind=.function/\fd.globals=I4/\fd.builtins=I5/\
  fd.params.posonlyargs=[]/\fd.params.args.map (·.arg)=[x]/\fd.params.kwonlyargs=[]/\fd.params.vararg=ae/\fd.params.kwarg=ae/\fd.defaults=.none/\fd.scope.names=cx.sc/\
  (∀z∈cx.sc,z.2≠.cell)/\cx.sc.lookup x=aa .local/\cx.sc.lookup y=aa .free/\(∀z,cx.sc.lookup z=aa .free->z=y)/\(∀z j,cx.vars.lookup z=aa j->j=0/\z=x\/j=1/\z=y\/2<=j)/\cx.caps=[]/\d={ np:=2,body:=ax db }/\aL C cx ag body db
section
variable{cx:Cx}{X0 X X' Pn:AP}{env:Env}{ay s s' s'':IY}{ρ ρ':Fr}{p p':List V}{A:I0}{h h':Heap}{n:Nat}{call:Call}{b:Bool}
theorem Co{f:Nat}{d:aB}{caps:List V}{a:I1}{v:V}{val:IZ}{Q E:IZ->IY->Prop}(hcls:∃q,C.cls=.ref q)(hnl:C.h₀.NoLimit)(L:wV C f d)(hc:dJ C n call)(P:bp C (n+1) X Pn p A s)(hr:aq C X s.heap (.clo f caps) (.ref a))(hv:aq C X s.heap v val)
  (N:Ends C ag X Pn (gn d call (.val v::caps.map .val) p) Q E s):wpAny (model C.prog C.w) A (PySem.call (.ref a) [val]) Q E s:=by
 refine gk λG9 k81=>?_;refine ao (sC N.1) λhl e=>?_;rw[e]at N;simp only[aq]at hr;refine oC hr λa' cs vs e hXa z0 hXcs hcells hcaps=>?_;refine oC z0 λo fd cd ho hocls hd hlam hcode z0=>?_;obtain⟨hXc,oc,vsc,tk,g1,g2,g3,g4⟩:=z0;(injection e with h9;clear hXa;subst h9);refine Hq (L.at_ fd cs hlam) λcx x y c body db z0 f1 f2 f3 f4 f5 f6 zq=>?_;clear hlam;subst z0;refine CJ zq λf7 f8 f9 f10 f11 f12 f13 zq=>?_;refine CJ zq λf14 f15 f16 f17 f18 f19 f20 zq=>?_;refine bM zq λf21 z1 hB=>?_;clear L zq;subst z1;have hXc':¬X c:=hXcs c Js;refine aW hcells λw r z0 hcell z1=>?_;clear hcells;subst z0;subst z1;refine k81 ?_;obtain⟨cap,rfl⟩:=H3 (l:=caps) (by simpa using hl);have hcap:aq C X s.heap cap w:=(av.fz.mp hcaps).1;have hroom:=P.room;have hcr:s.heap.CodeRec fd.code fd.qualname:=vF cd oc vsc tk hcode g1 g3 (by rw[f2];exact g4);refine wpAny_call (PySem.W.kla_callFunE (by have:=hroom.depth;lia) ho hd f4 f5 f3 hcr ?_);refine nk f9 f10 f11 f12 f13 f14 rfl (by simp[distinct]) ?_;rw[f1];skip;refine B5 f6 (by rw[f15];exact f16) (by rw[f15];exact f17) λaT tk1 m hns hm hfrm hkeep=>?_;have kp:Kp s { s with heap:=aT,toks:=tk1 }:=⟨hkeep,rfl,rfl⟩;refine⟨(hnl.keeps P.base).keeps hkeep,PySem.W.kla_codeExpr ?_⟩;have hLs:s.heap.get? s.heap.objs.size=ae:=cN _;generalize hLL:s.heap.objs.size=L at *;generalize hE:newEnv fd.scope L fd.globals [(y,c)] (fd.qualname ++ ".<locals>.") (aa a) fd.code ae fd.builtins=env at *;have e1:env.locals=L:=by rw[← hE];rfl
 have e2:env.scope=fd.scope:=by rw[← hE];rfl
 have e3:env.cells=[(y,c)]:=by rw[← hE];rfl
 have e4:env.frame=aa L:=by rw[← hE];rfl
 have hkn:∀x,env.kindOf x=cx.sc.lookup x:=λx=>by unfold Env.kindOf;rw[e2,f15]
 have hX:∀b,X b->s.heap.get? b≠ae:=λb hb e=>by refine aw (P.lt b hb) λo q=>?_;rw[e]at q;exact nS q
 have h0:C.h₀.get? L=ae:=by
  induction q:C.h₀.get? L using Option.casesOn with
  | none=>rfl
  | some o=>have:=P.base L o q;rw[hLs]at this;exact nS this
 have T:Tr X s.heap (Xa X L) aT:=λb o e J hx=>⟨hkeep b o e,λq=>q.elim hx λq=>by rw[q,hLs]at e;exact nS e⟩;have hcell1:du aT c w:=by refine aQ hcell λo q1 q2 q3=>?_;exact aU o (hkeep c o q1) q2 q3
 have nx:Nx C Pn s { s with heap:=aT,toks:=tk1 }:=kp.nx P.base;have neL:∀{u:V}{z:IZ},aq C X s.heap u z->z≠.ref L:=λ{u z} r e=>by subst e;refine gk λG9 k82=>?_;refine ao (aq.obj r) λzz zq=>?_;refine aj zq λo q zz=>?_;refine k82 ?_;rw[hLs]at q;exact nS q
 have vw:Vw C cx (Xa X L) Pn env (fill [.val v,.val cap]) p aT:={
  kind:=by rw[e2];exact f6
  globals:=by rw[← hE];exact f7
  builtins:=by rw[← hE];exact f8
  kinds:=λx k hk=>⟨λJ=>by rw[hkn];exact hk,λe=>.inl (by rw[hkn];exact e▸hk)⟩
  cells:=λz hk=>by
   rw[hkn]at hk;rcases hk with hk|hk
   ·exact absurd rfl (f16 _ (I6 hk))
   ·rw[f19 z hk,e3];exact⟨c,by simp⟩
  vars:=λz j hz hu=>by
   rcases f20 z j hz with⟨rfl,rfl⟩|⟨rfl,rfl⟩|hj
   ·refine aU val ?_ (aq.tr T hv) (by rw[e1];exact neL hv);unfold Reads;rw[hkn,f17,e1];exact au m hns hm
   ·refine aU w ?_ (aq.tr T hcap) (by rw[e1];exact neL hcap);unfold Reads;rw[hkn,f18,e3];exact au c (by simp) hcell1
   ·have:=lY hu;rw[List.getElem?_eq_none (by simpa using hj)]at this;exact nS this
  own:=λz j u hz hg=>by
   have hu:aJ j (fill [.val v,.val cap])≠.undef:=by rw[hg];simp
   have:=lY hu;rcases f20 z j hz with⟨rfl,rfl⟩|⟨rfl,rfl⟩|hj
   ·rw[hg]at this;exact(nomatch this)
   ·rw[hg]at this;exact(nomatch this)
   ·rw[List.getElem?_eq_none (by simpa using hj)]at this;exact nS this
  code:=.inl f21
  caps:=λx c hx=>by rw[f21]at hx;simp at hx
  tab:=P.tab.keeps hkeep (λb (q:Xa X L b)=>Or.imp id (λ(q:b=L)=>.none (q▸hLs)) q)
  aE:=P.aE.tr T λb o J e J=>hkeep b o e
  pnX:=λb hb=>.inl (P.pnX b hb)
  base:=nx.ext.base
  lt:=λb hb=>hb.elim (λq=>let ⟨o,e⟩:=P.lt b q;⟨o,hkeep b o e⟩) λq=>by refine aj hfrm λo q' zz=>?_;exact⟨o,q▸q'⟩
  fresh:=λb hb=>hb.elim (P.fresh b) λq=>q▸h0 }
 refine aj P.stk λfr hfr hFr=>?_;have hfr':(A.deeper env).frames=aa (env::fr):=by show A.frames.map (env::·)=_;rw[hfr];rfl
 refine aj hfrm λoL hoL hcLL=>?_;obtain⟨es,ep,hLd⟩:∃es ep,oL.data=.dict es ep:=by refine dz hns λo' es ep q1 q2 zz=>?_;rw[hoL]at q1;obtain rfl:=Jd q1;exact fU es ep q2
 have k₁:bf C (A.deeper env) aT:=au (env::fr) hfr' ⟨by rw[e2,f6];decide,(yf L oL es ep e4 h0 hoL hcLL hLd),hFr.kp kp⟩;have GG:dU (A.deeper env) n:=⟨hroom.handled,by have:=hroom.depth;show A.depth+1+n+3<recursionLimit;lia,by have:=hroom.units;show A.units+3+4*n+500<cLine;lia⟩;have N:Ends C ag X Pn (@ai.rec (λJ=>Res) Res.stuck (λJ p=>Res.ok V.none p) (λJ J=>Res.stuck) (λJ J=>Res.stuck) (λv J p=>Res.ok v p) (λk J p=>Res.exc k p) (ax db call (fill [.val v,.val cap]) p)) Q E s:=N;have back:∀{s₂:IY}{bg:List V},bA C (Xa X L) Pn s₂.heap bg->bA C X Pn s₂.heap bg:=λR=>R.tr (λa o e J hx=>⟨e,λq=>hx (.inl q)⟩) λJ J J e J=>e;refine hB n call hc (Xa X L) Pn env (fill [.val v,.val cap]) p _ (A.deeper env) _ _ vw k₁ GG ⟨λe=>N.1 (by unfold ax;rw[e]),λu bg e val2 s₂ hn hp hu=>?_,λkk bg e ex s₂ hn hp hx=>?_⟩
 ·have e':(@ai.rec (λJ=>Res) Res.stuck (λJ p=>Res.ok V.none p) (λJ J=>Res.stuck) (λJ J=>Res.stuck) (λv J p=>Res.ok v p) (λk J p=>Res.exc k p) (ax db call (fill [.val v,.val cap]) p))=.ok u bg:=by unfold ax;rw[e]
  exact N.2.1 u bg e' val2 s₂ (nx.trans hn) (back hp) (aq.tr (λa o e J hx=>⟨e,λq=>hx (.inl q)⟩) hu)
 ·have e':(@ai.rec (λJ=>Res) Res.stuck (λJ p=>Res.ok V.none p) (λJ J=>Res.stuck) (λJ J=>Res.stuck) (λv J p=>Res.ok v p) (λk J p=>Res.exc k p) (ax db call (fill [.val v,.val cap]) p))=.exc kk bg:=by unfold ax;rw[e]
  have nx2:=nx.trans hn;have k₂:=k₁.ext hn.ext vw.aE;refine gk λG9 k83=>?_;refine aj k₂ λl hl hF=>?_;rw[hfr']at hl;obtain rfl:=Jd hl;refine k83 ?_;have hsub:∀b,(∃o,s.heap.get? b=aa o)->∃o,s₂.heap.get? b=aa o:=λb q=>Ext.lt nx2.ext hp b q;have hx':ExcAt C s.heap af (aa L) kk s₂.heap ex:=by
   have:=iE.at (env:=env) hx;rw[e1]at this;exact this.back λb o e=>⟨o,hkeep b o e⟩
  refine oa hfr' hF e4 nx2.ext.base P.base hsub hcls hx' λbr Y mk x=>?_;have nx3:Nx C Pn s br:=((nx2.grow (Y:=λb=>Pn b\/Y b) λJ q=>.inl q).trans (mk.nx.grow λJ q=>.inr q)).shrink λb hb=>hb.elim .inl λq=>.inr (mk.ok b q).1;refine N.2.2 kk bg e' ex br nx3 ?_ x;have hp:=back hp;have keep:∀b o,s₂.heap.get? b=aa o->cv o.cls->br.heap.get? b=aa o:=λb o e hcc=>mk.nx.ext.keep b o e (λq=>((mk.ok b q).2.2 o e).1 hcc) hcc.ne;exact⟨hp.one,λP' hP=>by
   refine gk λG9 k84=>?_;refine aj (hp.at_ P' hP) λvs' z0 r=>?_;refine ao z0 λz zq=>?_;refine aw zq λnn q=>?_;refine k84 ?_;exact au vs' ⟨z,nn,keep _ _ q (.inr (.inl rfl))⟩ (r.tr λa o e hcc hx=>⟨keep a o e hcc,hx⟩)⟩
end
section
structure Et(C:Cfg)(T:Tab):Prop where
 def_:∀f d,T.get f=aa d->C.isDef f=af->∃cx names body,nD C (C.fa f) cx names body/\d.np=names.length/\eA C cx body d.body
 lam:∀f d,T.get f=aa d->wV C f d
def nX(C:Cfg)(orc:iC):Prop:=∀f g,orc f=aa g->(∀fd cs,¬C.lam f fd cs)/\∀(n:Nat)(args:List Slot)(v:V),g n args=aa v->∀(p:List V)(X Pn:AP)(s:IY)(A:I0)(vals:List IZ)(Q E:IZ->IY->Prop),
 C.isDef f=af->bp C (n+1) X Pn p A s->eP C X Pn s.heap args vals->(∀val s',Nx C Pn s s'->bA C X Pn s'.heap p->aq C X s'.heap v val->Q val s')->wpAny (model C.prog C.w) A (PySem.call (.ref (C.fa f)) vals) Q E s
theorem me{T:Tab}{o:iC}{n f:Nat}{args:List Slot}{p:List V}:bw T o (n+1) f args p=(match o f with
  | some g=>(match g n args with
   | some v=>Res.ok v p
   | none=>(match T.get f with|some d=>gn d (bw T o n) args p|none=>.stuck))
  | none=>(match T.get f with|some d=>gn d (bw T o n) args p|none=>.stuck)):=by
 have e:bw T o (n+1) f args p=@Option.rec (Nat->List Slot->Option V) (λJ=>Res) (@Option.rec aB (λJ=>Res) Res.stuck (λd=>gn d (bw T o n) args p) (T.get f)) (λg=>@Option.rec V (λJ=>Res) (@Option.rec aB (λJ=>Res) Res.stuck (λd=>gn d (bw T o n) args p) (T.get f)) (λv=>Res.ok v p) (g n args)) (o f):=rfl;refine rwl e ?_;induction o f using Option.casesOn with
 | none=>induction T.get f using Option.casesOn<;>rfl
 | some g=>dsimp only;induction g n args using Option.casesOn<;>induction T.get f using Option.casesOn<;>rfl
theorem yv{T:Tab}{o:iC}(hcls:∃q,C.cls=.ref q)(hnl:C.h₀.NoLimit)(hT:Et C T)(hO:nX C o):∀n,dJ C n (bw T o n)
 | 0=>⟨λf args p X Pn s A vals Q E J J J N=>absurd rfl N.1,λf caps a v p X Pn s A val Q E J J J N=>absurd rfl N.1⟩
 | n+1=>by
  have ih:=yv hcls hnl hT hO n;constructor
  ·intro f args p X Pn s A vals Q E hd P ha N;replace N:=me▸N;have run:Ends C ag X Pn (match T.get f with|some d=>gn d (bw T o n) args p|none=>.stuck) Q E s->wpAny (model C.prog C.w) A (PySem.call (.ref (C.fa f)) vals) Q E s:=λN=>by
    refine oc (T.get f) (λhg=>?_) λd hg=>?_
    ·replace N:=hg▸N;exact absurd rfl N.1
    ·
     replace N:=hg▸N;refine dz (hT.def_ f d hg hd) λcx names body F hnp B=>?_;exact zy hcls F hnp B ih P ha N
   refine oc (o f) (λho=>?_) λg ho=>?_
   ·replace N:=ho▸N;exact run N
   ·
    replace N:=ho▸N;dsimp only at N;induction hv:g n args using Option.casesOn with
    | none=>replace N:=hv▸N;exact run N
    | some v=>
     replace N:=hv▸N;exact(hO f g ho).2 n args v hv p X Pn s A vals Q E hd P ha λval s' h1 h2 h3=>N.2.1 v p rfl val s' h1 h2 h3
  ·intro f caps a v p X Pn s A val Q E P hr hv N;replace N:=me▸N;have run:Ends C ag X Pn (match T.get f with|some d=>gn d (bw T o n) (.val v::caps.map .val) p|none=>.stuck) Q E s->wpAny (model C.prog C.w) A (PySem.call (.ref a) [val]) Q E s:=λN=>by
    refine oc (T.get f) (λhg=>?_) λd hg=>?_
    ·replace N:=hg▸N;exact absurd rfl N.1
    ·
     replace N:=hg▸N;exact Co hcls hnl (hT.lam f d hg) ih P hr hv N
   refine oc (o f) (λho=>?_) λg ho=>?_
   ·replace N:=ho▸N;exact run N
   ·
    have hr':=hr;simp only[aq]at hr';refine d9 hr' λa' cs vs e zz z0 zz=>?_;refine qj z0 λzz fd zz zz zz zz hlam zz=>?_;exact absurd hlam ((hO f g ho).1 fd cs)
end
def j5(C:Cfg)(cx:Cx)(xs:List Expr)(ds:List bk):Prop:=
 ∀(n:Nat)(call:Call),dJ C n call->∀(X Pn:AP)(env:Env)(ρ:Fr)(p:List V)(s:IY)(A:I0)(Q:List IZ->IY->Prop)(E:IZ->IY->Prop)(pos:Pos),
  Vw C cx X Pn env ρ p s.heap->bf C A s.heap->dU A n->bH C X Pn (dq ds call ρ p).out (λl s'=>∀vals,eP C X Pn s'.heap l vals->Q vals s') E s->wpAny (model C.prog C.w) A (spliced (backTo pos (starEach xs env))) Q E s
section
variable{fns:List (Str×Nat)}{glb:List (Str×V)}{mg mb:Str->Option IZ}{cx:Cx}{b:Bool}{X Pn:AP}{s s':IY}{A:I0}{n:Nat}{ρ:Fr}{p p':List V}{env:Env}{Q E:IZ->IY->Prop}{h h':Heap}{call:Call}
theorem j5.nil:j5 C cx [] []:=by
 intro n call hc X Pn env ρ p s A Q E pos hv hk hr N;exact wpAny_items_nil (N.jr (v:=[]) hv.base hv.aE _ rfl)
theorem j5.exp{x:Expr}{xs:List Expr}{d:aA}{ds:List bk}(hx:aL C cx ag x d)(hs:∀e p,x≠.Starred e p)(hxs:j5 C cx xs ds):j5 C cx (x::xs) (.exp d::ds):=by
 intro n call hc X Pn env ρ p s A Q E pos hv hk hr N;refine wpAny_items_cons ?_ (aZ hs env);have e:(dq (.exp d::ds) call ρ p).out=(d call ρ p).out.bind λv p=>(dq ds call ρ p).out.bind λl p=>.ok (Slot.val v::l) p:=by
  show(@Res.rec (λJ=>aV) aV.stuck (λv p=>(@aV.rec (λJ=>aV) aV.stuck (λl p=>aV.ok (Slot.val v::l) p) aV.exc (dq ds call ρ p))) aV.exc (d call ρ p)).out=_;rw[Dl]
  congr 1;funext v p
  rw[sO];rfl
 rw[e]at N;refine hx.run hc hv hk hr N λv p₁ val s₁ hn v1 k₁ hval N1=>hxs n call hc X Pn env ρ p₁ s₁ A _ E pos v1 k₁ hr (N1.bind λl bg s₂ J cJ hp2 N2 vals hvals=>?_);exact N2.jr cJ.ext.base hp2 _ (bX val vals rfl (aq.ext cJ.ext hv.pnX hval) hvals)
theorem j5.slot{x:Str}{px:Pos}{j:Nat}{xs:List Expr}{ds:List bk}(ok:bc x=af)(hj:cx.vars.lookup x=aa j)(hxs:j5 C cx xs ds):j5 C cx (.Name x px::xs) (.slot (aJ j)::ds):=by
 intro n call hc X Pn env ρ p s A Q E pos hv hk hr N;refine wpAny_items_cons ?_ rfl;have key:∀sl,aJ j ρ=sl->sl≠.undef->(∀u,sl≠.own u)->bH C X Pn ((dq ds call ρ p).out.bind λl p=>.ok (sl::l) p) (λl s'=>∀vals,eP C X Pn s'.heap l vals->Q vals s') E s->
   wpAny (model C.prog C.w) A (eval (.Name x px) env) (λv s₁=>wpAny (model C.prog C.w) A (spliced (backTo pos (starEach xs env))) (λvs s₂=>Q (v::vs) s₂) E s₁) E s:=λsl hg hu ho N=>by
  refine aQ (hv.vars x j hj (by refine rwl hg ?_;exact hu)) λval rd sr zz=>?_;refine wpAny_Name (cy hv.kind ok rd ?_) (cP ok);refine hxs n call hc X Pn env ρ p s A _ E pos hv hk hr (N.bind λl bg s₂ J cJ hp2 N2 vals hvals=>?_);refine N2.jr cJ.ext.base hp2 _ (bX val vals rfl ?_ hvals);replace sr:=hg▸sr;induction sl using Slot.casesOn with
  | val u=>exact aq.ext cJ.ext hv.pnX sr
  | aE=>exact sr
  | undef=>exact absurd rfl hu
  | own u=>exact absurd rfl (ho u)
 have e:dq (.slot (aJ j)::ds) call ρ p=@Slot.rec (λJ=>aV) aV.stuck (λv=>@aV.rec (λJ=>aV) aV.stuck (λl p=>aV.ok (Slot.val v::l) p) aV.exc (dq ds call ρ p)) (λJ=>aV.stuck) (@aV.rec (λJ=>aV) aV.stuck (λl p=>aV.ok (Slot.aE::l) p) aV.exc (dq ds call ρ p)) (aJ j ρ):=rfl;replace N:=e▸N;induction hg:aJ j ρ using Slot.casesOn with
 | undef=>replace N:=hg▸N;exact absurd rfl N.1
 | own u=>replace N:=hg▸N;exact absurd rfl N.1
 | val u=>
  replace N:=hg▸N;exact key _ hg (by simp) (by simp) (by
   have q:(@aV.rec (λJ=>aV) aV.stuck (λl p=>aV.ok (Slot.val u::l) p) aV.exc (dq ds call ρ p)).out=(dq ds call ρ p).out.bind λl p=>.ok (Slot.val u::l) p:=by rw[sO];rfl
   refine rwl q.symm ?_;exact N)
 | aE=>
  replace N:=hg▸N;exact key _ hg (by simp) (by simp) (by
   have q:(@aV.rec (λJ=>aV) aV.stuck (λl p=>aV.ok (Slot.aE::l) p) aV.exc (dq ds call ρ p)).out=(dq ds call ρ p).out.bind λl p=>.ok (Slot.aE::l) p:=by rw[sO];rfl
   refine rwl q.symm ?_;exact N)
theorem lN:∀{l:List Slot}{vals:List IZ},lk l=ag->eP C X Pn h l vals->eP C X (λJ=>False) h l vals
 | [],_,_,r=>r
 | sl::l,_,hp,⟨v,t,e,q1,q2⟩=>by
  induction sl using Slot.casesOn with
  | val u=>exact bX v t e q1 (lN (l:=l) hp q2)
  | aE=>exact absurd hp (by show ¬(af=ag);simp)
  | undef=>exact q1.elim
  | own u=>exact q1.elim
theorem Ends.strict{r:Res}(N:Ends C b X Pn r Q E s):Ends C ag X Pn r Q E s:=⟨N.1,λv p e val s' h1 h2 h3=>N.2.1 v p e val s' h1 h2 (.of h3),N.2.2⟩
theorem bp.rR(P:bp C n X Pn p A s):bp C n X (λJ=>False) [] A s:=
 ⟨P.room,P.stk,⟨λJ J q=>q.elim,λJ q=>q.elim⟩,λJ q=>q.elim,P.base,P.lt,P.fresh,P.tab⟩
theorem kX(P:bp C n X Pn p A s)(hn:Nx C (λJ=>False) s s'):bA C X Pn s'.heap p:=P.aE.tr (λa o e hc hx=>⟨hn.ext.keep a o e (λq=>q) hc.ne,hx⟩) λb o J e hc=>hn.ext.keep b o e (λq=>q) hc
theorem xZ{f:Nat}{l:List Slot}{vals:List IZ}(hc:dJ C n call)(hd:C.isDef f=af)(P:bp C n X Pn p A s)(ha:eP C X Pn s.heap l vals)(N:Ends C b X Pn (nT call f l p) Q E s):wpAny (model C.prog C.w) A (PySem.call (.ref (C.fa f)) vals) Q E s:=by
 have N:=N.strict;have e:nT call f l p=@Jp (λJ=>Res) (jL (call f l []) p) (call f l p) (lk l):=rfl;rw[e]at N;refine uW (lk l) (λhp=>?_) λhp=>?_
 ·rw[hp]at N;exact hc.def_ f l p X Pn s A vals Q E hd P ha N
 ·
  rw[hp]at N;have N:Ends C ag X Pn (jL (call f l []) p) Q E s:=N;refine hc.def_ f l [] X (λJ=>False) s A vals Q E hd P.rR (lN hp ha) ⟨λe=>N.1 (by unfold jL;rw[e]),λv p' e val s' hn J hv=>?_,λk p' e ex s' hn J hx=>?_⟩
  ·exact N.2.1 v p (by unfold jL;rw[e]) val s' (hn.grow λJ q=>q.elim) (kX P hn) hv
  ·exact N.2.2 k p (by unfold jL;rw[e]) ex s' (hn.grow λJ q=>q.elim) (kX P hn) hx
theorem tO{f:IZ}{xs:List Expr}{pos:Pos}{M:Model}{Q:Args->IY->Prop}(hs:∀x∈xs,∀e p,x≠.Starred e p)(h:wpAny M A (spliced (backTo pos (starEach xs env))) (λvs s'=>Q ⟨vs,[]⟩ s') E s):wpAny M A (evalArgs f af (backTo pos (starEach xs env)) []) Q E s:=by
 induction xs using List.casesOn with
 | nil=>
  unfold evalArgs;skip;refine az (IX h (λvs s' h'=>?_) λJ J x=>x);refine az (IP ?_);refine IS ?_;exact az (IP (IP h'))
 | cons x xs=>
  rw[aZ (hs x Js)]at h ⊢;exact Calls.evalArgs_plain h
theorem aL.Au{f:Str}{fp cp:Pos}{i:Nat}{xs:List Expr}{ds:List bk}(W:dG C fns glb mg mb)(hx:bc f=af)(hG:cx.d5 f=af)(hf:fns.lookup f=aa i)(hd:C.isDef i=af)(hs:∀x∈xs,∀e p,x≠.Starred e p)(ha:j5 C cx xs ds):
  aL C cx b (.Call (.Name f fp) xs [] cp) (ah i ds):=by
 intro n call hc X Pn env ρ p s A Q E hv hk hr N;have e:(ah i ds call ρ p).out=(dq ds call ρ p).out.bind λl p=>(nT call i l p).out:=by simp only[ud];exact Dm _ _
 have N:=N.o;simp only[e]at N;refine bY (W.fobj f i hf) λo fd ho hdat=>?_;refine wpAny_Call_Name_kw (ke W hv hx hG (W.defs f i hf) ?_);refine callWith_function (o:=o) (fd:=fd) (tO hs (ha n call hc X Pn env ρ p s A _ E cp hv hk hr (N.bind λl p₁ s₁ hl hn hp N1 vals hvals=>?_)));have v1:=hv.next hn.ext hp;have k₁:=hk.ext hn.ext hv.aE;exact⟨⟨v1.base _ _ ho,hdat⟩,xZ hc hd (v1.pre k₁ hr) hvals N1.e⟩
end
section
variable{fns:List (Str×Nat)}{glb:List (Str×V)}{mg mb:Str->Option IZ}{cx:Cx}{b:Bool}{X Pn:AP}{s s':IY}{A:I0}{n:Nat}{ρ:Fr}{p p':List V}{env:Env}{Q E:IZ->IY->Prop}{h h':Heap}{call:Call}
theorem Cq{g:d6}{d:aA}(e:o6 g d call ρ p≠.stuck):∃f caps,g ρ=.val (.clo f caps)/\(o6 g d call ρ p).out=(d call ρ p).out.bind λv p=>(jL (call f (.val v::caps.map .val) []) p).out:=by
 have h1:∃f caps,g ρ=.val (.clo f caps):=by
  unfold o6 at e
  split at e
  ·exact fU _ _ (‹_›)
  ·exact absurd rfl e
 refine dX h1 λf caps hg=>?_;refine gw f caps hg ?_;unfold o6;refine rwl hg ?_;dsimp only;induction d call ρ p using Res.casesOn<;>rfl
theorem aL.app{f:Str}{fp cp:Pos}{j:Nat}{x:Expr}{d:aA}(ok:bc f=af)(hj:cx.vars.lookup f=aa j)(hs:∀e p,x≠.Starred e p)(hx:aL C cx ag x d):aL C cx b (.Call (.Name f fp) [x] [] cp) (o6 (aJ j) d):=by
 intro n call hc X Pn env ρ p s A Q E hv hk hr N;refine bY (Cq N.1) λi caps hg e=>?_;have N:=N.o;replace N:=e▸N;refine aQ (hv.vars f j hj (by refine rwl hg ?_;simp)) λval rd sr zz=>?_;replace sr:=hg▸sr;have sr:aq C X s.heap (.clo i caps) val:=sr;have sr':=sr;dsimp only[aq]at sr';refine d9 sr' λa cs vs z0 hXa z1 zz=>?_;clear sr';clear sr;subst z0;refine d9 z1 λo fd zz ho hcls hdat zz=>?_;refine wpAny_Call_Name_kw (wpAny_Name (cy hv.kind ok rd ?_) (cP ok));refine rwl (pj hs) ?_;refine callWith_function (o:=o) (fd:=fd) (evalArgs_plain (spliced_cons (hx.run hc hv hk hr N λv p₁ val s₁ hn v1 k₁ hval N1=>spliced_nil ?_)));refine⟨⟨hn.ext.keep a o ho (λq=>hXa (hv.pnX a q)) (bx hcls (by decide)),hdat⟩,?_⟩;have N1:=N1.e.strict;have P:=v1.pre k₁ hr;refine hc.clo i caps a v [] X (λJ=>False) s₁ A val Q E P.rR (aq.ext hn.ext hv.pnX sr) hval ⟨λe=>N1.1 (by unfold jL;rw[e]),λw p' e val s' hn J hv=>?_,λk p' e ex s' hn J hx=>?_⟩
 ·exact N1.2.1 w p₁ (by unfold jL;rw[e]) val s' (hn.grow λJ q=>q.elim) (kX P hn) hv
 ·exact N1.2.2 k p₁ (by unfold jL;rw[e]) ex s' (hn.grow λJ q=>q.elim) (kX P hn) hx
theorem Cp{g:d6}{d:aA}(e:fA g d call ρ p≠.stuck):g ρ=.aE/\(fA g d call ρ p).out=(d call ρ p).out.bind λi p=>(@Option.rec V (λJ=>Res) Res.stuck (λv=>Res.ok v p) (aD (.lst p) i)).out:=by
 have q:fA g d call ρ p=@Slot.rec (λJ=>Res) Res.stuck (λJ=>Res.stuck) (λJ=>Res.stuck) (@Res.rec (λJ=>Res) Res.stuck (λi p=>@Option.rec V (λJ=>Res) Res.stuck (λv=>Res.ok v p) (aD (.lst p) i)) Res.exc (d call ρ p)) (g ρ):=rfl;rw[q]at e ⊢;induction hg:g ρ using Slot.casesOn with
 | aE=>exact⟨rfl,dj _ _⟩
 | _=>rw[hg]at e;exact absurd rfl e
theorem aL.aE{x:Str}{px sp:Pos}{j:Nat}{i:Expr}{d:aA}(ok:bc x=af)(hj:cx.vars.lookup x=aa j)(hi:aL C cx af i d):aL C cx b (.Subscript (.Name x px) i sp) (fA (aJ j) d):=by
 intro n call hc X Pn env ρ p s A Q E hv hk hr N;refine ao (Cp N.1) λhg e=>?_;have N:=N.o;replace N:=e▸N;refine aQ (hv.vars x j hj (by refine rwl hg ?_;simp)) λval rd sr zz=>?_;replace sr:=hg▸sr;refine aj sr λP z0 hP=>?_;clear sr;clear zz;subst z0;refine Subscript_ (wpAny_Name (cy hv.kind ok rd ?_) (cP ok));refine hi.run hc hv hk hr N λv p₁ val s₁ hn v1 k₁ hval N1=>?_;refine oc (aD (.lst p₁) v) (λhm=>?_) λw hm=>?_
 ·replace N1:=hm▸N1;exact absurd rfl N1.1
 ·
  replace N1:=hm▸N1;refine aj (v1.aE.at_ P hP) λvs hl hvs=>?_;have ho:bC C X (λJ=>False) s₁.heap (.lst p₁) (.ref P):=.inr (aU P rfl (λq=>q) (by dsimp only[aP];exact au vs hl hvs));have hval':bC C X (λJ=>False) s₁.heap v val:=by
   rcases hval with hval|⟨a,e,_,hval⟩
   ·exact .inl hval
   ·exact .inr (aU a e (λq=>q) hval)
  exact uU n X (λJ=>False) [] s₁ A Q E (.lst p₁) v w (.ref P) val (v1.pre k₁ hr).rR hm ho hval' λval' s' hkp hrep=>N1.kp v1.base v1.aE hkp _ (.of hrep)
end
section
variable{M:Model}{A:I0}{E:IZ->IY->Prop}{s:IY}{name qual:Str}{params:Arguments}{body:Expr}{scope:Jc}{env:Env}{c P:I1}{ps:Array IZ}{pos:Pos}{firstLine:Nat}{mg:Str->Option IZ}
 {q:Str×I1} {r:List (Str×I1)} {Q:IZ->IY->Prop}
open PySem.W in
theorem td(hcl:closureFor scope env=pure (q::r))(hge0:env.globals=I4)(hg:s.heap.Ns I4 mg)(hcode:env.code=.ref c)(C:CodeHd s.heap c P)(hP:s.heap.get? P=aa (tabObj ps))(ht:TriplesOk ps.toList)
  (hnf:codeAmong pos ps.toList=ae) (hgP:I4≠P) (hb:s.heap.BuiltinsAt mg P)
  (h:∀c' ctv h' tk,Heap.ExtBut P s.heap h'->s.heap.objs.size<=c'->(∃o vs t,h'.get? c'=aa o/\o.cls=.type "code" /\ o.data=.fields vs/\vs[1]?=aa (.str qual t))->h'.get? P=aa (tabObj (ps++#[rawInt pos.line,rawInt pos.col,.ref c']))->
   Q (.ref h'.objs.size) { s with heap:=h'.push (kla_obj name qual params body scope (q::r) ((mg "__name__").getD .none) c' ctv),toks:=tk }):
  wpAny M A (makeTail name qual params (.expr body) scope env .none .none ae pos firstLine) Q E s:=by
 refine Hw hb λbm ob hbm hne0 zz hneP hbo hcls hdict hdata=>?_;unfold makeTail;refine rwl hcl (rwl hge0 ?_);refine az (IP ?_);dsimp only[List.isEmpty_cons,Jo,if_false];refine az (wpAny_newTextTuple ?_);refine az (wpAny_functionCodeX hcode ((C.keeps λb o e=>Jg _ e).code (Jg _ hP) ht) ((C.keeps λb o e=>Jg _ e).tab (Jg _ hP)) hnf λc' h' tk hx hge hlt J hrec htb hcd=>?_);have hg':=(hg.push _).extBut hx hgP;have hx':Heap.ExtBut P s.heap h':=λb o hb' e=>hx b o hb' (Jg _ e);have hge':s.heap.objs.size<=c':=JF (by rw[Heap.size_push];exact Nat.le_succ _) hge;have hC:∃o vs t,h'.get? c'=aa o/\o.cls=.type "code" /\ o.data=.fields vs/\vs[1]?=aa (.str qual t):=by
  refine de hcd λP' zz zz z0 zz=>?_;refine dO z0 λo vs e1 e2 e3 zz=>?_;refine oB hrec λc₂ Di vs2 cY e g1 g2 g3=>?_;(injection e with h9;subst h9);replace g1:=e1▸g1;obtain rfl:=Jd g1;exact kC o vs2 cY e1 e2 g2 g3
 refine az (wpAny_builtinsFor hg' hbm hne0 (hx' _ _ hneP hbo) hcls hdict hdata ?_);refine az (wpAny_nsGet hg' ?_);exact az (IP (wpAny_newObj_type (h c' _ h' tk hx' hge' hC htb.2) (by size_fits)))
end
theorem rq{env:Env}(f:Str×NameKind->List (Str×I1)->Sem (ForInStep (List (Str×I1))))(hf:∀n k cs,f (n,k) cs=if k==.free then(do let a ← cellOf env n;pure (.yield ((n,a)::cs))) else pure (.yield cs)):
  ∀(names:List (Str×NameKind))(acc:List (Str×I1)),(names.filter λx=>x.2==.free)=[]->forIn names acc f=pure acc
 | [],acc,_=>by simp only[List.forIn_nil]
 | (n,k)::r,acc,h=>by
  simp only[List.filter_cons]at h;refine uW (k==NameKind.free) (λhk=>?_) λhk=>?_
  ·simp only[hk,if_true]at h;exact(nomatch h)
  ·
   simp only[hk,Jo,if_false]at h;simp only[List.forIn_cons,hf,hk];simp only[Jo,if_false];exact rq f hf r acc h
theorem tK{env:Env}{x:Str}{c:I1}(hc:env.cells.lookup x=aa c)(f:Str×NameKind->List (Str×I1)->Sem (ForInStep (List (Str×I1))))(hf:∀n k cs,f (n,k) cs=if k==.free then(do let a ← cellOf env n;pure (.yield ((n,a)::cs))) else pure (.yield cs)):
  ∀(names:List (Str×NameKind)),((names.filter λx=>x.2==.free).map (·.1))=[x]->forIn names [] f=pure [(x,c)]
 | [],h=>by exact(nomatch h)
 | (n,k)::r,h=>by
  simp only[List.filter_cons]at h;refine uW (k==NameKind.free) (λhk=>?_) λhk=>?_
  ·
   simp only[hk,if_true,List.map_cons,List.cons.injEq,List.map_eq_nil_iff]at h;obtain⟨rfl,h⟩:=h;simp only[List.forIn_cons,hf,hk];simp only[if_true];have e:cellOf env n=pure c:=by unfold cellOf;simp only[hc]
   simp only[e];skip;exact rq (env:=env) f hf r _ h
  ·
   simp only[hk,Jo,if_false]at h;simp only[List.forIn_cons,hf,hk];simp only[Jo,if_false];exact tK hc f hf r h
theorem uz{env:Env}{sc:Jc}{x:Str}{c:I1}(h:freeOf sc=[x])(hc:env.cells.lookup x=aa c):closureFor sc env=pure [(x,c)]:=by
 dsimp only[closureFor];refine rwl (tK hc _ (λn k cs=>rfl) sc.names h) ?_;rfl
structure wU(C:Cfg)(mg:Str->Option IZ)(f:Nat)(params:Arguments)(body:Expr)(sc:Jc)(pos:Pos)(x:Str):Prop where
 pl:C.h₀.get? C.pl=ae
 hd:PySem.W.CodeHd C.h₀ C.lc C.pl
 bm:C.h₀.BuiltinsAt mg C.pl
 pos:pos.line=C.lpos.line/\pos.col=C.lpos.col
 lam:∀c cd ct,C.lam f (PySem.W.kla_fn "<lambda>" C.lqual params body sc [(x,c)] ((mg "__name__").getD .none) (.ref cd) ct) [c]
 dflt:∀env,defaultsOf params env=([],[])
section
variable{fns:List (Str×Nat)}{glb:List (Str×V)}{mg mb:Str->Option IZ}{cx:Cx}{b:Bool}{X Pn:AP}{s s':IY}{A:I0}{n:Nat}{ρ:Fr}{p p':List V}{env:Env}{Q E:IZ->IY->Prop}{h h':Heap}{call:Call}
theorem rL{pos lp:Pos}{c:I1}(h:pos.line=lp.line/\pos.col=lp.col):codeAmong pos [rawInt lp.line,rawInt lp.col,.ref c]=aa (.ref c):=by
 refine rwl h.1.symm (rwl h.2.symm ?_);simp[codeAmong,rawInt]
open PySem.W in
theorem B4{f:Nat}{params:Arguments}{body:Expr}{sc:Jc}{pos:Pos}{x:Str}{c:I1}{v:V}{w:IZ}{Q:IZ->IY->Prop}(W:dG C fns glb mg mb)(L:wU C mg f params body sc pos x)(hv:Vw C cx X Pn env ρ p s.heap)(hcp:cx.caps≠[])(hfree:freeOf sc=[x])(hc:env.cells.lookup x=aa c)(hX:¬X c)(hw:du s.heap c w)(hr:aq C X s.heap v w)
  (hQ:∀val s',Nx C Pn s s'->bA C X Pn s'.heap p->aq C X s'.heap (.clo f [v]) val->Q val s'):wpAny (model C.prog C.w) A (eval (.Lambda params body sc pos) env) Q E s:=by
 refine ao (hv.code.resolve_left hcp) λhcode hq=>?_;have hcl:=uz hfree hc;have hplX:∀b o,s.heap.get? b=aa o->o.cls≠.none->s.heap.get? C.pl=aa { cls:=.none,data:=.fields #[] }->b≠C.pl:=λb o e hn ht q=>by
  replace e:=ht▸q▸e;obtain rfl:=Jd e;exact hn rfl
 have hgP:I4≠C.pl:=λq=>by
  refine lA W.g λo es ep e zz=>?_;replace e:=L.pl▸q▸e;exact nS e
 have hg:=hv.base.ns W.g;have hB:s.heap.BuiltinsAt mg C.pl:=jH L.bm λbm o b1 b2 b3 b4 b5 b6=>qh bm o b1 b2 b3 b4 (hv.base _ _ b5) b6;have hH:CodeHd s.heap C.lc C.pl:=L.hd.keeps hv.base
 -- what is shown of the new closure
 have fin:∀{s':IY} {a cd:I1} {ct:IZ},Nx C Pn s s'->bA C X Pn s'.heap p->s.heap.get? a=ae->s'.heap.get? a=aa { cls:=.type "function",data:=.func (kla_fn "<lambda>" C.lqual params body sc [(x,c)] ((mg "__name__").getD .none) (.ref cd) ct) }->gW C X s'.heap cd->Q (.ref a) s':=λ{s' a cd ct} hn hp ha ho hcd=>by
  have hXa:¬X a:=λq=>by refine aw (hv.lt a q) λo e=>?_;rw[ha]at e;exact nS e
  refine hQ _ s' hn hp ?_;simp only[aq];refine se a ([c]) ([w]) rfl hXa (se _ _ cd ho rfl rfl (L.lam c cd ct) rfl hcd) (λc' hc'=>by simp at hc';clear hc hw hcl ho;subst hc';exact hX) (bX w ([]) rfl (mq hn.ext (λq=>hX (hv.pnX c q)) hw) rfl) (av.cons (aq.ext hn.ext hv.pnX hr) .nil)
 refine kla_eval (L.dflt env) ?_;have hpen:∀{h':Heap},(∀b o,s.heap.get? b=aa o->Kc o->h'.get? b=aa o)->bA C X Pn h' p:=λk=>hv.aE.tr (λa o e hcc hx=>⟨k a o e hcc.ne,hx⟩) λb o J e hcc=>k b o e hcc;rw[makeFunction_eq];simp only[List.zip_nil_right,List.filterMap_nil,List.isEmpty_nil,if_true,pure_bind];refine rwl hq ?_;rcases hv.tab with ht|⟨cd,ht,hcd⟩
 ·refine td (mg:=mg) hcl hv.globals hg hcode hH ht trivial rfl hgP hB λc' ctv h' tk hx hge hC hP=>?_;have hc'0:s.heap.get? c'=ae:=gU hge;have hkeep:∀b o,s.heap.get? b=aa o->Kc o->(h'.push (kla_obj "<lambda>" C.lqual params body sc [(x,c)] ((mg "__name__").getD .none) c' ctv)).get? b=aa o:=λb o e hcc=>Jg _ (hx b o (hplX b o e hcc.2 ht) e);have hsz:s.heap.objs.size<=h'.objs.size:=by
   refine lA hC λo zz zz q zz=>?_;exact JF hge (JA (Jj q))
  have hXc:¬X c':=λq=>by refine aw (hv.lt c' q) λo e=>?_;replace e:=hc'0▸e;exact nS e
  have hCA:gW C X (h'.push (kla_obj "<lambda>" C.lqual params body sc [(x,c)] ((mg "__name__").getD .none) c' ctv)) c':=by
   refine d9 hC λo vs t q1 q2 q3 q4=>?_;exact⟨hXc,o,vs,t,Jg _ q1,q2,q3,q4⟩
  refine fin ⟨⟨λb o e=>?_,λb o e J hcc=>hkeep b o e hcc,λb o e J=>?_,λY J=>.inr (aU c' ?_ (λq=>?_) hCA.2)⟩,rfl,rfl⟩ (hpen hkeep) (gU hsz) (Jh _ rfl) hCA
  ·have hne:b≠C.pl:=λq=>by replace e:=L.pl▸q▸e;exact nS e
   exact Jg _ (hx b o hne (hv.base b o e))
  ·by_cases q:b=C.pl
   ·subst q;replace e:=ht▸e;obtain rfl:=Jd e;exact aU _ (Jg _ hP) rfl (.inl ⟨rfl,_,rfl⟩)
   ·exact aU o (Jg _ (hx b o q e)) rfl (.inr rfl)
  ·refine rwl (Jg _ hP) (rwl L.pos.1 (rwl L.pos.2 ?_));rfl
  ·refine bM q λzz zz z0=>?_;refine aw z0 λo e=>?_;replace e:=hc'0▸e;exact nS e
 ·refine kla_makeTailHit (mg:=mg) hcl hv.globals hg hcode hH ht (by simp[TriplesOk,rawInt]) (rL L.pos) hB λctv h' tk hk hsz=>?_;have hkeep:∀b o,s.heap.get? b=aa o->(h'.push { cls:=.type "function",data:=.func (kla_fn "<lambda>" C.lqual params body sc [(x,c)] ((mg "__name__").getD .none) (.ref cd) ctv) }).get? b=aa o:=λb o e=>Jg _ (hk b o e);have kp:Kp s { s with heap:=h'.push { cls:=.type "function",data:=.func (kla_fn "<lambda>" C.lqual params body sc [(x,c)] ((mg "__name__").getD .none) (.ref cd) ctv) },toks:=tk }:=⟨hkeep,rfl,rfl⟩;refine fin (kp.nx hv.base) (kp.aE hv.aE) (gU hsz) (Jh _ rfl) ?_;refine ao hcd λq0 zq=>?_;refine lA zq λo vs t q1 q2=>?_;exact⟨q0,o,vs,t,hkeep _ _ q1,q2⟩
theorem wN{g:d6}{l:List V}(e:j2 [g] ρ=aa l):∃v,g ρ=.val v/\l=[v]:=by
 unfold j2 at e;induction hg:g ρ using Slot.casesOn with
 | val v=>rw[hg]at e;dsimp only at e;unfold j2 at e;obtain rfl:=Jd e;exact au v rfl rfl
 | _=>rw[hg]at e;exact nS e
theorem aL.lam{params:Arguments}{body:Expr}{sc:Jc}{pos:Pos}{x:Str}{j:Nat}(W:dG C fns glb mg mb)(L:wU C mg cx.lam params body sc pos x)(hfree:freeOf sc=[x])(hj:cx.vars.lookup x=aa j)(hcap:cx.caps.contains x=af)(hcell:cx.sc.lookup x=aa .cell):
  aL C cx b (.Lambda params body sc pos) (uc cx.lam [aJ j]):=by
 intro n call hc X Pn env ρ p s A Q E hv hk hr N;have e:uc cx.lam [aJ j] call ρ p=match j2 [aJ j] ρ with|some l=>.ok (.clo cx.lam l) p|none=>.stuck:=rfl
 replace N:=e▸N;refine oc (j2 [aJ j] ρ) (λhcs=>?_) λl hcs=>?_
 ·replace N:=hcs▸N;exact absurd rfl N.1
 ·
  replace N:=hcs▸N;refine aj (wN hcs) λv hg z0=>?_;clear hcs;subst z0;refine aQ (hv.vars x j hj (by refine rwl hg ?_;simp)) λval rd sr zz=>?_;replace sr:=hg▸sr;have hkc:env.kindOf x=aa .cell:=(hv.kinds x .cell hcell).1 (by simp);unfold Reads at rd;replace rd:=hkc▸rd;refine aj rd λc hcl hci=>?_;exact B4 W L hv (λq=>by replace hcap:=q▸hcap;simp at hcap) hfree hcl (hv.caps x c hcap hcl) hci sr λval' s' hn hp hrep=>N.ok rfl hn hp hrep
end
section
variable{prog:Program}{w:World}{A:I0}{E:IZ->IY->Prop}{h:Heap}{g:Array GenState}{d:Drawn}{t:Nat}{os:OsState}{s:IY}
variable{nm q:Str}{K N e:I1}{bs:List IZ}{sn:List Str}{sub:List IZ}{ab:Bool}{col:Option Bool}{dd:Option I1}{k0 k1 k2 k3 k5:Option IZ}
theorem rH {v:IZ} {t0:I1} {Q:IZ->IY->Prop} (hK:h.get? K=aa (I7 nm q K N bs l5 af sn sub ab col dd k0 k1 k2 k3 k5 "Exception.__new__"))
  (he:h.get? e=aa { cls:=.ref K,data:=.fields #[.ref t0,.none,.none,.none,.bool ag,.none] })
  (hQ:∀h' t1,(∀b o,b≠e->h.get? b=aa o->h'.get? b=aa o)->h'.get? e=aa { cls:=.ref K,data:=.fields #[.ref t1,.none,.none,.none,.bool ag,.none] }->Q .none ⟨h',g,d,t,os⟩):
  wpAny (model prog w) A (PySem.call (.builtin "Exception.__init__") [.ref e,v]) Q E ⟨h,g,d,t,os⟩:=by
 have F:=PySem.F.excBase_Exception;refine wpAny_call (codeAny_call_builtin F.init.plain F.initEntry (wpAny_check_init_sub F hK he rfl ?_))
 wp_walk
 refine hQ _ h.objs.size (λb o hb eb=>?_) ?_
 ·rw[Heap.get?_update_other _ _ (Ne.symm hb)];exact Jg _ eb
 ·rw[Ji _ (Jg _ he) rfl];rfl
theorem yl:typeOf (.type "Exception")=pure (.type "type"):=by kernel_rfl
theorem wj {pl:Sem Bool} {Q:IZ×List IZ->IY->Prop} (h:Q (.builtin "Exception.__init__",[]) { s with toks:=s.toks+1 }):wpAny (model prog w) A (getMethod (.type "Exception") "__init__" pl) Q E s:=by
 have X:PySem.W.Frag.In [] s.heap:=λJ J e=>by exact nS e
 have hstub:opaqueClassAbove (.type "Exception")=pure ae:=by delta opaqueClassAbove;dsimp only;rw[show Manifest.isStub "Exception" = ag by decide +kernel];rfl
 have L0:PySem.W.Looks (model prog w) s.heap (typeOf (.type "Exception")) (.type "type"):=.of_pure yl;have hg:PySem.W.findIn [] (.type "type") "__getattribute__" = aa (aa (.builtin "type.__getattribute__")):=PySem.W.type_tga;delta getMethod specialOf;refine IQ (IQ (L0.here ((PySem.W.looks_findIn X hg).here ?_)));dsimp only;refine pe PySem.W.canon_tga ?_;refine IQ (IX (Q:=λv=>Q (v,[])) (E:=E) ?_ (λJ J z=>IP z) λJ J z=>z);have LO:PySem.W.Looks (model prog w) s.heap (opaqueClassAbove (.type "Exception")) ae:=.of_pure hstub;have hh:PySem.W.handedIn (.builtin "Exception.__init__")=af:=by decide +kernel
 have ef:PySem.W.findCls [] (.type "Exception") (.type "type") "__init__" = aa (.val (.builtin "Exception.__init__")):=by kernel_rfl
 refine PySem.W.cls_open X LO L0 hg (PySem.W.looks_hook X (r:=ae) (by rfl)) (by show PySem.W.subIn [] _ _=_;rfl) ef
  (IP (by show wpAny _ _ (handedOut _) _ _ _;rw[PySem.W.handedOut_of hh];exact IP h))
end
def F4 (hs h:Heap) (K e:I1) (kv:IZ):Prop:=∃oe d m t,h.get? e=aa oe/\oe.cls=.ref K/\oe.data=.fields #[.ref t,.none,.none,.none,.bool ag,.none]/\oe.dict=aa d/\h.Ns d m/\m "kind" = aa kv/\hs.get? d=ae
section
variable{prog:Program}{w:World}{A:I0}{E:IZ->IY->Prop}{s:IY}
variable{nm q:Str}{K N e fI:I1}{bs:List IZ}{sn:List Str}{sub:List IZ}{ab:Bool}{col:Option Bool}{dd:Option I1}{k0 k1 k2 k3 k5:Option IZ}
variable{mN mg mb:Str->Option IZ}
set_option tactic.hygienic true
theorem uo {bm:List IZ} {B newId sa owner:String} {e:I1} {o:Obj} {name:Str} {v:IZ} {h:Heap} {g:Array GenState} {d:Drawn} {t:Nat} {os:OsState} {Q:Unit->IY->Prop} (SF:StoreFacts B bm sa owner) (hC:h.get? K=aa (I7 nm q K N bs bm af sn sub ab col dd k0 k1 k2 k3 k5 newId)) (hn:h.Ns N mN) (hns:mN "__setattr__" = ae) (hna:mN name=ae)
  (hB:typeLookup (.type B) name=pure ae) (hx:h.get? e=aa o) (hc:o.cls=.ref K) (hnc:∀c,o.data≠.cls c) (hdn:o.dict=ae)
  (hq:∀h' tk' dx,h.get? dx=ae->h'.get? e=aa { o with dict:=aa dx }->h'.Ns1 dx (λy=>if y=name then aa v else ae)->(∀b ob,b≠e->h.get? b=aa ob->h'.get? b=aa ob)->Q () ⟨h',g,d,tk',os⟩):
  wpAny (model prog w) A (setAttr (.ref e) name v) Q E ⟨h,g,d,t,os⟩:=by
 have f3:=SF.slot.bind (.ref e);delta setAttr callSpecial? specialOf
 repeat (any_goals (first|assumption|(with_reducible refine wpAny_loadPart_at hx ?_;rw[hc])|(with_reducible refine wpAny_typeLookup_exc hC hn SF.mro SF.slot.lookup ?_;rw[hns])|wp_step))
 refine codeAny_call_builtin SF.slot.plain SF.entry (wpAny_check_sa SF hC hx hc ?_);have hpass:=SF.passes (.ref e);delta Builtin.«object.__setattr__»
 repeat (first|rw[refuse_eq]|(rw[refuseLoop_ref,hpass])|(with_reducible refine wpAny_loadPart_at hx ?_;rw[hc])|with_reducible refine wpAny_mroOf_exc hC ?_|(with_reducible refine wpAny_typeLookup_exc hC hn SF.mro hB ?_;rw[hna])|wp_step)
 rw[hdn,if_neg (by simp[typeHasDict])]
 split
 ·rename_i hcd;exact nS hcd
 split
 ·rename_i c hcd;exact absurd hcd (hnc c)
 ·have wx:(h.push { cls:=.type "dict",data:=.dict #[] }).get? e=aa o:=Jg _ hx;have hxs:e≠h.objs.size:=Jz (Jj hx);refine az (wpAny_alloc' ?_);refine az (wpAny_update' wx ?_);refine IP ?_;have hgd:((h.push { cls:=.type "dict",data:=.dict #[] }).update e λo=>{ cls:=o.cls,dict:=aa h.objs.size,data:=o.data,slots:=o.slots }).get? h.objs.size
    = aa { cls:=.type "dict",data:=.dict #[] }:=
   (Heap.get?_update_ne _ _ _ _ hxs.symm).trans (Heap.get?_push_at rfl rfl)
  have hnd:((h.push { cls:=.type "dict",data:=.dict #[] }).update e λo=>{ cls:=o.cls,dict:=aa h.objs.size,data:=o.data,slots:=o.slots }).Ns h.objs.size (λJ=>ae):=
   (kC _ (#[]) _ hgd rfl (λe he=>absurd he (by simp)) (λJ=>rfl))
  skip;delta Builtin.ObjectAttr.storeInDict Builtin.ObjectAttr.newKeyGuard;refine az (IP (az (wpAny_nsSet1 (Heap.Ns1.of_empty hnd) λh' hn' hs=>?_)));refine dz (hn'.count (Within.cons name v Within.nil)) λoD esD epD hoD hdD hcD=>?_;refine IQ (wpAny_lookBehind hoD (by rw[hdD];exact pastItsLine_dict (JF hcD (by rw[List.length_cons,List.length_nil,sizeLine_eq];decide))) ?_)
  wp_walk
  refine hq h' _ h.objs.size (cN h) ?_ ?_ λb ob hbx hb=>?_
  ·refine(hs.2 e hxs).trans (Ji _ wx ?_);have hfr:=(Heap.get?_some_iff.mp hx).2;obtain⟨oc,od,odt,osl⟩:=o;clear hx hc hnc hdn hq wx;induction odt using Data.casesOn<;>first|rfl|exact hfr
  ·refine qj hn' λo' es ep e1 e2 e3 eu e4=>?_;exact vH o' es ep e1 e2 e3 eu (λy=>by rw[e4 y])
  ·exact(hs.2 b (Jz (Jj hb))).trans ((Heap.get?_update_ne _ _ _ _ hbx).trans (Jg _ hb))
theorem uE:typeLookup (.type "Exception") "kind" = pure ae:=by rw[Ja,builtinLookup_eq_fast];kernel_rfl
theorem Bl:typeLookup (.type "Exception") "text" = pure ae:=by rw[Ja,builtinLookup_eq_fast];kernel_rfl
set_option tactic.hygienic false
theorem y8{fd:FuncData}{oI:Obj}{x y:Str}{tx ty:Tok}{t0:I1}{Q:IZ->IY->Prop}(hroom:A.depth<recursionLimit)
  (hK:s.heap.get? K=aa (I7 nm q K N bs l5 af sn sub ab col dd k0 k1 k2 k3 k5 "Exception.__new__")) (hN:s.heap.Ns N mN) (hs1:mN "__setattr__" = ae) (hs2:mN "kind" = ae) (hs3:mN "text" = ae)
  (hI:s.heap.get? fI=aa oI) (hd:oI.data=.func fd) (D:oz s.heap fd (.stmts jW) (["self","kind","text"]:List Str) fl)
  (hnl:s.heap.NoLimit) (hg:s.heap.Ns I4 mg) (hge:mg "Exception" = ae) (hb:s.heap.Ns I5 mb) (hbe:mb "Exception" = aa (.type "Exception"))
  (he:s.heap.get? e=aa { cls:=.ref K,data:=.fields #[.ref t0,.none,.none,.none,.bool ag,.none] }) (hx:x.cps.size<=3000) (hy:y.cps.size<=3000)
  (hQ:∀s',(∀b o,b≠e->s.heap.get? b=aa o->s'.heap.get? b=aa o)->s'.gens=s.gens->s'.os=s.os->F4 s.heap s'.heap K e (.str x tx)->Q .none s'):
  wpAny (model prog w) A (PySem.call (.ref fI) [.ref e,.str x tx,.str y ty]) Q E s:=by
 refine wpAny_call (codeAny_call_function hroom hI hd D.co D.ge D.bd D.cd ?_);refine nk D.po D.ar D.ko D.va D.kw D.df rfl (by decide +kernel) ?_;rw[D.clo];show wpAny _ _ (newFunctionEnv _ _ [] [("self",.ref e),("kind",.str x tx),("text",.str y ty)] _ _ _ _ _) _ _ _;refine th D.ki (λz hz=>.inl ?_) λs₁ l=>⟨hnl.keeps l.kp.keep,codeAny_func ?_⟩
 ·rw[D.sc];simp only[Jx,List.mem_singleton,List.not_mem_nil,or_false]at hz;rcases hz with rfl|rfl|rfl
  ·show fl.lookup ("self" : Str)=_;decide +kernel
  ·show fl.lookup ("kind" : Str)=_;decide +kernel
  ·show fl.lookup ("text" : Str)=_;decide +kernel
 generalize hL:s.heap.objs.size=L at *;generalize hE:jX fd L fI=env at *;have e1:env.locals=L:=by rw[← hE];rfl
 have e2:env.scope=fd.scope:=by rw[← hE];rfl
 have hk:env.scope.kind=.function:=by rw[e2];exact D.ki
 have hkn:∀z,env.kindOf z=fl.lookup z:=λz=>by delta Env.kindOf;rw[e2,D.sc]
 have k1':env.kindOf "self" = aa .local:=by rw[hkn];decide +kernel
 have k2':env.kindOf "kind" = aa .local:=by rw[hkn];decide +kernel
 have k3':env.kindOf "text" = aa .local:=by rw[hkn];decide +kernel
 have k4':env.kindOf "Exception" = aa .globalImplicit:=by rw[hkn];decide +kernel
 have hm:bindL env.kindOf [("self",.ref e),("kind",.str x tx),("text",.str y ty)] (λJ=>ae)=λz:Str=>if z=("text" : Str) then aa (Value.str y ty) else if z=("kind" : Str) then aa (Value.str x tx) else if z=("self" : Str) then aa (Value.ref e) else ae:=by
  simp only[bindL,k1',k2',k3',if_true]
 obtain⟨hkp,hns,hfrm,_,_,_,hfresh⟩:=l;rw[hm]at hns;generalize hmm:(λz:Str=>if z=("text" : Str) then aa (Value.str y ty) else if z=("kind" : Str) then aa (Value.str x tx) else if z=("self" : Str) then aa (Value.ref e) else ae)=m at hns
 have m1:m "self" = aa (.ref e):=by rw[← hmm];dsimp only;rw[if_neg (by decide +kernel),if_neg (by decide +kernel),if_pos rfl]
 have m2:m "kind" = aa (.str x tx):=by rw[← hmm];dsimp only;rw[if_neg (by decide +kernel),if_pos rfl]
 have m3:m "text" = aa (.str y ty):=by rw[← hmm];dsimp only;rw[if_pos rfl]
 have hint:interactive env=ag:=by delta interactive;rw[hk];rfl
 have heL:env.locals≠e:=λq=>by
  have:=Jj he;rw[e1]at q;rw[← q,hL]at this;exact JB _ this
 have eG:env.globals=I4:=by rw[← hE];exact D.gl
 have eB:env.builtins=I5:=by rw[← hE];exact D.bi
 skip;delta jW;have ld:∀{z:Str} {v:IZ} {s₂:IY} {A':I0} {E':IZ->IY->Prop} {Q':IZ->IY->Prop} {pos:Pos},s₂.heap.Ns env.locals m->env.kindOf z=aa .local->m z=aa v->(z==("__debug__" : Str))=ag->Q' v s₂->wpAny (model prog w) A' (eval (.Name z pos) env) Q' E' s₂:=λhn hkz hz hdb q=>wpAny_Name (wpAny_loadName_local hk hkz hn hz q) hdb;have hgs:s₁.heap.Ns I4 mg:=hg.keeps hkp.keep;have hbs:s₁.heap.Ns I5 mb:=hb.keeps hkp.keep;have trees:∀{a b:Expr}{pos:Pos},(∀x p,a≠.Starred x p)->(∀x p,b≠.Starred x p)->backTo pos (starEach [a,b] env)=[(ag,eval a env),(ag,eval b env)]:=λh1 h2=>mz h1 h2;refine wpAny_execs_cons (wpAny_Expr_any (PySem.W.methodCall_KW (Name_function_global hk k4' (loadGlobal_builtin (by rw[eG];exact hgs) hge (by rw[eB];exact hbs) hbe (wj ?_)) (by decide +kernel))) hint);skip;rw[trees (λJ J e=>by exact(nomatch e)) (λJ J e=>by exact(nomatch e))];refine call2 (.fn _) (ld (s₂:={ s₁ with toks:=s₁.toks+1 }) hns k1' m1 (by decide +kernel) ?_);refine wpAny_BinOp (wpAny_BinOp (ld (s₂:={ s₁ with toks:=s₁.toks+1 }) hns k2' m2 (by decide +kernel) (Constant_str ?_)));have hl2:(": " : Str).length=2:=by decide +kernel
 refine add_str (λt' tk=>?_) (by rw[hl2,bt];show x.cps.size+2<=_;lia);refine ld (s₂:={ s₁ with toks:=tk }) hns k3' m3 (by decide +kernel) ?_;refine add_str (λt'' tk'=>?_) ?_
 ·have hK1:=hkp.keep _ _ hK;have he1:=hkp.keep _ _ he;refine rH (h:=s₁.heap) (g:=s₁.gens) (d:=s₁.drawn) (t:=tk') (os:=s₁.os) hK1 he1 λh' t1 hk' he'=>?_;have heK:e≠K:=λq=>by rw[q,hK]at he;exact(nomatch he)
  have hns':h'.Ns env.locals m:=hns.at' λo eo=>hk' _ o heL eo;have hnN:h'.Ns N mN:=(hN.keeps hkp.keep).at' λo eo=>hk' _ o (λq=>by
   refine dz hN λo' es ep q1 q2 zz=>?_;rw[q,he]at q1;obtain rfl:=Jd q1;exact(nomatch q2)) eo
  have hK':=hk' K _ (Ne.symm heK) hK1;refine wpAny_execs_cons (plainObj_wpAny_Assign_Attribute (ld (s₂:=⟨h',s₁.gens,s₁.drawn,tk',s₁.os⟩) hns' k2' m2 (by decide +kernel) (ld (s₂:=⟨h',s₁.gens,s₁.drawn,tk',s₁.os⟩) hns' k1' m1 (by decide +kernel) ?_)) (by rfl));refine uo PySem.F.store_Exception hK' hnN hs1 hs2 uE he' rfl (by simp) rfl λbS tk2 dx hdx he2 pQ km=>?_;have hdxe:dx≠e:=λq=>by rw[q,he']at hdx;exact sN hdx
  have hns2:bS.Ns env.locals m:=hns'.at' λo eo=>km _ o heL eo;have hnN2:bS.Ns N mN:=hnN.at' λo eo=>km _ o (λq=>by
   refine dz hN λo' es ep q1 q2 zz=>?_;rw[q,he]at q1;obtain rfl:=Jd q1;exact(nomatch q2)) eo
  have hK2:=km K _ (Ne.symm heK) hK';refine wpAny_execs_cons (plainObj_wpAny_Assign_Attribute (ld (s₂:=⟨bS,s₁.gens,s₁.drawn,tk2,s₁.os⟩) hns2 k3' m3 (by decide +kernel) (ld (s₂:=⟨bS,s₁.gens,s₁.drawn,tk2,s₁.os⟩) hns2 k1' m1 (by decide +kernel) ?_)) (by rfl));refine store_attr (mA:=λy:Str=>if y=("kind" : Str) then aa (Value.str x tx) else ae) PySem.F.store_Exception hK2 hnN2 hs1 hs3 Bl heK (fm _ he2 rfl (by simp) (.inr (aU dx rfl hdxe pQ))) λkN tk3 I hk3 hsame=>?_
  refine wpAny_execs_nil ?_;refine mw (hsame _ he2) λmO q1 q2 q3 zz q5=>?_;refine hQ _ (λb o hbe hb=>?_) hkp.gens hkp.os ?_
  ·have hb1:=hkp.keep b o hb;have hb':=hk' b o hbe hb1;refine hk3 b o hbe (λo0 dx' q q'=>?_) (km b o hbe hb');rw[he2]at q;obtain rfl:=Jd q;obtain rfl:=Jd q';intro q;rw[q,hdx]at hb';exact nS hb'
  ·refine de I λDi r1 r2 zz r4=>?_;rw[q1]at r1;clear zz;obtain rfl:=Jd r1;have hd:=q5 dx rfl;rcases r4 with⟨r4,_⟩|⟨d',r4,_,r5⟩
   ·rw[hd]at r4;exact sN r4
   ·refine⟨_,d',_,t1,q1,r2,q3,r4,r5.ns,by rw[if_neg (by decide +kernel),if_pos rfl],?_⟩;have:d'=dx:=by rw[hd]at r4;clear left r5;obtain rfl:=Jd r4;rfl
    clear he2 pQ q2 q3 q5 hd;subst this;induction hq:s.heap.get? d' using Option.casesOn with
    | none=>rfl
    | some o=>have:=hk' d' o hdxe (hkp.keep d' o hq);rw[hdx]at this;exact nS this
 ·have e':(x++(": " : Str)).length=x.cps.size+2:=by
   show(x++(": " : Str)).cps.size=_;rw[Str.cps_append,Array.size_append];rfl
  rw[e',bt];show x.cps.size+2+y.cps.size<=_;lia
end
structure pb(C:Cfg)(mg:Str->Option IZ):Prop where
 at_:∃(K N fI:I1)(nm q:Str)(bs:List IZ)(sn:List Str)(sub:List IZ)(ab:Bool)(col:Option Bool)(dd:Option I1)(k0 k1 k2 k3 k5:Option IZ)(mN:Str->Option IZ)(oI:Obj)(fd:FuncData),
  C.cls=.ref K/\mg "CasFail" = aa (.ref K)/\C.h₀.get? K=aa (I7 nm q K N bs l5 af sn sub ab col dd k0 k1 k2 k3 k5 "Exception.__new__")/\C.h₀.Ns N mN/\mN "__init__" = aa (.ref fI)/\mN "__setattr__" = ae/\mN "kind" = ae/\mN "text" = ae/\mN "__getattribute__" = ae/\mN "__getattr__" = ae/\
  C.h₀.get? fI=aa oI/\oI.cls=.type "function" /\ oI.data=.func fd/\oz C.h₀ fd (.stmts jW) (["self","kind","text"]:List Str) fl
 exc:mg "Exception" = ae
section
variable{M:Model}{A:I0}{E:IZ->IY->Prop}{s:IY}{env:Env}
variable{nm q:Str}{K N:I1}{bs bm:List IZ}{hdct:Bool}{sn:List Str}{sub:List IZ}{ab:Bool}{col:Option Bool}{dd:Option I1}{k0 k1 k2 k3 k5:Option IZ}{newId:String}
theorem wb {x:Sem IZ} {Q:Flow->IY->Prop} (hbase:bm.contains (.type "BaseException")=af) (hh:A.handled=ae)
  (h:wpAny M A x (λv s₁=>∃e oe t,v=.ref e/\s₁.heap.get? K=aa (I7 nm q K N bs bm hdct sn sub ab col dd k0 k1 k2 k3 k5 newId)/\
   s₁.heap.get? e=aa oe/\oe.cls=.ref K/\oe.data=.fields #[.ref t,.none,.none,.none,.bool ag,.none]/\E (.ref e) s₁) E s):
  wpAny M A (raiseStmt env (aa x) ae) Q E s:=by
 have hcB:(Value.ref K::bm).contains (.type "BaseException")=af:=by rw[List.contains_cons,hbase,Bool.or_true]
 delta raiseStmt;refine az (IX h (λv s₁ aT=>?_) λJ J x=>x);refine oC aT λe oe t z0 hC he hc hd hE=>?_;clear aT;subst z0;obtain⟨hp,g,d,tk,os⟩:=s₁
 repeat (first|(with_reducible refine wpAny_loadPart_at he ?_;rw[hc])|with_reducible refine wpAny_loadPart_at he ?_|with_reducible refine wpAny_loadPart_at hC ?_|(with_reducible refine wpAny_isSubtype_exc hC ?_;rw[hcB])|wp_step)
 rw[hd];refine IP ?_;show wpAny _ _ (pure Value.none) _ _ _;refine IP ?_;refine eU (by decide) ?_;exact IP (wpAny_raiseNew_none hh hE)
end
section
variable{prog:Program}{w:World}{A:I0}{E:IZ->IY->Prop}{s:IY}{env:Env}
variable{nm q:Str}{K N:I1}{bs bm:List IZ}{hdct:Bool}{sn:List Str}{sub:List IZ}{ab:Bool}{col:Option Bool}{dd:Option I1}{k0 k1 k2 k3 k5:Option IZ}{newId:String}
theorem callWith_cls{cp:Pos}{t u:Sem IZ}{Q:IZ->IY->Prop}
  (h:wpAny (model prog w) A t (λv s₁=>wpAny (model prog w) A u (λx s₂=>s₂.heap.get? K=aa (I7 nm q K N bs bm hdct sn sub ab col dd k0 k1 k2 k3 k5 newId)/\wpAny (model prog w) A (PySem.call (.ref K) [v,x]) Q E s₂) E s₁) E s):
  wpAny (model prog w) A (callWith cp (.ref K) [] [(ag,t),(ag,u)] []) Q E s:=by
 delta callWith;refine az (IS (IX (evalArgs_plain (spliced_cons (IX h (λJ J aT=>spliced_cons (IX aT (λJ J bS=>spliced_nil (gw _ _ rfl bS)) λJ J x=>x)) λJ J x=>x)) (Q:=λa s₂=>∃v x,a=⟨[v,x],[]⟩/\s₂.heap.get? K=aa (I7 nm q K N bs bm hdct sn sub ab col dd k0 k1 k2 k3 k5 newId)/\wpAny (model prog w) A (PySem.call (.ref K) [v,x]) Q E s₂)) (λa s₂ bS=>az (IV ?_)) λJ J x=>x));refine xs23 a bS λv x hK hc=>?_;obtain⟨hp,g,d,tk,os⟩:=s₂;refine az (wpAny_keeperOf_exc hK ?_);exact az (IX hc (λr br kN=>az (IS (wpAny_point (IP kN)))) λJ J x=>x)
end
section
variable{fns:List (Str×Nat)}{glb:List (Str×V)}{mg mb:Str->Option IZ}{cx:Cx}{X0 X X' Pn:AP}{env:Env}{ay s s':IY}{ρ:Fr}{p p':List V}{A:I0}{Q:Flow->IY->Prop}{E:IZ->IY->Prop}{n:Nat}{call:Call}
noncomputable def mM(k t:V)(ρ:Fr)(p:List V):ai:=match k with
 | .str k=>match t with
  | .str t=>match short lid k with
   | true=>match short lid t with
    | true=>.exc k ρ p
    | false=>.stuck
   | false=>.stuck
  | _=>.stuck
 | _=>.stuck
theorem xi{dk dx:aA}:dW dk dx call ρ p=@Res.rec (λJ=>ai) ai.stuck (λk p=>@Res.rec (λJ=>ai) ai.stuck (λt p=>mM k t ρ p) (λe p=>ai.exc e ρ p) (dx call ρ p)) (λe p=>ai.exc e ρ p) (dk call ρ p):=by
 delta dW mM;induction dk call ρ p using Res.casesOn with
 | stuck=>rfl
 | exc k q=>rfl
 | ok k q=>dsimp only;induction dx call ρ q using Res.casesOn<;>rfl
theorem xo{k t:V}(e:mM k t ρ p≠.stuck):∃a b,k=.str a/\t=.str b/\a.length<=3000/\b.length<=3000/\mM k t ρ p=.exc a ρ p:=by
 induction k using V.casesOn with
 | str a=>induction t using V.casesOn with
  | str b=>
   have q:mM (.str a) (.str b) ρ p=match short lid a with|true=>(match short lid b with|true=>ai.exc a ρ p|false=>.stuck)|false=>.stuck:=rfl
   rw[q]at e ⊢;induction h1:short lid a using Bool.casesOn with
   | false=>rw[h1]at e;exact absurd rfl e
   | true=>
    rw[h1]at e;induction h2:short lid b using Bool.casesOn with
    | false=>rw[h2]at e;exact absurd rfl e
    | true=>exact gv a b rfl rfl (dZ h1) (dZ h2) rfl
  | _=>exact absurd rfl e
 | _=>exact absurd rfl e
theorem bu.raise {k x:Expr} {dk dx:aA} {np cp pos:Pos} (W:dG C fns glb mg mb) (Y:pb C mg) (hG:cx.d5 "CasFail" = af) (hk':aL C cx ag k dk) (hx':aL C cx ag x dx) (h1:∀e p,k≠.Starred e p) (h2:∀e p,x≠.Starred e p):
  bu C cx (.Raise (aa (.Call (.Name "CasFail" np) [k,x] [] cp)) ae pos) (dW dk dx):=by
 intro n call hc X0 Pn env ay ρ p s X A Q E hA S Ig hrm N;rw[xi]at N;refine jG Y.at_ λK Nn fI nm q bs zq=>?_;refine jG zq λsn sub ab col dd k0 zq=>?_;refine jG zq λk1 k2 k3 k5 mN oI zq=>?_;refine kD zq λfd c1 c2 c3 c4 c5 c6 c7 zq=>?_;refine CK zq λc8 zz zz c9 c10 c11 D=>?_;show wpAny (model C.prog C.w) A (do standAt pos;raiseStmt env (aa (do let v ← eval (.Call (.Name "CasFail" np) [k,x] [] cp) env;standAt pos;pure v)) ae) Q E s
 refine az (IV (wb (K:=K) (nm:=nm) (q:=q) (N:=Nn) (bs:=bs) (bm:=l5) (hdct:=af) (sn:=sn) (sub:=sub) (ab:=ab) (col:=col) (dd:=dd) (k0:=k0) (k1:=k1) (k2:=k2) (k3:=k3) (k5:=k5) (newId := "Exception.__new__") (by decide +kernel) hrm.handled (az (IX (Q:=λv s₁=>_) (wpAny_Call_Name_kw (ke W S.vw (by decide +kernel) hG c2 ?_)) (λv s₁ q=>az (IV (IP q))) λJ J x=>x))));rw[mz h1 h2];refine callWith_cls (nm:=nm) (q:=q) (N:=Nn) (bs:=bs) (bm:=l5) (hdct:=af) (sn:=sn) (sub:=sub) (ab:=ab) (col:=col) (dd:=dd) (k0:=k0) (k1:=k1) (k2:=k2) (k3:=k3) (k5:=k5) (newId := "Exception.__new__") (hk'.st hc S Ig hrm N λkv p₁ kval s₁ S1 k₁ kf hn hkv N1=>hx'.st hc S1 k₁ hrm N1 λtv bg tval s₂ S2 k₂ kf2 cJ htv N2=>?_);have hkv:aq C X s₂.heap kv kval:=aq.tr kf2.tr hkv;refine lB (xo N2.go) λa b z0 z1 la lb e=>?_;subst z0;subst z1;rw[e]at N2;have htv:aq C X s₂.heap (.str b) tval:=htv;simp only[aq]at hkv htv;refine xs22 kval hkv λxs tx z1=>?_;clear N1 hkv;subst z1;refine xs22 tval htv λys ty z1=>?_;clear e;subst z1;have hB:=S2.vw.base;have hK:=hB _ _ c3;refine⟨hK,?_⟩;clear kf2 cJ htv;obtain⟨hp,g,d,tk,os⟩:=s₂;refine wpAny_call_exc_init PySem.F.excBase_Exception hK (hB.ns c4) c5 (hB _ _ c9) c10 (λh' e hm=>?_) (by simp[bt]);have hkeep:∀b o,C.h₀.get? b=aa o->h'.get? b=aa o:=λb o eb=>hm.keeps b o (hB b o eb);refine aQ hm.there λt0 he zz zz=>?_;have hne:∀b o,hp.get? b=aa o->b≠e:=λb o eb q=>by rw[q,hm.new]at eb;exact nS eb
 refine y8 (s:=⟨h',g,d,tk,os⟩) (by have:=hrm.depth;show A.depth+1<_;lia) (hm.keeps _ _ hK) (c4.at' λo eo=>hkeep _ o eo) c6 c7 c8 (hkeep _ _ c9) c11 (D.keeps hkeep) (W.nolimit.keeps hkeep) (W.g.at' λo eo=>hkeep _ o eo) Y.exc (W.b.at' λo eo=>hkeep _ o eo)
  (by rw[W.bi _ (by decide +kernel)];decide +kernel) he (by simpa using la) (by simpa using lb) λs' hk hg ho hx=>⟨rfl,?_⟩
 refine Ht hx λoe d' m t q1 q2 q3 q4 q5 q6 q7=>?_;have kp:Kp ⟨hp,g,d,tk,os⟩ s':=⟨λb o eb=>hk b o (hne b o eb) (hm.keeps b o eb),hg,ho⟩;refine se e oe t rfl (kp.keep _ _ hK) q1 q2 q3 ?_;refine ao (S2.kp kp) λS3 kf3=>?_;refine N2.exc _ ρ bg rfl s' X S3 (k₂.kp S2 kp) _ ⟨e,oe,d',m,xs,tx,_,rfl,q1,q2.trans c1.symm,q4,q5,q6,rfl,⟨S2.old hm.new,S2.old (by
  induction hq:hp.get? d' using Option.casesOn with
  | none=>rfl
  | some o=>have:=hm.keeps d' o hq;rw[q7]at this;exact nS this)⟩,q3,.inl ⟨rfl,rfl⟩⟩
end
structure jF(B:String)(bm:List IZ):Prop where
 ga:PySem.Slot B "__getattribute__" "BaseException.__getattribute__"
 mro:mroOf (.type B)=pure bm
 noGetattr:typeLookup (.type B) "__getattr__" = pure ae
 hasBase:bm.contains (.type "BaseException")=af
theorem tc:jF "Exception" l5 where
 ga:=.of (owner := "BaseException") (n := "__getattribute__") (by rw[Ja,builtinLookup_eq_fast];kernel_rfl) (by decide +kernel) (by decide +kernel) (by decide +kernel)
  (by first|exact .inl (by decide +kernel)|exact .inr (by decide +kernel)) (by rw[isSubtype_type];kernel_rfl)
 mro:=by kernel_rfl
 noGetattr:=by rw[Ja,builtinLookup_eq_fast];kernel_rfl
 hasBase:=by decide +kernel
section
variable{prog:Program}{w:World}{A:I0}{E:IZ->IY->Prop}{h:Heap}{g:Array GenState}{d:Drawn}{t:Nat}{os:OsState}{a dx:I1}{o:Obj}{vs:Array IZ}
 {nm q:Str} {K N:I1} {bs bm:List IZ} {hdct:Bool} {sn:List Str} {sub:List IZ} {ab:Bool} {col:Option Bool} {dd:Option I1} {k0 k1 k2 k3 k5:Option IZ} {B newId:String} {mN m:Str->Option IZ} {name:Str} {v:IZ}
theorem yY{tk:Tok}{Q:Fin->IY->Prop}(FB:jF B bm)(hC:h.get? K=aa (I7 nm q K N bs bm af sn sub ab col dd k0 k1 k2 k3 k5 newId))(hN:h.Ns N mN)(hna:mN name=ae)(hB:typeLookup (.type B) name=pure ae)
  (hx:h.get? a=aa o) (hc:o.cls=.ref K) (hd:o.data=.fields vs) (hdx:o.dict=aa dx) (hns:h.Ns dx m) (hv:m name=aa v) (hq:Q (.done (.ret v)) ⟨h,g,d,t,os⟩):
  wpAny (model prog w) A (Builtin.«object.__getattribute__» ⟨[.ref a,.str name tk],[]⟩) Q E ⟨h,g,d,t,os⟩:=by
 repeat (any_goals (first|assumption|(with_reducible refine wpAny_loadPart_at hx ?_;rw[hc])|(with_reducible refine wpAny_typeLookup_exc hC hN FB.mro hB ?_;rw[hna])|(with_reducible refine wpAny_nsGet hns ?_;rw[hv])|wp_step))
 rw[hd];dsimp only;unfold instanceDict
 repeat (first|(with_reducible refine wpAny_loadPart_at hx ?_;rw[hc])|with_reducible refine wpAny_loadPart_at hC ?_|wp_step)
 rw[hdx]
 repeat (first|(with_reducible refine wpAny_nsGet hns ?_;rw[hv])|wp_step)
 exact hq
theorem yZ{M:Model}{nameV:IZ}{Q:Unit->IY->Prop}(FB:jF B bm)(hC:h.get? K=aa (I7 nm q K N bs bm hdct sn sub ab col dd k0 k1 k2 k3 k5 newId))
  (hx:h.get? a=aa o) (hc:o.cls=.ref K) (hq:Q () ⟨h,g,d,t,os⟩):wpAny M A (checkBuiltinCall "BaseException.__getattribute__" ⟨[.ref a,nameV],[]⟩) Q E ⟨h,g,d,t,os⟩:=by
 have hk:builtinKind "BaseException.__getattribute__" = aa .slot:=by decide +kernel
 have hsplit:splitId "BaseException.__getattribute__" = aa ("BaseException","__getattribute__"):=by decide +kernel
 have hcB:(Value.ref K::bm).contains (.type "BaseException")=af:=by rw[List.contains_cons,FB.hasBase,Bool.or_true]
 have ha:=PySem.F.args_bexc_ga (.ref a) nameV;simp only[checkBuiltinCall,hk,hsplit];refine az ?_
 ·unfold isInstance
  repeat (first|(with_reducible refine wpAny_loadPart_at hx ?_;rw[hc])|(with_reducible refine wpAny_isSubtype_exc hC ?_;rw[hcB])|wp_step)
  exact hq
theorem BY{tk:Tok}{R:Result->IY->Prop}(FB:jF B bm)(hC:h.get? K=aa (I7 nm q K N bs bm af sn sub ab col dd k0 k1 k2 k3 k5 newId))(hN:h.Ns N mN)(hna:mN name=ae)(hB:typeLookup (.type B) name=pure ae)
  (hx:h.get? a=aa o) (hc:o.cls=.ref K) (hd:o.data=.fields vs) (hdx:o.dict=aa dx) (hns:h.Ns dx m) (hv:m name=aa v) (hq:R (.ok (.ret v)) ⟨h,g,d,t,os⟩):
  codeAny (model prog w) A (.call (.builtin "BaseException.__getattribute__") ⟨[.ref a,.str name tk],[]⟩) R ⟨h,g,d,t,os⟩:=
 codeAny_call_builtin FB.ga.plain PySem.F.entry_bexc_ga (yZ FB hC hx hc (yY FB hC hN hna hB hx hc hd hdx hns hv hq))
theorem GB {tk:Tok} {fill expr:Bool} {Q:IZ->IY->Prop} (FB:jF B bm) (hC:h.get? K=aa (I7 nm q K N bs bm af sn sub ab col dd k0 k1 k2 k3 k5 newId)) (hN:h.Ns N mN) (hna:mN name=ae) (hng:mN "__getattribute__" = ae) (hnh:mN "__getattr__" = ae) (hB:typeLookup (.type B) name=pure ae)
  (hx:h.get? a=aa o) (hc:o.cls=.ref K) (hd:o.data=.fields vs) (hdx:o.dict=aa dx) (hns:h.Ns dx m) (hv:m name=aa v) (hh:handedOut v=pure v) (hq:Q v ⟨h,g,d,t,os⟩):
  wpAny (model prog w) A (getAttrBy (.ref a) (.str name tk) fill expr) Q E ⟨h,g,d,t,os⟩:=by
 have f3:=FB.ga.bind (.ref a);have hx0:(expr&&onTheHeap (Value.builtin "BaseException.__getattribute__"))=ag:=by induction expr using Bool.casesOn<;>rfl
 have hx2:(Value.builtin "BaseException.__getattribute__" == Value.builtin "object.__getattribute__")=ag:=by decide +kernel
 have hx1:(onTheHeap (Value.ref K)&&Value.builtin "BaseException.__getattribute__" == Value.builtin "object.__getattribute__")=ag:=by rw[hx2];rfl
 repeat (any_goals (first|assumption|(with_reducible refine wpAny_loadPart_at hx ?_;rw[hc])|(with_reducible refine wpAny_typeLookup_exc hC hN FB.mro FB.ga.lookup ?_;rw[hng])|(with_reducible refine wpAny_typeLookup_exc hC hN FB.mro FB.noGetattr ?_;rw[hnh])|wp_step))
 refine BY FB hC hN hna hB hx hc hd hdx hns hv ?_
 repeat (any_goals (first|assumption|wp_step))
theorem BZ {expr:Bool} {Q:IZ->IY->Prop} (FB:jF B bm) (hC:h.get? K=aa (I7 nm q K N bs bm af sn sub ab col dd k0 k1 k2 k3 k5 newId)) (hN:h.Ns N mN) (hna:mN name=ae) (hng:mN "__getattribute__" = ae) (hnh:mN "__getattr__" = ae) (hB:typeLookup (.type B) name=pure ae)
  (hx:h.get? a=aa o) (hc:o.cls=.ref K) (hd:o.data=.fields vs) (hdx:o.dict=aa dx) (hns:h.Ns dx m) (hv:m name=aa v) (hh:handedOut v=pure v) (hq:Q v ⟨h,g,d,t+1,os⟩):
  wpAny (model prog w) A (getAttr (.ref a) name expr) Q E ⟨h,g,d,t,os⟩:=by
 unfold getAttr
 repeat (any_goals (first|assumption|with_reducible apply GB FB hC hN hna hng hnh hB hx hc hd hdx hns hv hh|wp_step))
end
section
variable{M:Model}{A:I0}{E:IZ->IY->Prop}{s:IY}{env:Env}
theorem xx{a:I1}{m:Str->Option IZ}{name:Str}{o:Obj}{v:IZ}{Q:Bool->IY->Prop}(hn:s.heap.Ns a m)(ho:s.heap.get? a=aa o)(hv:m name=aa v)
  (hQ:∀h' o' m',h'.Ns a m'->Jk a s.heap h'->h'.get? a=aa o'->o'.cls=o.cls->Q af { s with heap:=h' }):wpAny M A (nsDel a name) Q E s:=by
 refine d9 (id hn) λo' es ep ho' hd hk hm=>?_;rw[ho]at ho';obtain rfl:=Jd ho';have hany:es.any (·.refKey)=ag:=by
  rw[Array.any_eq_false'];intro e he;refine dX (hk e he) λn t h=>?_;simp[DictEntry.refKey,h]
 have hsome:es.any (·.key.isStr name)=af:=by
  have e:=hm name;rw[hv]at e;simp only[nsFind,findBy,Option.map_eq_some_iff]at e;refine aj e λx hx zz=>?_;have:=Array.find?_some hx;rw[Array.any_eq_true];obtain⟨i,hi,q⟩:=Array.mem_iff_getElem.mp (Array.mem_of_find?_eq_some hx);exact⟨i,hi,by rw[q];exact this⟩
 have hhas:nsHas name o=pure (es.any (·.key.isStr name)):=by
  rw[nsHas_eq];unfold nsHasByArray;rw[hd];show(if (es.any λx=>x.key.isStr name)=af then _ else _)=_
  generalize (es.any λx=>x.key.isStr name)=b;induction b using Bool.casesOn<;>simp[hany]
 unfold nsDel;refine IQ (wpAny_loadPart ho ?_);rw[hhas,hsome];refine az (IP ?_);refine az (wpAny_updatePart ho (IP ?_));have key:∃m' o',(s.heap.update a (Obj.dropName name)).Ns a m'/\(s.heap.update a (Obj.dropName name)).get? a=aa o'/\o'.cls=o.cls:=by
  obtain⟨cl,d,dt,sl⟩:=o;clear hQ ho' hhas;subst hd;refine n7 (es.findIdx? (·.key.isStr name)) (λi hi=>?_) λhi=>?_
  ·
   have e:=Ji (h:=s.heap) (a:=a) (λo=>Obj.dropName name o) ho (by simp only[Obj.dropName_eq,Obj.dropNameByArray,hi]<;>rfl)
   exact bX _ _ (kC _ _ (ep+1) e (by simp only[Obj.dropName_eq,Obj.dropNameByArray,hi]<;>rfl) (hk.erase i) (λJ=>rfl)) e (by simp only[Obj.dropName_eq,Obj.dropNameByArray,hi])
  ·
   have e:=Ji (h:=s.heap) (a:=a) (λo=>Obj.dropName name o) ho (by simp only[Obj.dropName_eq,Obj.dropNameByArray,hi]<;>rfl)
   exact bX _ _ (kC _ _ ep e (by simp only[Obj.dropName_eq,Obj.dropNameByArray,hi]<;>rfl) hk (λJ=>rfl)) e (by simp only[Obj.dropName_eq,Obj.dropNameByArray,hi])
 refine aW key λm' o' h1 h2 h3=>?_;exact hQ _ o' m' h1 (Jl ..) h2 h3
theorem vM{n:Str}{m:Str->Option IZ}{v:IZ}{o:Obj}{Q:Unit->IY->Prop}(hk:env.scope.kind=.function)(hl:env.kindOf n=aa .local)(hn:s.heap.Ns env.locals m)(ho:s.heap.get? env.locals=aa o)(hv:m n=aa v)
  (hQ:∀h' o' m',h'.Ns env.locals m'->Jk env.locals s.heap h'->h'.get? env.locals=aa o'->o'.cls=o.cls->Q () { s with heap:=h' }):wpAny M A (unbindName env n) Q E s:=by
 unfold unbindName;refine az (wpAny_point (az ?_));unfold deleteName;have hp:(env.scope.kind==.class||(env.scope.kind==.module&&env.locals !=env.globals))=ag:=by rw[hk];rfl
 simp only[hl,hp,Jo,if_false];refine az (xx hn ho hv λh' o' m' h1 h2 h3 h4=>?_);exact IP (wpAny_point (hQ h' o' m' h1 h2 h3 h4))
theorem qI{prog:Program}{w:World}{A:I0}{R:Result->IY->Prop}{e:IZ}{n:Str}{b0:Stmt}{body:List Stmt}{pos:Pos}{s:IY}{env:Env}
  (h:wpAny (model prog w) A (setFlight e ae) (λJ s₁=>wpAny (model prog w) A (bindName env n e) (λJ s₂=>wpAny (model prog w) A (execs (b0::body) env) (λf br=>R (.ok f) br) (λJ J=>False) s₂) (notedBy (model prog w) A env λx s₂=>R (.error x) s₂) s₁) (notedBy (model prog w) A env λx s₁=>R (.error x) s₁) s):
  codeAny (model prog w) A (.handlers e [.ExceptHandler ae (aa n) (b0::body) pos] env) R s:=by
 refine codeAny_of_tree ?_;show wpAny _ A (do return Fin.done (← (handleWith e env [.ExceptHandler ae (aa n) (b0::body) pos]).onRaise (λx=>do noteFrame x env;theTreesLotGoes x))) _ _ s
 refine az (wpAny_noted ?_);unfold handleWith;refine az (IV (az (IX h (λJ s₁ aT=>az (IX aT (λJ s₂ bS=>az (wpAny_attempt (IX bS (λf br kN=>?_) λJ J q=>q.elim))) λJ J x=>x)) λJ J x=>x)));exact IP (IP kN)
theorem x8{M:Model}{A:I0}{E:IZ->IY->Prop}{s:IY}{env:Env}{x name:Str}{np pos:Pos}{Q:IZ->IY->Prop}(h:wpAny M A (eval (.Name x np) env) (λo s₁=>wpAny M A (getAttr o name af) Q E s₁) E s):wpAny M A (eval (.Attribute (.Name x np) name pos) env) Q E s:=by
 rw[arm_eval_Attribute];skip;refine az (IX h (λo s₁ aT=>az (IV (az (IS (IX aT (λr s₂ bS=>?_) λJ J x=>x))))) λJ J x=>x);skip;exact az (IP (IP bS))
end
section
variable{fns:List (Str×Nat)}{glb:List (Str×V)}{mg mb:Str->Option IZ}{cx:Cx}{X0 X X' Pn:AP}{env:Env}{ay s s':IY}{ρ ρ':Fr}{p p':List V}{A:I0}{Q:Flow->IY->Prop}{E:IZ->IY->Prop}{n:Nat}{call:Call}{h h':Heap}
theorem lO(j:Nat):aJ j mR=.undef:=by
 by_cases hj:j<16
 ·match j,hj with|0,_|1,_|2,_|3,_|4,_|5,_|6,_|7,_|8,_|9,_|10,_|11,_|12,_|13,_|14,_|15,_=>rfl|j+16,h=>exact absurd h (by lia)
 ·exact eS (Nat.not_lt.mp hj) _
theorem St.bare{o':Obj}{m':Str->Option IZ}(S:St C cx X0 Pn env ay ρ p s X)(k:bf C A s.heap)(hs:Jk env.locals s.heap h')(hns:h'.Ns env.locals m')(ho':h'.get? env.locals=aa o')(hc:o'.cls=aY):
  St C cx X0 Pn env ay mR p { s with heap:=h' } X/\bf C A h'/\Kf X X s { s with heap:=h' }:=by
 have v:=S.vw;refine aw S.lns λm hm=>?_;have T:=bK (X:=X) hs S.lX;have hlt:∀b,X b->∃o,h'.get? b=aa o:=λb hb=>by
  by_cases q:b=env.locals
  ·exact⟨o',q▸ho'⟩
  ·refine aw (v.lt b hb) λo e=>?_;exact⟨o,hs.extBut b o q e⟩
 have hno:∀x j u,cx.vars.lookup x=aa j->aJ j mR=.own u->cx.muts.contains x=af:=λx j u J hg=>by rw[lO]at hg;exact(nomatch hg)
 have vw:Vw C cx X Pn env mR p h':={ kind:=v.kind,code:=v.code,globals:=v.globals,builtins:=v.builtins,kinds:=v.kinds,cells:=v.cells,vars:=λx j J hu=>absurd (lO j) hu,own:=hno,caps:=v.caps,tab:=v.tab.qQ (W:=λb=>b=env.locals) (λb o e q=>hs.extBut b o q e) (λb q=>q ▸ .ka hm),aE:=v.aE.tr T λb o hb e J=>hs.extBut b o (λq=>jy v.aE hm (q▸hb)) e,pnX:=v.pnX,base:=λb o e=>hs.extBut b o (λq=>by rw[q,S.oP S.l0]at e;exact nS e) (v.base b o e),lt:=hlt,fresh:=v.fresh };have hd:∃es ep,o'.data=.dict es ep:=by refine dz hns λo es ep q1 q2 zz=>?_;rw[ho']at q1;obtain rfl:=Jd q1;exact fU es ep q2
 refine aj S.frm λoL hoL hcL=>?_;obtain⟨S',kf⟩:=S.turned (tk:=s.toks) vw hs S.lX S.l0 (.ka hm) ⟨m',hns⟩ (au o' ho' hc) (λy hy hcy=>by
  refine ao (S.cellX y _ hy hcy) λz0 zz=>?_;refine aW z0 λo zz q1 q2 zz=>?_;rw[hoL]at q1;clear zz;obtain rfl:=Jd q1;rw[hcL]at q2;exact absurd q2 (by simp[aY])) (au (λJ=>0) (λx j u J hg=>(by rw[lO]at hg;exact(nomatch hg))) (λx y j k u w J J hg=>(by rw[lO]at hg;exact(nomatch hg))))
 exact⟨S',k.but hs λo e q=>aU o' ho' hc hd,kf⟩
theorem bu.CP {x:Expr} {d:aA} {wn:Str} {j:Nat} {rp np ap kpos rp' hpos pos:Pos} (W:dG C fns glb mg mb) (Y:pb C mg) (hG:cx.d5 "CasFail" = af) (hx':aL C cx ag x d) (O:bD cx) (ht:cZ cx wn=aa j) (hloc:cx.sc.lookup wn=aa .local):
  bu C cx (.Try [.Return (aa x) rp] [.ExceptHandler (aa (.Name "CasFail" np)) (aa wn) [.Return (aa (.Attribute (.Name wn ap) "kind" kpos)) rp'] hpos] [] [] pos) (rP d):=by
 intro n call hc X0 Pn env ay ρ p s X A Q E hA S k hrm N;have N:bE C cx X0 Pn env ay A (@Res.rec (λJ=>ai) ai.stuck (λv p=>ai.ret v ρ p) (λk p=>ai.ret (.str k) mR p) (d call ρ p)) Q E s X:=N;refine wpAny_Try_except (wpAny_execs_cons (wpAny_Return_some ?_));refine hx' n call hc X Pn env ρ p s A _ _ S.vw k hrm ⟨λe=>N.go (by rw[e]),λv p₁ e val s₁ hn hp hv=>?_,λkk p₁ e ex s₁ hn hp hx=>?_⟩
 ·refine ao (S.next hn hp) λS1 kf=>?_;rw[e]at N;exact(N.to kf).ret v ρ p₁ rfl s₁ X S1 (k.ext hn.ext S.vw.aE) .refl val hv
 ·rw[e]at N;refine jG Y.at_ λK Nn fI nm q bs zq=>?_;refine jG zq λsn sub ab col dd k0 zq=>?_;refine jG zq λk1 k2 k3 k5 mN oI zq=>?_;refine kD zq λfd c1 c2 c3 c4 c5 c6 c7 zq=>?_;refine fo zq λc8 c9 c10 zz=>?_;refine fo (fX ht) λhj hsc zz okw=>?_;have hkw:env.kindOf wn=aa .local:=S.vw.mX hloc;refine ao (S.next hn hp) λS1 kf1=>?_;have kk1:=k.ext hn.ext S.vw.aE;refine aw hA λouter hA=>?_;have kk1':=kk1;refine aj kk1 λl hl hF=>?_;rw[hA]at hl;obtain rfl:=Jd hl;have hsub:∀b,(∃o,s.heap.get? b=aa o)->∃o,s₁.heap.get? b=aa o:=λb q=>Ext.lt hn.ext hp b q;have hLs:∃o,s.heap.get? env.locals=aa o/\o.cls=aY:=S.frm;refine oQ hA hF S.efr S1.vw.base S.vw.base hsub W.cls (iE.at hx) λs₂ Es m₂ oA=>?_;refine jB (l':=ae) m₂.nx.ext.base S.vw.base oA λbr Y3 yR CG=>?_;have m:=m₂.trans yR;have up:∀{Z:AP}{t t':IY},Mk C s.heap Z t t'->Mk C ay.heap Z t t':=λm=>⟨m.nx,λb hb=>⟨S.old (m.ok b hb).1,(m.ok b hb).2⟩⟩;have S3:=S1.marked (up m);have bJ:bf C A br.heap:=kk1'.mk m;have kfm:∀{Z:AP}{t t':IY},Mk C s.heap Z t t'->(∀b o,s.heap.get? b=aa o->Kc o->¬X b->t.heap.get? b=aa o)->∀b o,s.heap.get? b=aa o->Kc o->¬X b->t'.heap.get? b=aa o:=λm q b o e hcc hx=>m.nx.ext.keep b o (q b o e hcc hx) (λz=>by rw[(m.ok b z).1]at e;exact nS e) hcc;have DS:∀b o,s.heap.get? b=aa o->Kc o->¬X b->s₁.heap.get? b=aa o:=λb o e hcc hx=>(kf1.keep b o e hcc hx).1;have Ii:=kfm m DS;have x3':=CG;obtain⟨a,oe,dx,mm,xs,tt,vs,rfl,e2,e3,e4,e5,e6,e7,e8,e9,_⟩:=x3';have hK3:=S3.vw.base _ _ c3;refine wpAny_handleBy_cons (codeAny_handlers_test (ke W S3.vw (by decide +kernel) hG c2 ?_)) (by intro q;exact(nomatch q));refine wpAny_excMatches_sub_self (h:=br.heap) (g:=br.gens) (d:=br.drawn) (t:=br.toks) (os:=br.os) hK3 e2 (e3.trans c1) (by decide +kernel) ?_;skip;refine qI (jB (l':=ae) S3.vw.base S.vw.base CG λeQ Y4 m4 Ho=>?_);have S4:=S3.marked (up m4);have k4:bf C A eQ.heap:=bJ.mk m4;have Ih:=kfm m4 Ii;refine jG Ho λa' oe dx mm xs tt zq=>?_;refine kD zq λvs ea e2 e3 e4 e5 e6 e7 zq=>?_;refine bM zq λe8 e9 zz=>?_;(injection ea with h9;subst h9);have hne:(Value.ref a)≠.ref env.locals:=λq=>by
   refine aj S4.frm λo q1 q2=>?_;(injection q with h9;subst h9);rw[e2]at q1;obtain rfl:=Jd q1;rw[e3,c1]at q2;exact(nomatch q2)
  refine wpAny_bindName (S4.store (A:=A.mark (aa (.ref a))) O k4 ht (sl:=.undef) trivial hne (λJ q=>nomatch q) λcz S5 iP kf5 sd=>?_);refine aj sd.but λt ht' hst=>?_;have ht'':t=env.locals:=ht'.resolve_right λq=>by rw[hkw]at q;exact(nomatch q.1)
  clear ht';subst ht'';have e2':cz.heap.get? a=aa oe:=hst.extBut a oe (λq=>hne (by rw[q])) e2;have hdL:dx≠env.locals:=λq=>by
   refine aj hLs λo q1 zz=>?_;rw[← q,e8.2]at q1;exact nS q1
  have e5':cz.heap.Ns dx mm:=e5.at' λo eo=>hst.extBut _ o hdL eo;have hK5:=S5.vw.base _ _ c3;refine wpAny_execs_cons (wpAny_Return_some (x8 (wpAny_Name (cy S5.vw.kind okw sd.self ?_) (cP okw))));refine BZ (h:=cz.heap) (g:=cz.gens) (d:=cz.drawn) (t:=cz.toks) (os:=cz.os) tc hK5 (S5.vw.base.ns c4) c7 c9 c10 uE e2' (e3.trans c1) e9 e4 e5' e6 rfl ?_;have kp:Kp cz { cz with toks:=cz.toks+1 }:=.toks _;refine ao (S5.kp kp) λS5' kf5'=>?_;have k5':bf C A cz.heap:=iP;skip;refine az (wpAny_bindName (S5'.store (A:=A) O k5' ht (sl:=.undef) trivial (by simp) (λJ q=>nomatch q) λCZ S6 k6 kf6 sd6=>?_));have rd:=sd6.self;unfold Reads at rd;rw[hkw]at rd;refine aj rd λm6 hm6 hv6=>?_;refine aj S6.frm λoL hoL hcL=>?_;refine wpAny_onRaise (vM S6.vw.kind hkw hm6 hoL hv6 λh' o' m' q1 q2 q3 q4=>?_);refine bM (S6.bare k6 q2 q1 q3 (q4.trans hcL)) λS7 k7 kf7=>?_;refine N.ret (.str kk) mR p₁ rfl _ X S7 k7 ⟨λb o e hcc hx=>⟨?_,hx⟩⟩ _ (by show aq C X _ _ _;simp only[aq];exact gw xs tt rfl e7);have tE:=(kf5.keep b o (Ih b o e hcc hx) hcc hx).1;have tD:=(kf6.keep b o tE hcc hx).1;exact(kf7.keep b o tD hcc hx).1
end
structure CW(fns:List (Str×Nat))(glb:List (Str×V))(cx:Cx):Prop where
 O:bD cx
 fns:cx.fns=fns
 glb:cx.glb=glb
 caps:cx.caps=[]
 ok:∀x j,cx.vars.lookup x=aa j->bc x=af
structure yd(C:Cfg):Prop where
 dict:iF C nQ (λv=>PySem.call (.type "dict") [v])
 sorted:iF C iI (λv=>PySem.call (.builtin "sorted") [v])
 max:iF C qz (λv=>PySem.call (.builtin "max") [v])
section
variable{fns:List (Str×Nat)}{glb:List (Str×V)}{mg mb:Str->Option IZ}{cx:Cx}{b:Bool}
theorem marks{op:CmpOp}{e:Expr}(h:∀l k p,e≠.Set l k p):behindInMarks op e=ag:=by
 induction e using Expr.casesOn<;>first|rfl|exact absurd rfl (h _ _ _)
theorem xS{e:Expr}(h:∀l k p,e≠.Set l k p)(env:Env)(x:IZ):foldedSetIterable e env x=pure x:=by
 induction e using Expr.casesOn<;>first|rfl|exact absurd rfl (h _ _ _)
theorem yM{op:IZ->IZ->Sem IZ}:cU C (λJ J=>ae) op:=by
 intro n X Pn p s A Q E a b v va vb P hf;exact nS hf
theorem Dw(h0:C.h₀.NoLimit)(op:Jb):cU C (Eg op) (binaryOp op):=by
 induction op using Operator.casesOn<;>first|exact Dx h0|exact Dn|exact Dt|exact Dv|exact Du h0|exact Dp|exact yM
theorem xu(op:CmpOp):cU C (Ea op) (compareOp op):=by
 induction op using CmpOp.casesOn<;>first|exact Gs|exact Gk|exact Gl|exact Gm|exact Gq|exact Gr|exact Gn|exact BM|exact Gp|exact Dr
theorem jm.e{e:Expr}{d:aA}(h:jm C cx e d):aL C cx b e d:=by
 intro n call hc X Pn env ρ p s A Q E hv hk hr N;have N:=N.o;refine h n call hc X Pn env ρ p s A Q E hv hk hr ⟨N.1,λv p₁ e s₁ hn hp s' a kp ha ho=>?_,N.2.2⟩;have hXa:¬X a:=λq=>by refine aw (Ext.lt hn.ext hp a (hv.lt a q)) λo e=>?_;rw[ha]at e;exact nS e
 refine N.2.1 v p₁ e s' (hn.trans (kp.nx hn.ext.base)) (kp.aE hp) _ (.of (aP.rep (ho.tr (λb o eb J hx=>⟨eb,λq=>hx (.inl q)⟩) λo e J=>e) hXa))
theorem both{e:Expr}{d:aA}(h:∀b,aL C cx b e d)(he:∀env whole,isTrue e env whole=(do let v ← whole;standAt e.pos;holding [v] (truthy v))):aL C cx b e d/\cO C cx e d:=⟨h b,(h af).test he⟩
structure Sound(C:Cfg)(fns:List (Str×Nat))(glb:List (Str×V))(F:rC):Prop where
 e:∀{cx b e d js},CW fns glb cx->F.e cx b e=aa (d,js)->aL C cx b e d/\cO C cx e d
 i:∀{cx b e d js},CW fns glb cx->F.i cx b e=aa (d,js)->eC C cx b e d (wg e)
 o:∀{cx e d js},CW fns glb cx->F.o cx e=aa (d,js)->qT C cx e d
 bl:∀{cx op xs d js},CW fns glb cx->F.bl cx op xs=aa (d,js)->(∀b,jn C cx b op xs d)/\gY C cx op xs d
 es:∀{cx xs ds js},CW fns glb cx->F.es cx xs=aa (ds,js)->iB C cx xs ds/\jD C cx xs ds/\ds.length=xs.length
 ar:∀{cx xs ds js},CW fns glb cx->F.ar cx xs=aa (ds,js)->j5 C cx xs ds/\∀x∈xs,∀e p,x≠.Starred e p
 g:∀{b cx ci elt gs g js},CW fns glb cx->CW fns glb ci->F.g b cx ci elt gs=aa (g,js)->j4 C b cx ci elt gs g
 ns:∀{cx b e r},F.e cx b e=aa r->∀e' p,e≠.Starred e' p
 nt:∀{cx b e r},F.e cx b e=aa r->∀l k p,e≠.Set l k p
 ni:∀{cx b e r},F.i cx b e=aa r->∀l k p,e≠.Set l k p
theorem iX{F:rC}{f:aA->aA}{x:Expr}{d:aA}{js:List Nat}(h:e1 F cx b f x=aa (d,js)):∃y a,F.e cx b x=aa (y,a)/\d=f y:=by
 refine aj (ob h) λz0 h1 h=>?_;obtain⟨y,a⟩:=z0;refine ao (bU h) λz0 z1=>?_;subst z0;subst z1;exact gw y a h1 rfl
theorem nO{F:rC}{f:aA->aA->aA}{x y:Expr}{d:aA}{js:List Nat}(h:e2 F cx b f x y=aa (d,js)):∃u a v c,F.e cx b x=aa (u,a)/\F.e cx b y=aa (v,c)/\d=f u v:=by
 refine aj (ob h) λz0 h1 h=>?_;obtain⟨u,a⟩:=z0;refine aj (ob h) λz0 h2 h=>?_;obtain⟨v,c⟩:=z0;refine ao (bU h) λz0 z1=>?_;subst z0;subst z1;exact⟨u,a,v,c,h1,h2,rfl⟩
section
variable{F:rC}{d:aA}{js:List Nat}
theorem yo(ih:Sound C fns glb F){xs:List Expr}{ds:List aA}(W':CW fns glb cx)(h:w8 F cx xs=aa (ds,js)):iB C cx xs ds/\jD C cx xs ds/\ds.length=xs.length:=by
 induction xs using List.casesOn with
 | nil=>refine ao (bU h) λz0 z1=>?_;subst z0;clear h;subst z1;exact⟨.nil,.nil,rfl⟩
 | cons x xs=>
  refine aj (ob h) λz0 h1 h=>?_;obtain⟨u,a⟩:=z0;refine aj (ob h) λz0 h2 h=>?_;obtain⟨us,c⟩:=z0;refine ao (bU h) λz0 z1=>?_;subst z0;subst z1;refine ao (ih.e W' h1) λa1 a2=>?_;refine bM (ih.es W' h2) λb1 b2 b3=>?_;exact⟨.cons a1 (ih.ns h1) b1,.cons a2 b2,congrArg Nat.succ b3⟩
theorem Br(ih:Sound C fns glb F){e:Option Expr}{d:Option aA}(W':CW fns glb cx)(h:z6 F cx e=aa (d,js)):qT C cx e d:=by
 induction e using Option.casesOn with
 | none=>refine ao (bU h) λz0 z1=>?_;subst z0;clear h;subst z1;trivial
 | some e=>refine aj (ob h) λz0 h1 h=>?_;obtain⟨u,a⟩:=z0;refine ao (bU h) λz0 z1=>?_;subst z0;subst z1;exact(ih.e W' h1).1
theorem yp(ih:Sound C fns glb F){op:BoolOp}{xs:List Expr}(W':CW fns glb cx)(h:w9 F cx op xs=aa (d,js)):(∀b,jn C cx b op xs d)/\gY C cx op xs d:=by
 induction xs using List.casesOn with
 | nil=>exact nS h
 | cons x xs=>
  refine aj (ob h) λz0 h1 h=>?_;obtain⟨u,a⟩:=z0;refine ao (ih.e W' h1) λa1 a2=>?_;induction xs using List.casesOn with
  | nil=>refine ao (bU h) λz0 z1=>?_;subst z0;subst z1;exact⟨λb=>.one a1.weak,.one a2⟩
  | cons y ys=>
   refine aj (ob h) λz0 h2 h=>?_;obtain⟨v,c⟩:=z0;refine ao (ih.bl W' h2) λb1 b2=>?_;induction op using BoolOp.casesOn with
   | And=>refine ao (bU h) λz0 z1=>?_;subst z0;subst z1;exact⟨λb=>.and a1.weak (b1 b),.and a2 b2⟩
   | Or=>refine ao (bU h) λz0 z1=>?_;subst z0;subst z1;exact⟨λb=>.or a1.weak (b1 b),.or a2 b2⟩
theorem yq(ih:Sound C fns glb F){xs:List Expr}{ds:List bk}(W':CW fns glb cx)(h:xb F cx xs=aa (ds,js)):j5 C cx xs ds/\∀x∈xs,∀e p,x≠.Starred e p:=by
 induction xs using List.casesOn with
 | nil=>refine ao (bU h) λz0 z1=>?_;subst z0;clear h;subst z1;exact⟨.nil,λJ q=>nomatch q⟩
 | cons x xs=>
  refine aj (ob h) λz0 h2 h=>?_;obtain⟨us,c⟩:=z0;refine aj (ob h) λz0 h1 h=>?_;obtain⟨u,a⟩:=z0;refine ao (bU h) λz0 z1=>?_;subst z0;subst z1;refine ao (ih.ar W' h2) λb1 b2=>?_;have all:(∀e p,x≠.Starred e p)->∀y∈x::xs,∀e p,y≠.Starred e p:=λhx y hy=>(Jx.mp hy).elim (λe=>e▸hx) (b2 y);unfold Aw at h1;refine n7 ((gu x).bind λy=>cx.vars.lookup y) (λj hq=>?_) λhq=>?_
  ·
   rw[hq]at h1;refine ao (bU h1) λz0 z1=>?_;subst z0;clear h;subst z1;refine aj (ob hq) λy hn hl=>?_;refine aw (eg hn) λp z0=>?_;clear hq h1 hn;subst z0;exact⟨.slot (W'.ok _ _ hl) hl b1,all λJ J q=>nomatch q⟩
  ·
   rw[hq]at h1;refine aj (ob h1) λz0 h3 h1=>?_;obtain⟨v,a'⟩:=z0;refine ao (bU h1) λz0 z1=>?_;subst z0;subst z1;exact⟨.exp (ih.e W' h3).1 (ih.ns h3) b1,all (ih.ns h3)⟩
end
theorem aL.pZ{K:Kd}{gs:List I3}{sc:Jc}{pos:Pos}{g:G}(hG:j4 C af cx (ff cx sc) K.elt gs g)(hok:fG cx sc=af)(O:bD cx)(hsys:∃o,C.h₀.get? sysModules=aa o):aL C cx b (K.expr gs sc pos) (iw (iY cx sc) (K.comb g)):=by
 cases hG with
 | clause h1 h2 h3 h4 h5 h6 h7=>exact aL.comp (.clause h1 h2 h3 h4 h5 h6 h7) hok O hsys
theorem CW.inner(W':CW fns glb cx)(sc:Jc):CW fns glb (ff cx sc):=⟨rm W'.O,W'.fns,W'.glb,rfl,λx j h=>W'.ok x j (cT (f:=λy=>sc.names.lookup y==aa .free) h).2⟩
theorem tJ{x:Str}(h:gf cx x=af):bc x=af:=by
 unfold gf at h;simp only[Jn]at h;exact h.2
theorem vr{x:Str}(W':CW fns glb cx)(h:gf cx x=af)(O:bD (cV cx x)):CW fns glb (cV cx x):=by
 refine⟨O,W'.fns,W'.glb,W'.caps,λy j hy=>?_⟩;unfold cV at hy;rw[List.lookup_cons]at hy;by_cases q:y=x
 ·clear O hy;subst q;exact tJ h
 ·have:(y==x)=ag:=by rw[beq_eq_false_iff_ne];exact q
  rw[this]at hy;exact W'.ok y j hy
theorem gZ{s t:Str}(h:(s==t)=af):s=t:=by simpa using h
theorem aL.isStr {x:Expr} {d:aA} {np tp pos:Pos} (W:dG C fns glb mg mb) (hG1:cx.d5 "isinstance" = af) (hG2:cx.d5 "str" = af) (hx:aL C cx af x d) (hs:∀e p,x≠.Starred e p):
  aL C cx b (.Call (.Name "isinstance" np) [x,.Name "str" tp] [] pos) (Internal.c1 gQ d):=by
 intro n call hc X Pn env ρ p s A Q E hv hk hr N;have N:=N.o;rw[show(Internal.c1 gQ d call ρ p).out=(d call ρ p).out.bind λa p=>(@Option.rec V (λJ=>Res) Res.stuck (λv=>Res.ok v p) (gQ a)).out from dj _ _]at N;refine wpAny_Call_NameR (ei W hv (by decide +kernel) hG1 (by decide +kernel) (val:=.builtin "isinstance") (by decide +kernel) ?_);rw[mz hs (λJ J e=>by exact(nomatch e))];refine call2 (.fn _) (hx.run hc hv hk hr N λv p₁ val s₁ hn v1 k₁ hval N1=>ei W v1 (by decide +kernel) hG2 (by decide +kernel) (val:=.type "str") (by decide +kernel) ?_);refine oc (gQ v) (λhg=>?_) λr hg=>?_
 ·rw[hg]at N1;exact absurd rfl N1.1
 ·
  rw[hg]at N1;exact Ct n X Pn p₁ s₁ A Q E v r val (v1.pre k₁ hr) hg hval.b λval' s' hkp hrep=>N1.kp v1.base v1.aE hkp _ (.of hrep)
section
variable{F:rC}{d:aA}{js:List Nat}
theorem Cf(W:dG C fns glb mg mb)(W':CW fns glb cx){x:Str}{p:Pos}(h:D0 cx b x=aa (d,js)):aL C cx b (.Name x p) d/\cO C cx (.Name x p) d:=by
 refine ao (bV h) λho h=>?_;refine n7 (cx.vars.lookup x) (λj hj=>?_) λhj=>?_
 ·
  rw[hj]at h;induction b using Bool.casesOn with
  | true=>refine ao (bU h) λz0 z1=>?_;subst z0;subst z1;exact⟨.bor ho hj,(aL.bor ho hj).test (λJ J=>rfl)⟩
  | false=>refine ao (bU h) λz0 z1=>?_;subst z0;subst z1;exact⟨.var ho hj,(aL.var (b:=af) ho hj).test (λJ J=>rfl)⟩
 ·
  rw[hj]at h;refine ao (bV h) λhG h=>?_;refine aj (ob h) λv hl h=>?_;refine ao (bU h) λz0 z1=>?_;subst z0;subst z1;exact both (λb=>.glob W ho hG (by rw[← W'.glb];exact hl)) (λJ J=>rfl)
theorem DZ(ih:Sound C fns glb F)(W':CW fns glb cx){op:UnaryOp}{x:Expr}{p:Pos}(h:G5 F cx op x=aa (d,js)):aL C cx b (.UnaryOp op x p) d/\cO C cx (.UnaryOp op x p) d:=by
 induction op using UnaryOp.casesOn with
 | USub=>
  refine bY (iX h) λy a h1 z0=>?_;clear h;subst z0;rw[fh];exact both (λb=>.c1 (ih.e W' h1).1 Ds λenv s A Q E h=>wpAny_UnaryOp h) (λJ J=>rfl)
 | Not=>
  refine bY (iX h) λy a h1 z0=>?_;clear h;subst z0;exact⟨.c1 (ih.e W' h1).1 Dq λenv s A Q E h=>wpAny_UnaryOp h,.not (ih.e W' h1).2⟩
 | _=>exact nS h
theorem D1(ih:Sound C fns glb F)(W':CW fns glb cx){t x y:Expr}{p:Pos}(h:G7 F cx t x y=aa (d,js)):aL C cx b (.IfExp t x y p) d/\cO C cx (.IfExp t x y p) d:=by
 refine aj (ob h) λz0 h1 h=>?_;obtain⟨u,a⟩:=z0;refine aj (ob h) λz0 h2 h=>?_;obtain⟨v,c⟩:=z0;refine aj (ob h) λz0 h3 h=>?_;obtain⟨w,e⟩:=z0;refine ao (bU h) λz0 z1=>?_;subst z0;subst z1;exact⟨.ite (ih.e W' h1).2 (ih.e W' h2).1.weak (ih.e W' h3).1.weak,.ite (ih.e W' h1).2 (ih.e W' h2).2 (ih.e W' h3).2⟩
theorem l8(ih:Sound C fns glb F)(W':CW fns glb cx){f:List aA->aA}{xs:List Expr}(h:wG F cx f xs=aa (d,js)):∃ds,d=f ds/\iB C cx xs ds/\ds.length<=100:=by
 refine aj (ob h) λz0 h1 h=>?_;obtain⟨u,a⟩:=z0;refine ao (bV h) λh2 h=>?_;refine ao (bU h) λz0 z1=>?_;subst z0;subst z1;refine bM (ih.es W' h1) λa1 zz a3=>?_;exact aU u rfl a1 (by rw[a3];exact Nat.le_of_ble_eq_true h2)
set_option tactic.hygienic true
theorem Ce(ih:Sound C fns glb F)(W':CW fns glb cx){o i:Expr}{p:Pos}(h:zj F cx o i=aa (d,js)):aL C cx b (.Subscript o i p) d/\cO C cx (.Subscript o i p) d:=by
 unfold zj at h;induction hv:uH i using ya.casesOn with
 | two lo hi=>
  rw[hv]at h;refine aw (Bw hv) λzz z0=>?_;clear hv;subst z0;refine aj (ob h) λz0 h1 h=>?_;obtain⟨u,a⟩:=z0;refine aj (ob h) λz0 h2 h=>?_;obtain⟨v,c⟩:=z0;refine aj (ob h) λz0 h3 h=>?_;obtain⟨w,e⟩:=z0;refine ao (bU h) λz0 z1=>?_;subst z0;subst z1;rw[fR];exact both (λb=>.slice (ih.e W' h1).1 (ih.o W' h2) (ih.o W' h3)) (λJ J=>rfl)
 | rev=>
  rw[hv]at h;refine yh (Bx hv) λzz zz zz zz z0=>?_;clear hv;subst z0;refine bY (iX h) λy a h1 z0=>?_;clear h;subst z0;rw[fh];exact both (λb=>.rev (ih.e W' h1).1) (λJ J=>rfl)
 | no=>
  rw[hv]at h;refine n7 (qw cx o) (λj hp=>?_) λhp=>?_
  ·
   rw[hp]at h;refine bY (iX h) λy a h1 z0=>?_;subst z0;unfold qw at hp
   split at hp
   ·split at hp
    ·rename_i hq;simp only[Jn]at hq;exact both (λb=>.aE hq.2 hp (ih.e W' h1).1) (λJ J=>rfl)
    ·exact nS hp
   ·exact nS hp
  ·
   rw[hp]at h;refine lz (nO h) λu a v c h1 h2 z0=>?_;clear h;subst z0;exact both (λb=>.c2 (ih.e W' h1).1 (ih.e W' h2).1 uU λenv s A Q E h=>Subscript_ h) (λJ J=>rfl)
set_option tactic.hygienic false
theorem Ci(ih:Sound C fns glb F)(W':CW fns glb cx){o:Expr}{m:Str}{ap cp:Pos}{args:List Expr}(h:zk F cx o m ap args cp=aa (d,js)):aL C cx b (.Call (.Attribute o m ap) args [] cp) d/\cO C cx (.Call (.Attribute o m ap) args [] cp) d:=by
 unfold zk at h
 split at h
 ·refine ao (bV h) λh0 h=>?_;refine aj (ob h) λz0 h1 h=>?_;obtain⟨u,a⟩:=z0;refine aj (ob h) λz0 h2 h=>?_;obtain⟨v,c⟩:=z0;refine aj (ob h) λz0 h3 h=>?_;obtain⟨w,e⟩:=z0;refine ao (bU h) λz0 z1=>?_;subst z0;subst z1;rw[Jn]at h0;have hm:=gZ h0.1;subst hm;exact both (λb=>.get (ih.e W' h1).1 (ih.e W' h2).1 (ih.e W' h3).1 (ih.ns h2) (ih.ns h3) h0.2) (λJ J=>rfl)
 ·exact nS h
set_option tactic.hygienic true
theorem Cd(ih:Sound C fns glb F)(W:dG C fns glb mg mb)(W':CW fns glb cx){f:Str}{x y:Expr}{np cp:Pos}(ho:bc f=af)(hG:cx.d5 f=af)(h:zi F cx f x y=aa (d,js)):aL C cx b (.Call (.Name f np) [x,y] [] cp) d/\cO C cx (.Call (.Name f np) [x,y] [] cp) d:=by
 unfold zi at h
 split at h
 ·rename_i hf;have hf:=gZ hf;clear ho;subst hf;refine aj (ob h) λt hy h=>?_;refine xs11 y (eg hy) λzz=>?_;refine ao (bV h) λht h=>?_;refine bY (iX h) λu a h1 z0=>?_;clear h;subst z0;simp only[Jn]at ht;have ht':=gZ ht.1.1;clear hy;subst ht';exact both (λb=>.isStr W hG ht.1.2 (ih.e W' h1).1 (ih.ns h1)) (λJ J=>rfl)
 ·refine aj (ob h) λg hg h=>?_;refine lz (nO h) λu a v c h1 h2 z0=>?_;subst z0;rw[eM];refine both (λb=>?_) (λJ J=>rfl);have hm:=I6 hg;simp only[vg,Jx,List.not_mem_nil,or_false,Prod.mk.injEq]at hm;clear hg;rcases hm with⟨rfl,rfl⟩|⟨rfl,rfl⟩
  ·exact .b2 W ho hG (by decide +kernel) (fv:=.builtin "max") (by decide +kernel) (.fn _) (ih.e W' h1).1 (ih.ns h1) (ih.e W' h2).1 (ih.ns h2) Ei
  ·exact .b2 W ho hG (by decide +kernel) (fv:=.builtin "min") (by decide +kernel) (.fn _) (ih.e W' h1).1 (ih.ns h1) (ih.e W' h2).1 (ih.ns h2) Eh
set_option tactic.hygienic false
theorem D2(ih:Sound C fns glb F)(W:dG C fns glb mg mb)(BI:yd C)(W':CW fns glb cx){f:Str}{args:List Expr}{np cp:Pos}(ho:bc f=af)(hG:cx.d5 f=af)(h:D3 F cx f args=aa (d,js)):aL C cx b (.Call (.Name f np) args [] cp) d/\cO C cx (.Call (.Name f np) args [] cp) d:=by
 unfold D3 at h
 split at h
 ·refine aj (ob h) λg hg h=>?_;refine bY (iX h) λu a h1 z0=>?_;subst z0;rw[fh];refine both (λb=>?_) (λJ J=>rfl);have hs:=ih.ns h1;have hx:=(ih.e W' h1).1;have hm:=I6 hg;simp only[vh,Jx,List.not_mem_nil,or_false,Prod.mk.injEq]at hm;clear hg;rcases hm with⟨rfl,rfl⟩|⟨rfl,rfl⟩|⟨rfl,rfl⟩|⟨rfl,rfl⟩|⟨rfl,rfl⟩|⟨rfl,rfl⟩|⟨rfl,rfl⟩|⟨rfl,rfl⟩|⟨rfl,rfl⟩|⟨rfl,rfl⟩
  ·exact .b1 W ho hG (by decide +kernel) (fv:=.builtin "len") (by decide +kernel) (.fn _) hx hs GV
  ·exact .b1 W ho hG (by decide +kernel) (fv:=.builtin "abs") (by decide +kernel) (.fn _) hx hs GX
  ·exact .b1 W ho hG (by decide +kernel) (fv:=.builtin "any") (by decide +kernel) (.fn _) hx hs GW
  ·exact .b1 W ho hG (by decide +kernel) (fv:=.type "dict") (by decide +kernel) (.ty _) hx hs BI.dict
  ·exact .b1 W ho hG (by decide +kernel) (fv:=.type "list") (by decide +kernel) (.ty _) hx hs Ej
  ·exact .b1 W ho hG (by decide +kernel) (fv:=.type "tuple") (by decide +kernel) (.ty _) hx hs Cs
  ·exact .b1 W ho hG (by decide +kernel) (fv:=.builtin "sorted") (by decide +kernel) (.fn _) hx hs BI.sorted
  ·exact .b1 W ho hG (by decide +kernel) (fv:=.type "str") (by decide +kernel) (.ty _) hx hs GS
  ·exact .b1 W ho hG (by decide +kernel) (fv:=.builtin "sum") (by decide +kernel) (.fn _) hx hs GR
  ·exact .b1 W ho hG (by decide +kernel) (fv:=.builtin "max") (by decide +kernel) (.fn _) hx hs BI.max
 ·exact Cd ih W W' ho hG h
 ·exact nS h
theorem Cj(ih:Sound C fns glb F)(W:dG C fns glb mg mb)(BI:yd C)(hD:∀f i,fns.lookup f=aa i->C.isDef i=af)(W':CW fns glb cx){f:Str}{args:List Expr}{np cp:Pos}(h:zl F cx f args=aa (d,js)):aL C cx b (.Call (.Name f np) args [] cp) d/\cO C cx (.Call (.Name f np) args [] cp) d:=by
 unfold zl at h;refine n7 (cx.vars.lookup f) (λj hj=>?_) λhj=>?_
 ·
  rw[hj]at h;refine ao (bV h) λho h=>?_
  split at h
  ·refine bY (iX h) λu a h1 z0=>?_;subst z0;exact both (λb=>.app ho hj (ih.ns h1) (ih.e W' h1).1) (λJ J=>rfl)
  ·exact nS h
 ·
  rw[hj]at h;refine ao (bV h) λho h=>?_;rw[Jn]at ho;induction hi:cx.fns.lookup f using Option.casesOn with
  | some i=>
   rw[hi]at h;refine aj (ob h) λz0 h1 h=>?_;obtain⟨u,a⟩:=z0;refine ao (bU h) λz0 z1=>?_;subst z0;subst z1;rw[W'.fns]at hi;refine ao (ih.ar W' h1) λa1 a2=>?_;exact both (λb=>.Au W ho.1 ho.2 hi (hD _ _ hi) a2 a1) (λJ J=>rfl)
  | none=>
   rw[hi]at h;exact D2 ih W BI W' ho.1 ho.2 h
theorem Cg{sc:Jc}(h:wH cx sc=aa (d,js)):∃x,(cx.caps.contains x&&cx.sc.lookup x==aa .cell)=af:=by
 unfold wH at h;generalize freeOf sc=l at h;generalize slotsOf cx l=o at h;induction l using List.casesOn with
 | nil=>exact nS h
 | cons x l=>
  induction l using List.casesOn with
  | cons=>exact nS h
  | nil=>
   induction o using Option.casesOn with
   | none=>exact nS h
   | some o=>
    induction o using List.casesOn with
    | nil=>exact nS h
    | cons j o=>
     induction o using List.casesOn with
     | cons=>exact nS h
     | nil=>exact⟨x,(bV h).1⟩
theorem Bu (ih:Sound C fns glb F) (W:dG C fns glb mg mb) (BI:yd C) (u4:∀{cx:Cx} {b:Bool} {o:Expr} {x:aA} {np ap cp pos:Pos},CW fns glb cx->cx.d5 "sorted" = af->jS o ap cp=af->aL C cx af o x->aL C cx b (.Call (.Name "sorted" np) [.Call (.Attribute o "items" ap) [] [] cp] [] pos) (Internal.c1 dK x)) (hD:∀f i,fns.lookup f=aa i->C.isDef i=af) {e:Expr} (W':CW fns glb cx) (h:z8 F cx b e=aa (d,js)):aL C cx b e d/\cO C cx e d:=by
 induction e using Expr.casesOn with
 | Constant c k p=>refine aj (ob h) λv h1 h=>?_;refine ao (bU h) λz0 z1=>?_;subst z0;subst z1;exact both (λb=>.const h1) (λJ J=>rfl)
 | Name x p=>exact Cf W W' h
 | BoolOp op xs p=>refine ao (ih.bl W' h) λh1 h2=>?_;exact⟨(h1 b).e,h2.t⟩
 | BinOp l op r p=>
  refine lz (nO h) λu a v c h1 h2 z0=>?_;clear h;subst z0;rw[eM];exact both (λb=>.c2 (ih.e W' h1).1 (ih.e W' h2).1 (Dw W.nolimit _) λenv s A Q E h=>wpAny_BinOp h) (λJ J=>rfl)
 | UnaryOp op x p=>exact DZ ih W' h
 | IfExp t x y p=>exact D1 ih W' h
 | Compare l ops rs p=>
  refine aj (ob h) λz0 ho h=>?_;obtain⟨op,r⟩:=z0;refine ao (BN ho) λz0 z1=>?_;subst z0;clear ho;subst z1;refine lz (nO h) λu a v c h1 h2 z0=>?_;subst z0;exact⟨.c2 (ih.e W' h1).1 (ih.e W' h2).1 (xu _) λenv s A Q E h=>wpAny_Compare1 h (marks (ih.nt h2)),aL.Bn (ih.e W' h1).1 (ih.e W' h2).1 (xu _) (marks (ih.nt h2))⟩
 | Tuple xs k p=>refine xs13 d (l8 ih W' h) λds a1 a2=>?_;exact both (λb=>.tup a1 a2) (λJ J=>rfl)
 | List xs p=>refine xs13 d (l8 ih W' h) λds a1 a2=>?_;exact both (λb=>.lst a1 a2) (λJ J=>rfl)
 | Dict ks vs p=>
  induction ks using List.casesOn with
  | cons=>exact nS h
  | nil=>induction vs using List.casesOn with
   | cons=>exact nS h
   | nil=>refine ao (bU h) λz0 z1=>?_;subst z0;clear h;subst z1;exact both (λb=>(jm.bh W.sys).e) (λJ J=>rfl)
 | Subscript o i p=>exact Ce ih W' h
 | ListComp e gs sc p=>
  refine ao (bV h) λh1 h=>?_;refine aj (ob h) λz0 h2 h=>?_;obtain⟨g,a⟩:=z0;refine ao (bU h) λz0 z1=>?_;subst z0;subst z1;rw[fR];exact both (λb=>aL.pZ (K:=.l _) (ih.g W' (W'.inner _) h2) h1 W'.O W.sys) (λJ J=>rfl)
 | DictComp k v gs sc p=>
  refine aj (ob h) λv hv h=>?_;refine dX (uf hv) λzz zz z0=>?_;clear hv;subst z0;refine ao (bV h) λh1 h=>?_;refine aj (ob h) λz0 h2 h=>?_;obtain⟨g,a⟩:=z0;refine ao (bU h) λz0 z1=>?_;subst z0;subst z1;rw[fR];exact both (λb=>aL.pZ (K:=.d _ _ _ _) (ih.g W' (W'.inner _) h2) h1 W'.O W.sys) (λJ J=>rfl)
 | Lambda a e sc p=>
  have h:wH cx sc=aa (d,js):=h;refine aw (Cg h) λx h1=>?_;rw[W'.caps]at h1;simp at h1
 | Call f args ks cp=>
  induction ks using List.casesOn with
  | cons=>exact nS h
  | nil=>
   have h:wI F cx f args cp=aa (d,js):=h;unfold wI at h;refine n7 (o7 f) (λq hf=>?_) λhf=>?_
   ·
    rw[hf]at h;obtain⟨o,m,ap⟩:=q;have hf:=nW hf;clear h;subst hf;exact Ci ih W' h
   ·
    rw[hf]at h;refine aj (ob h) λx hx h=>?_;refine xs11 f (eg hx) λzz=>?_;induction hi:Ak args using Option.casesOn with
    | some q=>
     rw[hi]at h;obtain⟨o,m,ap,p⟩:=q;have hi:=DO hi;subst hi;refine ao (bV h) λh1 h=>?_;refine bY (iX h) λu a h2 z0=>?_;subst z0;simp only[Jn]at h1;have hf:=gZ h1.1.1.1.1.1.1;have hm:=gZ h1.1.1.1.1.1.2;clear hx hi;subst hf hm;rw[fi];exact both (λb=>u4 W' h1.1.1.2 h1.1.1.1.1.2 (ih.e W' h2).1) (λJ J=>rfl)
    | none=>rw[hi]at h;exact Cj ih W BI hD W' h
 | _=>exact nS h
set_option tactic.hygienic true
theorem Bs(ih:Sound C fns glb F)(W:dG C fns glb mg mb){e:Expr}(W':CW fns glb cx)(h:stepI F cx b e=aa (d,js)):eC C cx b e d (wg e):=by
 unfold stepI at h;refine n7 (Aj e) (λq hi=>?_) λhi=>?_
 ·
  rw[hi]at h;obtain⟨o,m,ap,p⟩:=q;have hi:=xO hi;subst hi;refine ao (bV h) λh1 h=>?_;refine bY (iX h) λu a h2 z0=>?_;subst z0;rw[Jn]at h1;have hm:=gZ h1.1;dsimp only at hm;clear hi;subst hm;rw[fi];exact .items (ih.e W' h2).1 h1.2
 ·
  rw[hi]at h;induction hn:mT e using Option.casesOn with
  | none=>rw[hn]at h;exact .plain (ih.e W' h).1
  | some q=>
   rw[hn]at h;obtain⟨f,as,cp⟩:=q;refine aw (mS hn) λzz z0=>?_;subst z0;have h:wu F cx b _ f as=aa (d,js):=h;unfold wu at h
   split at h
   ·split at h
    ·rename_i hg;refine ao (bV h) λhc h=>?_;refine bY (iX h) λu a h1 z0=>?_;subst z0;simp only[Jn]at hc;have hG:=hc.1.1.2;have hs:=ih.ns h1;have hx:=(ih.e W' h1).1;have hm:=I6 hg;simp only[u3,Jx,List.not_mem_nil,or_false,Prod.mk.injEq]at hm;clear hi hn hg hc;rcases hm with⟨rfl,rfl⟩|⟨rfl,rfl⟩|⟨rfl,rfl⟩
     ·rw[fi];exact .Df W hG hx hs
     ·rw[fi];exact .enum W hG hx hs
     ·rw[fh];exact .rev W hG hx hs
    ·exact .plain (ih.e W' h).1
   ·split at h
    ·rename_i hf;have hf:=gZ hf;clear hi hn;subst hf;refine ao (bV h) λhc h=>?_;refine lz (nO h) λu a v c h1 h2 z0=>?_;subst z0;simp only[Jn]at hc;rw[eM];exact .De W hc.1.1.2 (ih.e W' h1).1 (ih.ns h1) (ih.e W' h2).1 (ih.ns h2)
    ·exact .plain (ih.e W' h).1
   ·exact .plain (ih.e W' h).1
end
theorem zC{cx cx':Cx}{t:Expr}(W':CW fns glb cx)(h:bindC cx t=aa cx'):CW fns glb cx':=by
 rcases kP h with⟨x,px,_,h1,rfl⟩|⟨x,px,y,py,k,pt,_,h1,h2,hne,rfl⟩
 ·exact vr W' h1 (iS W'.O)
 ·have W1:=vr W' h1 (iS W'.O);refine⟨iS W1.O,W'.fns,W'.glb,W'.caps,λz j hz=>?_⟩;rcases qS W1.O z j hz with⟨rfl,_⟩|⟨_,_,q⟩
  ·exact tJ h2
  ·exact W1.ok z j q
theorem Bt{F:rC}(ih:Sound C fns glb F){ci:Cx}{elt:Expr}{gs:List I3}{g:G}{js:List Nat}(W':CW fns glb cx)(Wi:CW fns glb ci)(h:z7 F cx b ci elt gs=aa (g,js)):j4 C b cx ci elt gs g:=by
 induction gs using List.casesOn with
 | nil=>
  induction b using Bool.casesOn with
  | true=>exact nS h
  | false=>refine aj (ob h) λz0 h1 h=>?_;obtain⟨u,a⟩:=z0;refine ao (bU h) λz0 z1=>?_;subst z0;subst z1;exact .one (ih.e Wi h1).1
 | cons c gs=>
  obtain⟨t,src,ifs,as⟩:=c;refine aj (ob h) λz0 h1 h=>?_;obtain⟨u,a⟩:=z0;refine aj (ob h) λcx' hb h=>?_;refine ao (bV h) λhf h=>?_;refine aj (ob h) λtg ht h=>?_;refine aj (ob h) λz0 h2 h=>?_;obtain⟨cs,c⟩:=z0;refine aj (ob h) λz0 h3 h=>?_;obtain⟨g',e⟩:=z0;refine ao (bU h) λz0 z1=>?_;subst z0;subst z1;rw[Jn]at hf;have h0:=hf.1;rw[beq_iff_eq]at h0;subst h0;have Wc:=zC Wi hb;exact .clause (ih.i W' h1) (xS (ih.ni h1)) hb (by rw[← pk];exact hf.2) ht (ih.es Wc h2).2.1 (ih.g Wc Wc h3)
theorem sound (W:dG C fns glb mg mb) (BI:yd C) (u4:∀{cx:Cx} {b:Bool} {o:Expr} {x:aA} {np ap cp pos:Pos},CW fns glb cx->cx.d5 "sorted" = af->jS o ap cp=af->aL C cx af o x->aL C cx b (.Call (.Name "sorted" np) [.Call (.Attribute o "items" ap) [] [] cp] [] pos) (Internal.c1 dK x)) (hD:∀f i,fns.lookup f=aa i->C.isDef i=af):∀n,Sound C fns glb (dT n)
 | 0=>⟨λJ h=>(nomatch h),λJ h=>(nomatch h),λJ h=>(nomatch h),λJ h=>(nomatch h),λJ h=>(nomatch h),λJ h=>(nomatch h),λJ J h=>(nomatch h),λh=>(nomatch h),λh=>(nomatch h),λh=>(nomatch h)⟩
 | n+1=>have ih:=sound W BI u4 hD n
  ⟨λW' h=>Bu ih W BI u4 hD W' h,λW' h=>Bs ih W W' h,λW' h=>Br ih W' h,λW' h=>yp ih W' h,λW' h=>yo ih W' h,λW' h=>yq ih W' h,λW' Wi h=>Bt ih W' Wi h,
   λh e' p q=>by subst q;exact(nomatch (show ae=aa _ from h)),λh l k p q=>by subst q;exact(nomatch (show ae=aa _ from h)),λh l k p q=>by subst q;exact ih.nt h l k p rfl⟩
end
section
variable{fns:List (Str×Nat)}{glb:List (Str×V)}{mg mb:Str->Option IZ}{cx:Cx}{b:Bool}
theorem y7{e:Expr}(h:wq e=af):∃xs p,e=.List xs p:=by
 induction e using Expr.casesOn<;>first|exact(fU _ _ rfl)|exact fT h
theorem y6{op:Jb}(h:isMul op=af):op=.Mult:=by induction op using Operator.casesOn<;>first|rfl|exact fT h
theorem om(S:∀n,Sound C fns glb (dT n))(W:dG C fns glb mg mb)(W':CW fns glb cx){n:Nat}{e:Expr}{d:aA}{js:List Nat}(hf:lq e=af)(h:dN n cx ag e=aa (d,js)):jm C cx e d:=by
 induction n using Nat.casesOn with
 | zero=>exact nS h
 | succ n=>
  induction e using Expr.casesOn with
  | List xs p=>refine xs13 d (l8 (S n) W' h) λds a1 a2=>?_;exact .lst a1 a2
  | Dict ks vs p=>
   induction ks using List.casesOn with
   | cons=>exact nS h
   | nil=>induction vs using List.casesOn with
    | cons=>exact nS h
    | nil=>refine ao (bU h) λz0 z1=>?_;subst z0;clear h;subst z1;exact .bh W.sys
  | BinOp l op r p=>
   have hf:(isMul op&&wq l)=af:=hf;rw[Jn]at hf;refine dX (y7 hf.2) λxs q z0=>?_;subst z0;obtain rfl:=y6 hf.1;refine lz (nO h) λu a v c h1 h2 z0=>?_;subst z0;have h1':=((S n).e W' h1).1;have h2':=((S n).e W' h2).1;induction n using Nat.casesOn with
   | zero=>exact nS h1
   | succ n=>
    refine aQ (l8 (S n) W' h1) λds z0 a1 a2=>?_;clear h1 h;subst z0;rw[eM];exact .mul h1' h2'
  | _=>exact fT hf
theorem tu(S:∀n,Sound C fns glb (dT n))(W:dG C fns glb mg mb)(W':CW fns glb cx):∀{n:Nat}{es:List Expr}{ns:List Str}{ds:List aA}{js:List Nat},xY n cx es=aa (ds,js)->es.length=ns.length->kA C cx (ip cx ns es) es ds
 | 0,_,_,_,_,h,_=>by exact nS h
 | n+1,[],[],_,_,h,_=>by refine ao (bU h) λz0 z1=>?_;subst z0;clear h;subst z1;exact .nil
 | n+1,[],_::_,_,_,_,h=>by exact(nomatch h)
 | n+1,_::_,[],_,_,_,h=>by exact(nomatch h)
 | n+1,e::es,x::ns,ds,js,h,hl=>by
  refine aj (ob h) λz0 h1 h=>?_;obtain⟨u,a⟩:=z0;refine aj (ob h) λz0 h2 h=>?_;obtain⟨us,c⟩:=z0;refine ao (bU h) λz0 z1=>?_;subst z0;subst z1;have ih:=tu S W W' (ns:=ns) h2 (Nat.succ.inj hl);unfold ip;cases hb:cx.muts.contains x&&lq e with
  | true=>
   rw[Jn]at hb;exact .own (om S W W' hb.2 h1) ((S n).ns h1) ih
  | false=>exact .val ((S n).e W' h1).1 ((S n).ns h1) ih
theorem pB {v:Expr} {x:Str} {args:List Expr} (h:pC v=aa (x,args)):∃px ap cp,v=.Call (.Attribute (.Name x px) "pop" ap) args [] cp/\(ap.endLine==cp.line)=af/\bc x=af:=by
 refine aj (ob h) λz0 ha h=>?_;obtain⟨y,m,ap,as,cp⟩:=z0;refine ao (bV h) λhc h=>?_;refine ao (bU h) λz0 z1=>?_;subst z0;subst z1;simp only[Jn]at hc;have hm:=gZ hc.1.1;subst hm;refine xs11 v (rA ha) λp=>?_;exact iG _ _ _ rfl hc.1.2 hc.2
theorem bu.pZ{K:Kd}{gs:List I3}{sc:Jc}{cp px pos:Pos}{g:G}{x:Str}{j:Nat}(hG:j4 C af cx (ff cx sc) K.elt gs g)(hok:fG cx sc=af)(O:bD cx)(hsys:∃o,C.h₀.get? sysModules=aa o)(ht:cZ cx x=aa j):
  bu C cx (.Assign [.Name x px] (K.expr gs sc cp) pos) (aM (sets j) (iw (iY cx sc) (K.comb g))):=by
 cases hG with
 | clause h1 h2 h3 h4 h5 h6 h7=>exact bu.comp (.clause h1 h2 h3 h4 h5 h6 h7) hok O hsys ht
theorem xh(S:∀n,Sound C fns glb (dT n))(W:dG C fns glb mg mb)(W':CW fns glb cx){n:Nat}{x:Str}{px pos:Pos}{e:Expr}{d:aA}{js:List Nat}{j:Nat}(ht:cZ cx x=aa j)(h:dN n cx ag e=aa (d,js)):bu C cx (.Assign [.Name x px] e pos) (aM (sets j) d):=by
 refine uW (iN e) (λhn=>?_) λhn=>?_
 ·exact .set ((S n).e W' h).1 W'.O ht hn
 ·
  induction n using Nat.casesOn with
  | zero=>exact nS h
  | succ n=>
   induction e using Expr.casesOn with
   | ListComp e gs sc p=>
    refine ao (bV h) λh1 h=>?_;refine aj (ob h) λz0 h2 h=>?_;obtain⟨g,a⟩:=z0;refine ao (bU h) λz0 z1=>?_;subst z0;subst z1;rw[fR];exact bu.pZ (K:=.l _) ((S n).g W' (W'.inner _) h2) h1 W'.O W.sys ht
   | DictComp k v gs sc p=>
    refine aj (ob h) λv hv h=>?_;refine dX (uf hv) λzz zz z0=>?_;clear hn hv;subst z0;refine ao (bV h) λh1 h=>?_;refine aj (ob h) λz0 h2 h=>?_;obtain⟨g,a⟩:=z0;refine ao (bU h) λz0 z1=>?_;subst z0;subst z1;rw[fR];exact bu.pZ (K:=.d _ _ _ _) ((S n).g W' (W'.inner _) h2) h1 W'.O W.sys ht
   | SetComp=>exact nS h
   | _=>exact tF hn
theorem rG{e:Expr}(h:lq e=af):iN e=af:=by
 induction e using Expr.casesOn<;>first|rfl|exact fT h
section
variable(S:∀n,Sound C fns glb (dT n))(W':CW fns glb cx)
include S W'
theorem Cv {x y:Str} {px py ap cp pos:Pos} {j:Nat} {args:List Expr} {d:bj} (ht:cZ cx x=aa j) (hl:(ap.endLine==cp.line)=af) (ok:bc y=af) (h:Ep cx x j y args=aa d):bu C cx (.Assign [.Name x px] (.Call (.Attribute (.Name y py) "pop" ap) args [] cp) pos) d:=by
 refine aj (ob h) λk hy h=>?_;refine ao (bV h) λhne h=>?_
 split at h
 ·obtain rfl:=Jd h;exact .pop W'.O ht hy ok hl
 ·refine aj (ob h) λz0 h1 h=>?_;obtain⟨u,a⟩:=z0;refine aj (ob h) λz0 h2 h=>?_;obtain⟨v,c⟩:=z0;obtain rfl:=Jd h;exact .cH (.HY ((S _).e W' h1).1 ((S _).e W' h2).1 ((S _).ns h1) ((S _).ns h2) W'.O ht hy ok hl) W'.O
 ·exact nS h
theorem Er(W:dG C fns glb mg mb){x:Str}{px pos:Pos}{v:Expr}{d:bj}(h:Ha cx x v=aa d):bu C cx (.Assign [.Name x px] v pos) d:=by
 refine aj (ob h) λj ht h=>?_;refine n7 (pC v) (λq hp=>?_) λhp=>?_
 ·
  rw[hp]at h;obtain⟨y,args⟩:=q;refine xs33 v (pB hp) λpy ap cp hl ok=>?_;exact Cv S W' ht hl ok h
 ·
  rw[hp]at h;refine aj (ob h) λz0 h1 h=>?_;obtain⟨u,a⟩:=z0;cases hm:cx.muts.contains x&&lq v with
  | true=>
   dsimp only at h;rw[hm]at h;obtain rfl:=Jd h;rw[Jn]at hm;exact .cH (.own (om S W W' hm.2 h1) W'.O ht hm.1 (rG hm.2)) W'.O
  | false=>
   dsimp only at h;rw[hm]at h;obtain rfl:=Jd h;exact .cH (xh S W W' ht h1) W'.O
theorem Eo(W:dG C fns glb mg mb){ts:List Expr}{k:Nat}{p pos:Pos}{v:Expr}{d:bj}(h:G8 cx ts v=aa d):bu C cx (.Assign [.Tuple ts k p] v pos) d:=by
 refine aj (ob h) λns hn h=>?_;refine ao (bV h) λhd h=>?_;refine aj (ob h) λjs hj h=>?_;refine n7 (pC v) (λq hp=>?_) λhp=>?_
 ·
  rw[hp]at h;obtain⟨y,args⟩:=q;refine xs33 v (pB hp) λpy ap cp hl ok=>?_;induction args using List.casesOn with
  | cons=>exact nS h
  | nil=>
   refine aj (ob h) λk hy h=>?_;refine ao (bV h) λhc h=>?_;obtain rfl:=Jd h;simp only[Jn,bne_iff_ne,ne_eq]at hc;exact .HX W'.O hn hd hj hc.2 hy ok hl
 ·
  rw[hp]at h;induction ht:kE v using Option.casesOn with
  | some es=>
   rw[ht]at h;refine xs21 v (uD ht) λzz zz=>?_;refine aj (ob h) λz0 h1 h=>?_;obtain⟨u,a⟩:=z0;refine ao (bV h) λhc h=>?_;obtain rfl:=Jd h;simp only[Jn,beq_iff_eq]at hc;exact .cH (.tup (tu S W W' h1 hc.2) W'.O hn hd hj hc.1.1 (Nat.le_of_ble_eq_true hc.1.2) hc.2) W'.O
  | none=>
   rw[ht]at h;refine aj (ob h) λz0 h1 h=>?_;obtain⟨u,a⟩:=z0;obtain rfl:=Jd h;exact .cH (.Iy ((S _).e W' h1).1 W'.O hn hd hj λvs k p q=>by clear hp h1;subst q;exact sN ht) W'.O
theorem ug(W:dG C fns glb mg mb){ts:List Expr}{v:Expr}{pos:Pos}{d:bj}(h:md cx ts v=aa d):bu C cx (.Assign ts v pos) d:=by
 unfold md at h;induction hv:qW ts using vy.casesOn with
 | nm x=>rw[hv]at h;refine xs11 ts (CX hv) λzz=>?_;exact Er S W' W h
 | tp es=>rw[hv]at h;refine xs21 ts (CV hv) λzz zz=>?_;exact Eo S W' W h
 | sub x i=>
  rw[hv]at h;refine xs21 ts (Bm hv) λzz zz=>?_;refine aj (ob h) λj hj h=>?_;refine ao (bV h) λhc h=>?_;refine aj (ob h) λz0 h1 h=>?_;obtain⟨u,a⟩:=z0;refine aj (ob h) λz0 h2 h=>?_;obtain⟨w,c⟩:=z0;obtain rfl:=Jd h;rw[Jn]at hc;exact .cH (.put ((S _).e W' h1).1 ((S _).e W' h2).1 W'.O hj hc.1 hc.2) W'.O
 | no=>rw[hv]at h;exact nS h
set_option tactic.hygienic true
theorem uw{e:Expr}{pos:Pos}{d:bj}(h:ng cx e=aa d):bu C cx (.Expr e pos) d:=by
 unfold ng at h;refine n7 (qc e) (λq ha=>?_) λha=>?_
 ·
  rw[ha]at h;obtain⟨x,m,ap,as,cp⟩:=q;refine xs11 e (rA ha) λp=>?_;refine aj (ob h) λj hj h2=>?_;clear h;refine ao (bV h2) λhc h=>?_;clear h2;rw[Jn]at hc;dsimp only at h hc hj
  split at h
  ·split at h
   ·rename_i hm;have hm:=gZ hm;clear ha;subst hm;refine aj (ob h) λz0 h1 h=>?_;obtain⟨u,a⟩:=z0;obtain rfl:=Jd h;exact .cH (.append ((S _).e W' h1).1 ((S _).ns h1) W'.O hj hc.2 hc.1) W'.O
   ·refine ao (bV h) λhm h=>?_;have hm:=gZ hm;clear ha;subst hm;refine aj (ob h) λz0 h1 h=>?_;obtain⟨u,a⟩:=z0;obtain rfl:=Jd h;exact .cH (.extend ((S _).e W' h1).1 ((S _).ns h1) W'.O hj hc.2 hc.1) W'.O
  ·refine ao (bV h) λhm h=>?_;have hm:=gZ hm;clear ha;subst hm;refine aj (ob h) λz0 h1 h=>?_;obtain⟨u,a⟩:=z0;refine aj (ob h) λz0 h2 h=>?_;obtain⟨w,c⟩:=z0;obtain rfl:=Jd h;exact .cH (.insert ((S _).e W' h1).1 ((S _).e W' h2).1 ((S _).ns h2) ((S _).ns h1) W'.O hj hc.2 hc.1) W'.O
  ·exact nS h
 ·
  rw[ha]at h;refine aj (ob h) λz0 hn h=>?_;obtain⟨x,as,cp⟩:=z0;refine aw (mS hn) λp z0=>?_;clear ha hn;subst z0;refine aj (ob h) λz0 h1 h=>?_;obtain⟨u,a⟩:=z0;obtain rfl:=Jd h;exact .cH (.expr ((S _).e W' h1).1) W'.O
end
structure qd(C:Cfg)(fns:List (Str×Nat))(glb:List (Str×V))(F:Ax):Prop where
 s:∀{cx st d},CW fns glb cx->F.s cx st=aa d->bu C cx st d
 b:∀{cx l d},CW fns glb cx->F.b cx l=aa d->eA C cx l d
theorem Be{b:List Stmt}{hs:List ExceptHandler}{els fin:List Stmt}{d:bj}(h:ye cx b hs els fin=aa d):∃s k,b=[s]/\hs=[k]/\els=[]/\fin=[]/\vA cx s k=aa d:=by
 induction b using List.casesOn with
 | nil=>exact nS h
 | cons s b=>
  induction b using List.casesOn with
  | cons=>exact nS h
  | nil=>
   induction hs using List.casesOn with
   | nil=>exact nS h
   | cons k hs=>
    induction hs using List.casesOn with
    | cons=>exact nS h
    | nil=>
     induction els using List.casesOn with
     | cons=>exact nS h
     | nil=>
      induction fin using List.casesOn with
      | cons=>exact nS h
      | nil=>exact gv s k rfl rfl rfl rfl h
theorem Bd(S:∀n,Sound C fns glb (dT n))(W:dG C fns glb mg mb)(Y:pb C mg)(W':CW fns glb cx){s:Stmt}{hd:ExceptHandler}{p:Pos}{d:bj}(h:vA cx s hd=aa d):bu C cx (.Try [s] [hd] [] [] p) d:=by
 refine aj (ob h) λx hr h=>?_;refine aj (ob h) λz0 hh h=>?_;obtain⟨c,n,n',a⟩:=z0;refine ao (bV h) λhc h=>?_;refine aj (ob h) λz0 h1 h=>?_;obtain⟨u,r⟩:=z0;obtain rfl:=Jd h;refine aw (uP hr) λzz z0=>?_;clear hr;subst z0;refine Hs (B8 hh) λzz zz zz zz zz z0=>?_;subst z0;simp only[Jn]at hc;have hm:=gZ hc.1.1.1.1.1;have hn:=gZ hc.1.1.1.2;have ha:=gZ hc.1.1.2;clear hh;subst hm hn ha;refine aw (Option.isSome_iff_exists.mp hc.1.2) λj hj=>?_;exact .cH (.CP W Y hc.1.1.1.1.2 ((S _).e W' h1).1 W'.O hj (by simpa using hc.2)) W'.O
theorem Bq{F:Ax}(S:∀n,Sound C fns glb (dT n))(ih:qd C fns glb F)(W:dG C fns glb mg mb)(Y:pb C mg)(W':CW fns glb cx){st:Stmt}{d:bj}(h:z5 cx F.b st=aa d):bu C cx st d:=by
 induction st using Stmt.casesOn with
 | Expr e p=>exact uw S W' h
 | Assign ts v p=>exact ug S W' W h
 | AugAssign t op e p=>
  refine aj (ob h) λx hn h=>?_;refine xs11 t (eg hn) λzz=>?_;refine aj (ob h) λj ht h=>?_;refine aj (ob h) λz0 h1 h=>?_;obtain⟨u,a⟩:=z0;refine ao (bV h) λzz h=>?_;obtain rfl:=Jd h;rw[eM];exact .cH (.aug ((S _).e W' h1).1 W'.O ht) W'.O
 | For t src body els p=>
  induction els using List.casesOn with
  | cons=>exact nS h
  | nil=>
   refine ao (bV h) λhf h=>?_;refine aj (ob h) λtg ht h=>?_;refine aj (ob h) λz0 h1 h=>?_;obtain⟨u,a⟩:=z0;refine aj (ob h) λb h2 h=>?_;obtain rfl:=Jd h;exact .cH (.Ik W.cls ((S _).i W' h1) (xS ((S _).ni h1)) (by rw[← pk];exact hf) ht (ih.b W' h2) W'.O) W'.O
 | While t body els p=>
  induction els using List.casesOn with
  | cons=>exact nS h
  | nil=>
   refine aj (ob h) λz0 h1 h=>?_;obtain⟨u,a⟩:=z0;refine aj (ob h) λb h2 h=>?_;refine ao (bV h) λzz h=>?_;obtain rfl:=Jd h;exact .CM W.cls ((S _).e W' h1).2 (ih.b W' h2)
 | If t x y p=>
  refine aj (ob h) λz0 h1 h=>?_;obtain⟨u,a⟩:=z0;refine aj (ob h) λb h2 h=>?_;refine aj (ob h) λb' h3 h=>?_;obtain rfl:=Jd h;exact .cH (.IF ((S _).e W' h1).2 (ih.b W' h2) (ih.b W' h3)) W'.O
 | Return e p=>
  refine aj (ob h) λe z0 h=>?_;subst z0;refine aj (ob h) λz0 h1 h=>?_;obtain⟨u,a⟩:=z0;obtain rfl:=Jd h;exact .cH (.ret ((S _).e W' h1).1) W'.O
 | Raise e c p=>
  refine aj (ob h) λz0 hr h=>?_;obtain⟨x,k,y⟩:=z0;refine bY (xm hr) λzz zz z0 z1=>?_;subst z0;subst z1;refine ao (bV h) λhc h=>?_;refine aj (ob h) λz0 h1 h=>?_;obtain⟨u,a⟩:=z0;refine aj (ob h) λz0 h2 h=>?_;obtain⟨v,c⟩:=z0;obtain rfl:=Jd h;simp only[Jn]at hc;have hm:=gZ hc.1.1;clear hr;subst hm;exact .cH (.raise W Y hc.1.2 ((S _).e W' h1).1 ((S _).e W' h2).1 ((S _).ns h1) ((S _).ns h2)) W'.O
 | Try b hs els fin p=>
  have h:ye cx b hs els fin=aa d:=h;refine lB (Be h) λs k z0 z1 z2 z3 h=>?_;subst z0 z1 z2 z3;exact Bd S W Y W' h
 | Continue p=>obtain rfl:=Jd h;exact .cont
 | _=>exact nS h
theorem Bv{F:Ax}(ih:qd C fns glb F)(W':CW fns glb cx){l:List Stmt}{d:bj}(h:Aa cx F.b F.s l=aa d):eA C cx l d:=by
 induction l using List.casesOn with
 | nil=>obtain rfl:=Jd h;exact .nil
 | cons s r=>
  refine aj (ob h) λd h1 h=>?_;induction r using List.casesOn with
  | nil=>obtain rfl:=Jd h;exact .one (ih.s W' h1)
  | cons s' r'=>refine aj (ob h) λe h2 h=>?_;obtain rfl:=Jd h;exact .cons (ih.s W' h1) (ih.b W' h2)
theorem kW(S:∀n,Sound C fns glb (dT n))(W:dG C fns glb mg mb)(Y:pb C mg):∀n,qd C fns glb (j0 n)
 | 0=>⟨λJ h=>(nomatch h),λJ h=>(nomatch h)⟩
 | n+1=>have ih:=kW S W Y n
  ⟨λW' h=>Bq S ih W Y W' h,λW' h=>Bv ih W' h⟩
end
theorem dR:∀{vs:List Str}{n:Nat}{x:Str}{j:Nat},(numbered n vs).lookup x=aa j->n<=j/\vs[j-n]?=aa x
 | [],_,_,_,h=>by exact nS h
 | v::r,n,x,j,h=>by
  unfold numbered at h;rw[List.lookup_cons]at h;by_cases q:x=v
  ·subst q;simp at h;subst h;simp
  ·have:(x==v)=ag:=by rw[beq_eq_false_iff_ne];exact q
   rw[this]at h;refine ao (dR (vs:=r) (n:=n+1) h) λh1 h2=>?_;refine⟨by exact JA h1,?_⟩;have:j-n=(j-(n+1))+1:=by lia
   rw[this,List.getElem?_cons_succ];exact h2
noncomputable def fQ(fns:List (Str×Nat))(glb:List (Str×V))(lam:Nat)(caps:List Str)(params:List Str)(sc:Jc)(body:List Stmt):Cx:=
 { sc:=sc.names,vars:=numbered 0 (ec params sc),muts:=(lQ iW body).eraseDups,fns,glb,next:=(ec params sc).length,lam,caps }
noncomputable def jY(caps:List Str)(params:List Str)(sc:Jc):Bool:=
 distinct params&&(params.all λx=>sc.names.lookup x==aa .local||sc.names.lookup x==aa .cell)&&(sc.names.all λx=>x.2 !=.free)&&((ec params sc).all bc)&&(caps.all λx=>sc.names.lookup x==aa .cell)
section
variable{fns:List (Str×Nat)}{glb:List (Str×V)}{mg mb:Str->Option IZ}{lam:Nat}{caps params:List Str}{sc:Jc}{body:List Stmt}
theorem oZ:bD (fQ fns glb lam caps params sc body) where
 inj x y j hx hy:=by
  have h1:=(dR (show(numbered 0 (ec params sc)).lookup x=aa j from hx)).2;have h2:=(dR (show(numbered 0 (ec params sc)).lookup y=aa j from hy)).2;rw[h1]at h2;clear hy;obtain rfl:=Jd h2;rfl
 lt x j hx:=by
  have h1:=(dR (show(numbered 0 (ec params sc)).lookup x=aa j from hx)).2;have:=(Jw.mp h1).1;show j<(ec params sc).length;simpa using this
theorem tU(h:jY caps params sc=af)(hc:caps=[]):CW fns glb (fQ fns glb lam caps params sc body):=by
 refine⟨oZ,rfl,rfl,hc,λx j hx=>?_⟩;have h1:=(dR (show(numbered 0 (ec params sc)).lookup x=aa j from hx)).2;unfold jY at h;simp only[Jn]at h;exact List.all_eq_true.mp h.1.2 x (List.mem_of_getElem? h1)
theorem lookup_mem{α:Type}:∀{l:List (Str×α)}{x:Str}{v:α},l.lookup x=aa v->(x,v)∈l:=λh=>I6 h
theorem tM(h:jY caps params sc=af){a:I1}(hobj:∃o fd,C.h₀.get? a=aa o/\o.data=.func fd/\oz C.h₀ fd (.stmts body) params sc.names)(hnl:C.h₀.NoLimit)
  (hcode:caps=[]\/∀fd,(∃o,C.h₀.get? a=aa o/\o.data=.func fd)->fd.code=.ref C.lc/\fd.qualname++(".<locals>." : Str)++("<lambda>" : Str)=C.lqual) (body':List Stmt):nD C a (fQ fns glb lam caps params sc body') params body:=by
 unfold jY at h;simp only[Jn]at h;refine ao h λz0 h5=>?_;refine ao z0 λz0 h4=>?_;obtain⟨⟨h1,h2⟩,h3⟩:=z0;refine⟨hobj,h1,λx hx=>?_,λx j hx hj=>?_,λx hx=>?_,λx hx=>?_,hnl,hcode⟩
 ·have:=List.all_eq_true.mp h2 x hx;show sc.names.lookup x=aa .local\/sc.names.lookup x=aa .cell;simpa using this
 ·have q:=(dR (show(numbered 0 (ec params sc)).lookup x=aa j from hx)).2;unfold ec at q;rw[Nat.sub_zero,List.getElem?_append_left hj]at q;exact q
 ·have:=List.all_eq_true.mp h3 _ (lookup_mem hx);simp at this
 ·have hm:x∈caps:=by simpa [fQ]using hx
  have:=List.all_eq_true.mp h5 x hm;show sc.names.lookup x=aa .cell;simpa using this
set_option tactic.hygienic true
theorem tZ{d:aB}(h:nR fns glb lam caps params sc body=aa d):d.np=params.length/\rW iW (fQ fns glb lam caps params sc body) body=aa d.body:=by
 unfold nR at h;dsimp only at h
 split at h
 ·rename_i h1;obtain rfl:=Jd h;exact⟨rfl,h1⟩
 ·exact nS h
end
variable{fns:List (Str×Nat)}{glb:List (Str×V)}{mg mb:Str->Option IZ}
theorem IJ(W:dG C fns glb mg mb):yd C:=⟨Ek W.sys,zD,GU⟩
end
section
open PySem PySem.Calls PyProof.Rows PySem.W
section
variable{prog:Program}{w:World}{A:I0}{E:IZ->IY->Prop}{s:IY}
theorem sy {a:I1} {vs:List IZ} {n:Nat} {P:PySem.Fin->IY->Prop} (ho:s.heap.get? a=aa (seqObj "list" vs.toArray n)) (h2:vs.length<2)
  (h:P (.done (.ret .none)) { s with heap:=sortedHeap s.heap a vs vs.toArray }):
  wpAny (model prog w) A (Builtin.«list.sort» ⟨[.ref a],[]⟩) P E s:=by
 rw[list_sort_plain];have ha:a<s.heap.objs.size:=Jj ho;refine az (listItems_at ho rfl ?_);refine az (listUpdate_at ho rfl ?_);obtain⟨e1,ho1⟩:∃e1,(s.heap.update a (Obj.mapSeq λJ=>#[])).get? a=aa (seqObj "list" #[] e1):=⟨_,get?_update_seq ho (λJ=>#[])⟩;refine az (seqEpoch_at ho1 rfl ?_);refine az (wpAny_newTuple ?_);refine az (wpAny_newList ?_);refine IS ?_;have ho6:(((s.heap.update a (Obj.mapSeq λJ=>#[])).push (seqObj "tuple" vs.toArray 0)).push (seqObj "list" #[] 0)).get? a=aa (seqObj "list" #[] e1):=by
  rw[Heap.get?_push_ne _ _ _ (by rw[size_push',Heap.size_update];exact Jz (Nat.lt_succ_of_lt ha)),Heap.get?_push_ne _ _ _ (by rw[Heap.size_update];exact Jz ha)];exact ho1
 show wpAny (model prog w) A _ P E { s with heap:=((s.heap.update a (Obj.mapSeq λJ=>#[])).push (seqObj "tuple" vs.toArray 0)).push (seqObj "list" #[] 0) };dsimp only;have h2':vs.toArray.size<2:=by simpa using h2
 rw[if_pos h2',if_pos h2'];refine IQ (IP ?_);rw[StateT.run_pure];refine IQ (IP ?_);dsimp only;refine az (seqEpoch_at ho6 rfl ?_);have e2:(arrOf (SortSt.mk' general' (vs.toArray.zip vs.toArray) #[] 7 ae)).map (·.2)=vs.toArray:=by
  show(vs.toArray.zip vs.toArray).map (·.2)=vs.toArray;apply Array.toList_inj.mp;simp[List.map_snd_zip]
 refine az (listUpdate_at ho6 rfl ?_ (hsz2:=by rw[e2];rw[sizeLine_eq];lia));simp only[bne_self_eq_false,Jo,if_false];refine IP ?_;rw[e2];exact h
theorem yu {a dY cY:I1} {n:Nat} {x y:Int} {tx ty:Tok} {v w':IZ} {P:PySem.Fin->IY->Prop} (ho:s.heap.get? a=aa (seqObj "list" #[.ref dY,.ref cY] n)) (h1:s.heap.get? dY=aa { cls:=.type "tuple",data:=.seq #[.int x tx,v] })
  (h2:s.heap.get? cY=aa { cls:=.type "tuple",data:=.seq #[.int y ty,w'] }) (hne:x≠y)
  (h:P (.done (.ret .none)) { s with heap:=sortedHeap s.heap a [.ref dY,.ref cY] (if y<x then #[.ref cY,.ref dY] else #[.ref dY,.ref cY]) }):
  wpAny (model prog w) A (Builtin.«list.sort» ⟨[.ref a],[]⟩) P E s:=by
 have h1a:dY≠a:=λe=>by rw[e,ho]at h1;have q:=congrArg Obj.cls (Jd h1);simp[seqObj]at q
 have h2a:cY≠a:=λe=>by rw[e,ho]at h2;have q:=congrArg Obj.cls (Jd h2);simp[seqObj]at q
 rw[list_sort_plain];have ha:a<s.heap.objs.size:=Jj ho;refine az (listItems_at ho rfl ?_);refine az (listUpdate_at ho rfl ?_);obtain⟨e1,ho1⟩:∃e1,(s.heap.update a (Obj.mapSeq λJ=>#[])).get? a=aa (seqObj "list" #[] e1):=⟨_,get?_update_seq ho (λJ=>#[])⟩;refine az (seqEpoch_at ho1 rfl ?_);refine az (wpAny_newTuple ?_);refine az (wpAny_newList ?_);refine IS ?_;have kp:∀b o,b≠a->s.heap.get? b=aa o->(((s.heap.update a (Obj.mapSeq λJ=>#[])).push (seqObj "tuple" #[.ref dY,.ref cY] 0)).push (seqObj "list" #[] 0)).get? b=aa o:=λb o hb e=>by
  refine Jg _ (Jg _ ?_);rw[Heap.get?_update_ne _ _ _ _ hb];exact e
 have ho6:(((s.heap.update a (Obj.mapSeq λJ=>#[])).push (seqObj "tuple" #[.ref dY,.ref cY] 0)).push (seqObj "list" #[] 0)).get? a=aa (seqObj "list" #[] e1):=Jg _ (Jg _ ho1);have g1:=kp dY _ h1a h1;have g2:=kp cY _ h2a h2;have fin:=h;unfold sortedHeap at fin;change P (.done (.ret .none)) { s with heap:=(((s.heap.update a (Obj.mapSeq λJ=>#[])).push (seqObj "tuple" #[.ref dY,.ref cY] 0)).push (seqObj "list" #[] 0)).update a (Obj.mapSeq λJ=>if y<x then #[.ref cY,.ref dY] else #[.ref dY,.ref cY]) } at fin
 show wpAny (model prog w) A _ P E { s with heap:=((s.heap.update a (Obj.mapSeq λJ=>#[])).push (seqObj "tuple" #[.ref dY,.ref cY] 0)).push (seqObj "list" #[] 0) };generalize ((s.heap.update a (Obj.mapSeq λJ=>#[])).push (seqObj "tuple" #[.ref dY,.ref cY] 0)).push (seqObj "list" #[] 0)=hp at g1 g2 ho6 fin ⊢;dsimp only;rw[if_neg (by simp),if_neg (by simp)];have hk:KatTups (Shared.heap { s with heap:=hp }) [.ref dY,.ref cY] [.int x tx,.int y ty]:=.cons g1 rfl rfl rfl (.cons g2 rfl rfl rfl .nil);refine az ?_;show wpAny (model prog w) A (keyKind' [Value.ref dY,Value.ref cY].toArray) _ _ _;refine kat_kind (T:=.type "int") hk (by simp) (λv hv=>?_) (by decide) ?_
 ·rcases Jx.mp hv with rfl|hv
  ·exact .now
  ·rcases Jx.mp hv with rfl|hv
   ·exact .now
   ·nomatch hv
 have run:(kas_sort [Value.ref dY,Value.ref cY].length).kasWp (kas_ask prog w A (tuples' (Value.type "int" !=Value.type "tuple")) [Value.ref dY,Value.ref cY]) (λp s'=>s'={ s with heap:=hp }/\p=if y<x then #[1,0] else #[0,1]) { s with heap:=hp }:=by
  show kas_ask prog w A (tuples' (Value.type "int" !=Value.type "tuple")) [Value.ref dY,Value.ref cY] 1 0 (λc s'=>_) { s with heap:=hp };show wpAny (model prog w) A (keyLt' (tuples' af) (.ref cY) (.ref dY)) _ _ _;refine kat_lt g2 rfl g1 rfl ?_;refine kat_cons (wpAny_eqBool_int ?_);rw[show(y==x)=ag from beq_eq_false_iff_ne.mpr (Ne.symm hne)];refine kat_no (oneLt_int ?_);by_cases q:y<x
  ·rw[decide_eq_true q];exact⟨rfl,by rw[if_pos q];simp only[List.length_cons,List.length_nil];decide +kernel⟩
  ·rw[decide_eq_false q];exact⟨rfl,by rw[if_neg q];rfl⟩
 refine az (IX (kat_run (ks:=[Value.ref dY,Value.ref cY]) (vs:=[Value.ref dY,Value.ref cY]) (Q:=λst' s'=>s'={ s with heap:=hp }/\failedOf st'=ae/\(arrOf st').map (·.2)=if y<x then #[.ref cY,.ref dY] else #[.ref dY,.ref cY])
  rfl (by simp) (by simp) (λp st' s' J har hf hG=>⟨hG.1,hf,?_⟩) run) ?_ λJ J e=>e)
 ·rw[kat_snds rfl har,hG.2];by_cases q:y<x
  ·rw[if_pos q,if_pos q];rfl
  ·rw[if_neg q,if_neg q];rfl
 rintro ⟨⟨⟩,st'⟩ s' ⟨rfl,hf,hout⟩;dsimp only at hout ⊢;refine az (seqEpoch_at ho6 rfl ?_);rw[hout];refine az (listUpdate_at ho6 rfl ?_ (hsz2:=by rw[sizeLine_eq];split<;>(show 2<=_;decide)))
 rw[hf];simp only[bne_self_eq_false,Jo,if_false];exact IP fin
end
section
variable{fns:List (Str×Nat)}{glb:List (Str×V)}{mg mb:Str->Option IZ}{X Pn:AP}{s s':IY}{A:I0}{n:Nat}{p:List V}{Q E:IZ->IY->Prop}{cx:Cx}{b:Bool}
noncomputable def kvsOf(ns:List Int)(es:List I2):List (Int×IZ):=ns.zip (es.map (·.val))
theorem rx{h:Heap}:∀(es:List I2)(ns:List Int),av C X h (ns.map .int) (es.map (·.key))->es.map (·.hash)=bq C.w (ns.map .int)->
  Pairs (intKind C.prog C.w) es (kvsOf ns es)/\(∀e∈es,∃k,(intKind C.prog C.w).is k e.key=af/\e.hash=(intKind C.prog C.w).hash k)/\(kvsOf ns es).map (·.1)=ns
 | [],[],_,_=>⟨.nil,λJ q=>(nomatch q),rfl⟩
 | [],_::_,r,_=>by simp only[List.map_cons,av,List.map_nil]at r;refine bY r λzz zz q zz=>?_;exact(nomatch q)
 | _::_,[],r,_=>by simp only[List.map_cons,av,List.map_nil]at r;exact(nomatch r)
 | e::es,k::ns,r,hh=>by
  simp only[List.map_cons,av]at r;refine aW r λx q e1 h1 h2=>?_;injection e1 with e1 e2;subst e1 e2;simp only[aq]at h1;refine aw h1 λt h1=>?_;simp only[List.map_cons,bq]at hh;injection hh with g1 g2;refine bM (rx es ns h2 g2) λa1 a2 a3=>?_;have hi:(intKind C.prog C.w).is k e.key=af:=by rw[h1];simp[intKind,Value.isInt]
  refine⟨.cons (kv:=(k,e.val)) hi rfl a1,λe' he'=>?_,by show k::(kvsOf ns es).map (·.1)=_;rw[a3]⟩;rcases Jx.mp he' with rfl|he'
  ·exact au k hi (by rw[g1];rfl)
  ·exact a2 e' he'
theorem n5{ks xs l:List V}(hs:nI ks xs=aa l):(ks=[]/\l=[])\/(∃a v,ks=[.int a]/\xs=[v]/\l=[.tup [.int a,v]])\/∃a b v w,ks=[.int a,.int b]/\xs=[v,w]/\((a<b/\l=[.tup [.int a,v],.tup [.int b,w]])\/(b<a/\l=[.tup [.int b,w],.tup [.int a,v]])):=by
 induction ks using List.casesOn with
 | nil=>exact .inl ⟨rfl,(Jd hs).symm⟩
 | cons k r=>
  induction k using V.casesOn with
  | int a=>
   induction r using List.casesOn with
   | nil=>
    induction xs using List.casesOn with
    | nil=>exact nS hs
    | cons v x=>
     induction x using List.casesOn with
     | nil=>exact .inr (.inl (bX a v rfl rfl ((Jd hs).symm)))
     | cons=>exact nS hs
   | cons k r=>
    induction k using V.casesOn with
    | int b=>
     induction r using List.casesOn with
     | cons=>exact nS hs
     | nil=>
      induction xs using List.casesOn with
      | nil=>exact nS hs
      | cons v x=>
       induction x using List.casesOn with
       | nil=>exact nS hs
       | cons w x=>
        induction x using List.casesOn with
        | cons=>exact nS hs
        | nil=>
         refine .inr (.inr ⟨a,b,v,w,rfl,rfl,(gi hs).imp (λq=>⟨?_,(Jd q.2).symm⟩) λq=>⟨?_,(Jd (cL q.2).2).symm⟩⟩)
         ·exact of_decide_eq_true ((gT a b).symm.trans q.1)
         ·exact of_decide_eq_true ((gT b a).symm.trans (cL q.2).1)
    | _=>exact nS hs
  | _=>exact nS hs
theorem vY{ks xs l:List V}(hs:nI ks xs=aa l):∃ns:List Int,ks=ns.map .int/\ns.Nodup/\ns.length<=2:=by
 refine(n5 hs).elim (λq=>aU ([]) q.1 .nil (JC _)) λq=>q.elim (λq=>?_) λq=>?_
 ·refine aW q λa v z0 J J=>?_;exact aU ([a]) z0 (by simp) (Nat.le_succ 1)
 ·refine lz q λa b v w z0 J z2=>?_;exact aU ([a,b]) z0 (by simp;exact z2.elim (λq=>Int.ne_of_lt q.1) λq=>Int.ne_of_gt q.1) (Nat.le_refl _)
theorem yW{α:Type}{l:List α}(h:l.length=2):∃a b,l=[a,b]:=by
 induction l using List.casesOn with
 | nil=>exact(nomatch h)
 | cons a l=>refine aw (List.length_eq_one_iff.mp (Nat.succ.inj h)) λb z0=>?_;clear h;subst z0;exact fU a b rfl
set_option tactic.hygienic true
theorem xd{ks xs l:List V}{es:List I2}{ns:List Int}{as:List I1}{lo:I1}{aT:Heap}{s₁:IY}(hs:nI ks xs=aa l)(hks:ks=ns.map .int)(hkp:∀b o,aT.get? b=aa o->s₁.heap.get? b=aa o)(h2:av C X aT xs (es.map (·.val)))(hl:as.length=(kvsOf ns es).length)(hG:KdxG (intKind C.prog C.w) (kvsOf ns es) lo aT as)
  (hX:∀a∈as,¬X a) (he:es.length=ns.length) {a:I1} {m:Nat} {A':I0} {P:PySem.Fin->IY->Prop} {E':IZ->IY->Prop} (ho:s₁.heap.get? a=aa (seqObj "list" (as.map Value.ref).toArray m))
  (hP:∀out,av C X aT l out.toList->out.size<=8000->P (.done (.ret .none)) { s₁ with heap:=sortedHeap s₁.heap a (as.map Value.ref) out }):wpAny (model C.prog C.w) A' (Builtin.«list.sort» ⟨[.ref a],[]⟩) P E' s₁:=by
 have tup:∀(j:Nat) (t:I1) (k:Int) (x:IZ) (v:V),as[j]?=aa t->(kvsOf ns es)[j]?=aa (k,x)->aq C X aT v x->∃tk,s₁.heap.get? t=aa { cls:=.type "tuple",data:=.seq #[.int k tk,x] }/\aq C X aT (.tup [.int k,v]) (.ref t):=by
  intro j t k x v hj hk hv;refine dz (hG.pairs j t hj) λkey k' x' e1 e2 e3=>?_;rw[hk]at e1;refine ao (bU e1) λz0 z1=>?_;subst z0;clear e1;subst z1;refine aw (Value.isInt_shape e2) λtk z0=>?_;clear e2;subst z0;refine au tk (hkp _ _ e3) ?_;simp only[aq,av];refine d8 t ([.int k tk,x]) rfl (hX t (List.mem_iff_getElem?.mpr ⟨j,hj⟩)) ⟨?_,0,e3⟩ ⟨_,_,rfl,⟨tk,rfl⟩,_,_,rfl,hv,rfl⟩;show 2<=8000;decide
 rcases n5 hs with⟨z0,z1⟩|⟨nu,v,z0,z1,z2⟩|⟨nu,ue,v,w,z0,z1,z2⟩
 ·clear hs;subst z0 z1;induction ns using List.casesOn with
  | cons=>exact(nomatch hks)
  | nil=>
   induction as using List.casesOn with
   | cons=>exact(nomatch hl)
   | nil=>exact sy ho (by simp) (hP _ (by simp[av]) (by simp))
 ·clear hs;subst z0 z1 z2;refine aw (List.length_eq_one_iff.mp ((Jv ..).symm.trans (congrArg List.length hks).symm:ns.length=1)) λx z0=>?_;subst z0;cases hks;refine aw (List.length_eq_one_iff.mp he) λe z0=>?_;clear he;subst z0;refine aw (List.length_eq_one_iff.mp hl) λt z0=>?_;clear hX hl hG;subst z0;simp only[List.map_cons,List.map_nil,av]at h2;refine aW h2 λx r q hv zz=>?_;injection q with q _;refine aj (tup 0 t nu e.val v rfl rfl (by rw[q];exact hv)) λtk g1 g2=>?_;exact sy ho (by simp) (hP _ (by simp only[av];exact bX _ _ rfl g2 rfl) (by simp))
 ·clear hs;subst z0 z1;refine dX (yW ((Jv ..).symm.trans (congrArg List.length hks).symm:ns.length=2)) λx y z0=>?_;subst z0;cases hks;refine dX (yW he) λe e' z0=>?_;subst z0;refine dX (yW hl) λt t' z0=>?_;clear hX;subst z0;simp only[List.map_cons,List.map_nil,av]at h2;refine aW h2 λx r q hv zq=>?_;refine aW zq λx' r' q' hv' zz=>?_;injection q with q qr;clear zq;subst qr;injection q' with q' _;refine aj (tup 0 t nu e.val v rfl rfl (by rw[q];exact hv)) λtk g1 g2=>?_;refine aj (tup 1 t' ue e'.val w rfl rfl (by rw[q'];exact hv')) λtk' g1' g2'=>?_;have hne:nu≠ue:=z2.elim (λq=>Int.ne_of_lt q.1) λq=>Int.ne_of_gt q.1;refine yu ho g1 g1' hne ?_;refine hP _ ?_ (by split<;>simp)
  refine z2.elim (λq=>?_) λq=>?_
  ·rw[q.2,if_neg (Int.not_lt.mpr (Int.le_of_lt q.1))];simp only[av];exact bX _ _ rfl g2 ⟨_,_,rfl,g2',rfl⟩
  ·rw[q.2,if_pos q.1];simp only[av];exact bX _ _ rfl g2' ⟨_,_,rfl,g2,rfl⟩
set_option tactic.hygienic false
theorem su{r d:I1}{es:List I2}{ks xs l:List V}(P:bp C n X Pn p A s)(hv:s.heap.IsItemsView r d)(hd:eO s.heap d es)(h1:av C X s.heap ks (es.map (·.key)))(h2:av C X s.heap xs (es.map (·.val)))(hh:es.map (·.hash)=bq C.w ks)
  (hs:nI ks xs=aa l) (h:∀val s',Kp s s'->aq C X s'.heap (.lst l) val->Q val s'):wpAny (model C.prog C.w) A (PySem.call (.builtin "sorted") [.ref r]) Q E s:=by
 refine aQ (vY hs) λns z0 hnd hn2=>?_;subst z0;refine ao hd λz0 zq=>?_;refine ao z0 λhsys hz=>?_;refine aw zq λep ho=>?_;refine bM (rx es ns h1 hh) λp1 p2 p3=>?_;have hlen:es.length=ns.length:=by have:=h1.length;simp at this;exact this
 have hkl:(kvsOf ns es).length=ns.length:=by have:=congrArg List.length p3;simpa using this
 have hat:s.heap.DictAt (intKind C.prog C.w) d (kvsOf ns es) ep:=qh _ es.toArray ho ⟨rfl,rfl,rfl⟩ rfl (λe he=>p2 e (by simpa using he)) (by simpa using p1) (by rw[p3];exact hnd);refine call_function_entry kind_sorted plain_sorted entry_sorted (args_sorted1 _) ?_;unfold Builtin.«sorted»;refine az (m:=checkCount "sorted" 1 1 _) (IP ?_);refine az (kdx_collect (A:=A.in1) (knd:=intKind C.prog C.w) (kvs:=kvsOf ns es) (ep:=ep) (by exact P.room.handled) hv hat (by rw[sizeLine_eq,hkl];lia) λh' tk as hk hl hG=>?_);refine az (wpAny_newList ?_ (by rw[Jv,hl,sizeLine_eq,hkl];lia));have hoL:(h'.push (seqObj "list" (as.map Value.ref).toArray 0)).get? h'.objs.size=aa (seqObj "list" (as.map Value.ref).toArray 0):=Jh _ rfl;skip;have hk2:∀b o,s.heap.get? b=aa o->(h'.push (seqObj "list" (as.map Value.ref).toArray 0)).get? b=aa o:=λb o e=>Jg _ (hk b o e);have T:Tr X s.heap X h':=λb o e J hx=>⟨hk b o e,hx⟩;have hXa:∀a∈as,¬X a:=λa ha q=>by
  refine aw (P.lt a q) λo e=>?_;exact Nat.lt_asymm (Jj e) (hG.above a ha)
 have hXL:¬X h'.objs.size:=λq=>by
  refine aw (P.lt _ q) λo e=>?_;exact absurd (Jj (hk _ _ e)) (JB _)
 refine az (IS (IU slot_list_sort (au _ hoL rfl) entry_list_sort (xd (X:=X) (s₁:={ s with heap:=h'.push (seqObj "list" (as.map Value.ref).toArray 0),toks:=tk }) hs rfl (λb o eb=>Jg _ eb) (h2.tr T) hl hG hXa hlen hoL λout hr hz'=>au _ rfl ?_) (args_list_sort _)));refine aw (sortedHeap_at (h:=h'.push (seqObj "list" (as.map Value.ref).toArray 0)) (a:=h'.objs.size) (vs:=as.map Value.ref) (out:=out) hoL) λe he=>?_;have keep:∀b o,b≠h'.objs.size->(h'.push (seqObj "list" (as.map Value.ref).toArray 0)).get? b=aa o->(sortedHeap (h'.push (seqObj "list" (as.map Value.ref).toArray 0)) h'.objs.size (as.map Value.ref) out).get? b=aa o:=λb o hb eb=>by
  rw[sortedHeap_old hb (Jj eb)];exact eb
 refine IP (au _ rfl (h (.ref h'.objs.size) _ ⟨λb o eb=>keep b o (Jz (Jj (hk b o eb))) (hk2 b o eb),rfl,rfl⟩ ?_));simp only[aq];refine d8 h'.objs.size out.toList rfl hXL ⟨by simpa using hz',e,he⟩ ?_;exact hr.tr λb o eb J hx=>⟨keep b o (Jz (Jj eb)) (Jg _ eb),hx⟩
end
end
section
open PySem PySem.Calls PyProof.Rows
section
variable{fns:List (Str×Nat)}{glb:List (Str×V)}{mg mb:Str->Option IZ}
set_option tactic.hygienic true
theorem u4 (W:dG C fns glb mg mb) {cx:Cx} {b:Bool} {o:Expr} {x:aA} {np ap cp pos:Pos} (hG:cx.d5 "sorted" = af) (ho:jS o ap cp=af) (hx:aL C cx af o x):
  aL C cx b (.Call (.Name "sorted" np) [.Call (.Attribute o "items" ap) [] [] cp] [] pos) (Internal.c1 dK x):=by
 intro n call hc X Pn env ρ p s A Q E hv hk hr N;simp only[jS,Jn]at ho;have N:=N.o;rw[show(Internal.c1 dK x call ρ p).out=(x call ρ p).out.bind λa p=>(@Option.rec V (λJ=>Res) Res.stuck (λv=>Res.ok v p) (dK a)).out from dj _ _]at N;refine wpAny_Call_NameR (ei W hv (x := "sorted") (by decide +kernel) hG (by decide +kernel) (val:=.builtin "sorted") (by decide +kernel) ?_);rw[pj (e:=.Call (.Attribute o "items" ap) [] [] cp) (λJ J q=>nomatch q)];refine mf (.fn _) ?_;refine wpAny_Call_method (T := "dict") (id := "dict.items") (ia ho.1 _ _) rfl ho.2 F.plainAttrs_dict F.slot_dict_items F.type_dict_items ?_;refine hx.run hc hv hk hr N λv p₁ val s₁ hn v1 k₁ hval N1=>?_;induction v using V.casesOn<;>(try exact absurd rfl N1.1)
 case bh ks xs=>
  refine oc (nI ks xs) (λhs=>?_) λl hs=>?_
  ·simp only[dK,hs]at N1;exact absurd rfl N1.1
  ·
   simp only[dK,hs]at N1;have key:∃a es,val=.ref a/\eO s₁.heap a es/\av C X s₁.heap ks (es.map (·.key))/\av C X s₁.heap xs (es.map (·.val))/\es.map (·.hash)=bq C.w ks:=by
    rcases hval.b with r|⟨a,e,hn,r⟩
    ·simp only[aq]at r;refine yi r λa es e hx q w u z zz=>?_;exact gv a es e q w u z
    ·simp only[aP]at r;refine mw r λes q w u z zz=>?_;exact gv a es e q w u z
   refine lB key λa es z0 hd' h1 h2 hh=>?_;clear key;clear hval;subst z0;refine ao (id hd') λz0 zq=>?_;refine ao z0 λhsys hz=>?_;refine aw zq λm hd=>?_;have hT:s₁.TypeIs (.ref a) "dict" := au _ hd rfl;refine⟨hT,λa' ea=>by(injection ea with h9;subst h9);exact au _ hd rfl,?_⟩;refine Calls.callWith_builtin rfl (PySem.evalArgs_none ?_);refine IU F.slot_dict_items hT F.entry_dict_items ?_ (F.args_dict_items_1 _);unfold Builtin.«dict.items»;refine az ?_;unfold Builtin.Dict.noArgs;refine az (wpAny_notOrdered_dict hT ?_);skip;refine IP ?_;show wpAny _ _ (Builtin.Dict.showsAll a >>= _) _ _ s₁;unfold Builtin.Dict.showsAll;rw[if_neg (by rw[hsys];exact Bool.false_ne_true)];refine az (IP ?_);refine az (wpAny_newObj_type (IP (au _ rfl ?_)));have K:Kp s₁ { s₁ with heap:=s₁.heap.push { cls:=.type "dict_items",data:=.fields #[.ref a] } }:=Kp.push (s:=s₁) _;have P0:=(v1.kp K).pre (k₁.ext (K.nx (Pn:=Pn) v1.base).ext v1.aE) hr;refine su (d:=a) (es:=es) (ks:=ks) (xs:=xs) P0 (aU _ (Jh _ rfl) rfl rfl) ⟨⟨hsys,hz⟩,m,K.keep _ _ hd⟩ (h1.tr K.tr) (h2.tr K.tr) hh hs λval' s' hkp hrep=>?_;exact N1.kp v1.base v1.aE (K.trans hkp) _ (.of hrep)
end
section
variable{fns:List (Str×Nat)}{glb:List (Str×V)}{mg mb:Str->Option IZ}
theorem C2(W:dG C fns glb mg mb)(hD:∀f i,fns.lookup f=aa i->C.isDef i=af):∀n,Sound C fns glb (dT n):=
 sound W (IJ W) (λJ a b c=>u4 W a b c) hD
end
section
variable{fns:List (Str×Nat)}{glb:List (Str×V)}{mg mb:Str->Option IZ}{cx:Cx}
theorem w4{f tn wn x k:Str}{i j jt jx cn:Nat}{params:Arguments}{lb:Expr}{lsc:Jc}{lpos:Pos}{fp tp cp rp np ap kpos rp' hpos pos pos':Pos}(W:dG C fns glb mg mb)(Y:pb C mg)(L:wU C mg cx.lam params lb lsc lpos x)(O:bD cx)
  (hE:cx.d5 "CasFail" = af) (ht:cZ cx wn=aa j) (hloc:cx.sc.lookup wn=aa .local)
  (hf:bc f=af) (hG:cx.d5 f=af) (hi:fns.lookup f=aa i) (hd:C.isDef i=af) (htn:bc tn=af) (hjt:cx.vars.lookup tn=aa jt)
  (hfree:freeOf lsc=[x]) (hjx:cx.vars.lookup x=aa jx) (hcap:cx.caps.contains x=af) (hcell:cx.sc.lookup x=aa .cell):
  eA C cx [.Try [.Return (aa (.Call (.Name f fp) [.Name tn tp,.Constant (.str k) cn cp,.Lambda params lb lsc lpos] [] pos)) rp] [.ExceptHandler (aa (.Name "CasFail" np)) (aa wn) [.Return (aa (.Attribute (.Name wn ap) "kind" kpos)) rp'] hpos] [] [] pos']
   (rP (ah i [.slot (aJ jt),.exp (cK (.str k.cps.toList)),.exp (uc cx.lam [aJ jx])])):=by
 refine .one (.CP W Y hE (.Au W hf hG hi hd ?_ (.slot htn hjt (.exp .tX (λJ J q=>nomatch q) (.exp (.lam W L hfree hjx hcap hcell) (λJ J q=>nomatch q) .nil)))) O ht hloc);intro y hy;rcases Jx.mp hy with rfl|hy
 ·exactλJ J q=>nomatch q
 ·rcases Jx.mp hy with rfl|hy
  ·exactλJ J q=>nomatch q
  ·rcases Jx.mp hy with rfl|hy
   ·exactλJ J q=>nomatch q
   ·nomatch hy
end
theorem lj{h:Heap}{D:AP}{a:I1}(hd:D a):(hide h D).get? a=ae:=by
 delta Heap.get? hide;rw[Array.getElem?_mapIdx];cases h.objs[a]? with
 | none=>rfl
 | some o=>rw[Option.map_some,if_pos hd]
theorem gc{h:Heap}{D:AP}{a:I1}(hd:¬D a):(hide h D).get? a=h.get? a:=by
 delta Heap.get? hide;rw[Array.getElem?_mapIdx];cases h.objs[a]? with
 | none=>rfl
 | some o=>rw[Option.map_some,if_neg hd]
theorem oW{h:Heap}{D:AP}{a:I1}{o:Obj}(e:(hide h D).get? a=aa o):h.get? a=aa o:=by
 by_cases q:D a
 ·rw[lj q]at e;exact nS e
 ·rw[gc q]at e;exact e
theorem fg{j:Nat}{ρ:Fr}{v:Slot}(h:j<16):aJ j (sets j ρ v)=v:=by rw[cG,if_pos ⟨rfl,h⟩]
theorem gd{k j:Nat}{ρ:Fr}{v:Slot}(h:k≠j):aJ k (sets j ρ v)=aJ k ρ:=by rw[cG,if_neg (λq=>h q.1)]
section
variable{cx:Cx}{X0 X X' Pn:AP}{env:Env}{ay s s':IY}{ρ ρ':Fr}{p p':List V}{A:I0}{h h':Heap}
theorem St.F9{x:Str}{j:Nat}{l:List V}(S:St C cx (λJ=>False) (λJ=>False) env ay ρ p s X)(O:bD cx)(hx:cx.vars.lookup x=aa j)(hj:j<16)(hg:aJ j ρ=.own (.lst l))(hone:∀y k u,cx.vars.lookup y=aa k->aJ k ρ=.own u->y=x)(hcp:cx.caps=[]):
  ∃(P:I1)(s₁:IY),St C cx (λb=>b=P) (λb=>b=P) env s₁ (sets j ρ .aE) l s X/\(∀b o,ay.heap.get? b=aa o->s.heap.get? b=aa o->s₁.heap.get? b=aa o)/\s₁.gens=s.gens/\s₁.os=s.os/\ay.heap.get? P=ae:=by
 have v:=S.vw;refine aQ (v.vars x j hx (by rw[hg];simp)) λval rd sr hne=>?_;rw[hg]at sr;refine de sr λP z0 hXP zz ho=>?_;clear sr;subst z0;simp only[aP]at ho;refine aj ho λvs hl hvs=>?_;have hP0:ay.heap.get? P=ae:=(S.new P hXP).resolve_left id;have hold:∀b o,ay.heap.get? b=aa o->¬X b:=λb o e q=>by
  rw[(S.new b q).resolve_left id]at e;exact nS e
 have hPL:P≠env.locals:=λq=>hne (by rw[q]);refine gv P ({ s with heap:=hide s.heap λb=>X b/\b≠P }) ?_ (λb o e e'=>by show(hide _ _).get? b=_;rw[gc (λq=>hold b o e q.1)];exact e') rfl rfl hP0;have hbase:Base C (hide s.heap λb=>X b/\b≠P):=λb o e=>by
  rw[gc (λq=>by rw[v.fresh b q.1]at e;exact nS e)];exact v.base b o e
 have hneX:∀y k,cx.vars.lookup y=aa k->y≠x->k≠j:=λy k hy hn e=>hn (O.inj y x k hy (e▸hx));refine {
  vw:={ kind:=v.kind,globals:=v.globals,builtins:=v.builtins,kinds:=v.kinds,cells:=v.cells,vars:=λy k hy hu=>?_,own:=λy k u hy hgk=>?_,caps:=v.caps,code:=v.code,tab:=v.tab,aE:=⟨λa b e e'=>e.trans e'.symm,λa e=>by clear hXP zz ho rd hne hP0 hPL hbase;subst e;exact au vs hl hvs⟩,pnX:=λb e=>by clear zz ho rd hne hl hP0 hPL hbase;subst e;exact hXP,base:=v.base,lt:=v.lt,fresh:=v.fresh }
  nx:=⟨.of_keeps hbase λb o e=>oW e,rfl,rfl⟩
  sub:=λb e=>by clear zz ho rd hne hl hP0 hPL hbase;subst e;exact hXP
  new:=λb hb=>by
   by_cases q:b=P
   ·exact .inl q
   ·exact .inr (lj ⟨hb,q⟩)
  pn0:=λb e=>e
  lt0:=λb e=>by
   clear hXP zz ho rd hne hP0 hPL hbase;subst e;refine ao hl λzz zq=>?_;refine aw zq λn e=>?_;exact⟨_,(gc (λq=>q.2 rfl)).trans e⟩
  base0:=hbase
  lns:=S.lns,frm:=S.frm,efr:=S.efr,lX:=S.lX
  l0:=lj ⟨S.lX,Ne.symm hPL⟩
  cellX:=λy c hy hc=>by
   refine bM (S.cellX y c hy hc) λz0 e4 e5=>?_;refine aW z0 λo w e1 e2 e3=>?_;have hXc:X c:=e5 (by rw[hcp];rfl);have hcP:c≠P:=λq=>by
    refine ao hl λzz zq=>?_;refine aw zq λn e=>?_;rw[← q,e1]at e;clear e1 e3;obtain rfl:=Jd e;exact absurd e2 (by simp[dn])
   exact⟨(bX o w e1 e2 e3),lj ⟨hXc,hcP⟩,e5⟩
  capK:=S.capK,cinj:=S.cinj,nofree:=S.nofree
  own:=(au (λJ=>0) (λy k u hy hgk=>absurd hgk ?_) (λy z k m u w hy hz hgk J=>absurd hgk ?_)) }
 ·by_cases q:y=x
  ·clear hone hneX;subst q;rw[hx]at hy;clear hu;obtain rfl:=Jd hy;refine aU _ rd ?_ hne;rw[fg hj];exact au P rfl rfl
  ·rw[gd (hneX y k hy q)]at hu ⊢;refine aQ (v.vars y k hy hu) λval' rd' sr' hne'=>?_;refine aU val' rd' ?_ hne';induction hgk:aJ k ρ using Slot.casesOn with
   | undef=>trivial
   | val u=>rw[hgk]at sr';exact sr'
   | own u=>exact absurd (hone y k u hy hgk) q
   | aE=>rw[hgk]at sr';refine aj sr' λzz zz q'=>?_;exact q'.elim
 ·by_cases q:y=x
  ·clear hone rd hneX;subst q;rw[hx]at hy;obtain rfl:=Jd hy;rw[fg hj]at hgk;exact(nomatch hgk)
  ·rw[gd (hneX y k hy q)]at hgk;exact absurd (hone y k u hy hgk) q
 ·by_cases q:y=x
  ·clear hone rd hneX;subst q;rw[hx]at hy;clear hgk;obtain rfl:=Jd hy;rw[fg hj];simp
  ·rw[gd (hneX y k hy q)];exactλe=>q (hone y k u hy e)
 ·by_cases q:y=x
  ·clear hone rd hneX;subst q;rw[hx]at hy;clear hgk;obtain rfl:=Jd hy;rw[fg hj];simp
  ·rw[gd (hneX y k hy q)];exactλe=>q (hone y k u hy e)
end
section
variable{cx:Cx}{s:IY}{A:I0}{n:Nat}{call:Call}{Q E:IZ->IY->Prop}
theorem B3{a:I1}{names:List Str}{st:Stmt}{rest:List Stmt}{D:aA}{R:bj}{fO L p':List V}{ρ':Fr}{val:IZ}{x:Str}(hcls:∃q,C.cls=.ref q)(F:nD C a cx names (st::rest))(O:bD cx)(hn:names.length=1)(hx:cx.vars.lookup x=aa 1)(hcp:cx.caps=[])
  (B1:bu C cx st (iK (sets 1) D)) (B2:eA C cx rest R) (hc:dJ C n call) (P:bp C (n+1) (λJ=>False) (λJ=>False) [] A s) (hv:aq C (λJ=>False) s.heap (.lst fO) val)
  (hD:D call (fill [.val (.lst fO)]) []=.ok (.lst L) []) (hR:R call (sets 1 (fill [.val (.lst fO)]) .aE) L=.ret (.bool af) ρ' p')
  (hQ:∀s' X,Base C s'.heap->cX C X s'.heap->s'.gens=s.gens->s'.os=s.os->Q (.bool af) s'):wpAny (model C.prog C.w) A (PySem.call (.ref a) [val]) Q E s:=by
 have ha:eP C (λJ=>False) (λJ=>False) s.heap [.val (.lst fO)] [val]:=bX val ([]) rfl hv rfl;refine wpAny_call (rt F P ha (by simp[hn]) λenv s₁ X1 S k kf hr hA=>?_);refine wpAny_execs_cons ?_;have hso:iK (sets 1) D call (fill [.val (.lst fO)]) []=.next (sets 1 (fill [.val (.lst fO)]) (.own (.lst L))) []:=by
  show(@Res.rec (λJ=>ai) ai.stuck (λv p=>ai.next (sets 1 (fill [.val (.lst fO)]) (.own v)) p) (λe p=>ai.exc e (fill [.val (.lst fO)]) p) (D call (fill [.val (.lst fO)]) []))=_;rw[hD]
 refine B1 n call hc (λJ=>False) (λJ=>False) env s (fill [.val (.lst fO)]) [] s₁ X1 (A.deeper env) _ _ hA S k hr ?_;rw[hso];refine⟨λq=>(nomatch q),λρ2 bg e s₂ fM S2 k₂ kf2=>?_,λJ J q=>(nomatch q),λJ J q=>(nomatch q),λJ J J q=>(nomatch q),λJ J J q=>(nomatch q)⟩;(injection e with h9;subst h9);have hone:∀y k u,cx.vars.lookup y=aa k->aJ k (sets 1 (fill [.val (.lst fO)]) (.own (.lst L)))=.own u->y=x:=λy k u hy hg=>by
  by_cases q:k=1
  ·clear hg;subst q;exact O.inj y x 1 hy hx
  ·rw[gd q]at hg;have:=lY (args:=[.val (.lst fO)]) (j:=k) (by rw[hg];simp);rw[hg]at this
   match k,this with
   | 0,this=>exact(nomatch this)
   | k+1,this=>simp at this
 refine lB (S2.F9 O hx (by decide) (fg (by decide)) hone hcp) λPa br S3 old hgen hos zz=>?_;have e3:sets 1 (sets 1 (fill [.val (.lst fO)]) (.own (.lst L))) .aE=sets 1 (fill [.val (.lst fO)]) .aE:=rfl;rw[e3]at S3;refine B2 n call hc (λb=>b=Pa) (λb=>b=Pa) env br _ L s₂ fM (A.deeper env) _ _ hA S3 k₂ hr ?_;rw[hR];refine⟨λq=>(nomatch q),λJ J q=>(nomatch q),λJ J q=>(nomatch q),λJ J q=>(nomatch q),λv ρ4 sI e eQ X4 S4 k4 kf4 val' hv'=>?_,λJ J J q=>(nomatch q)⟩;(injection e with h9;subst h9);simp only[aq]at hv';subst hv';exact hQ eQ X4 S4.vw.base S4.vw.tab ((S4.nx.gens.trans hgen).trans S2.nx.gens) ((S4.nx.os.trans hos).trans S2.nx.os)
end
end
section
open PySem
noncomputable section
noncomputable def DV(i:Nat):Option aB:=match defs[i]? with|some d=>nR eF eE 142 [] d.2.1 d.2.2.1 d.2.2.2|none=>ae
section
open V Int Fr eN bk
noncomputable def r0:=cK (int (ofNat 0))
noncomputable def r9:=ofNat 1
noncomputable def r1:=cK (int r9)
noncomputable def r2:=aG s0
noncomputable def r3:=aG s1
noncomputable def r4:=cK (tup [str [110,117,109],int (ofNat 0),int r9])
noncomputable def r5:=cK (int (ofNat 2))
noncomputable def r6:=c2 aD r2 r1
noncomputable def r7:=c2 aD r2 r0
noncomputable def r8:=tup [str [110,117,109],int r9,int r9]
noncomputable def bG:=aG s2
noncomputable def ik:=str [112,114,111,100]
noncomputable def bP:=aG s3
noncomputable def dQ:=ba cc r2
noncomputable def q9:=tup [str [110,117,109],int (negSucc 0),int r9]
noncomputable def eD:=ba cc r3
noncomputable def ij:=str [110,117,109]
noncomputable def xp:=cK (str [100,105,118,105,115,105,111,110,32,98,121,32,122,101,114,111])
noncomputable def G2:=cK (bh [str [115,121,109],str [99,97,108,108],str [115,117,109],str [112,114,111,100],str [110,117,109],str [112,111,119],str [101,113],str [108,105,115,116]] [int (ofNat 0),int r9,int (ofNat 2),int (ofNat 3),int (ofNat 4),int (ofNat 5),int (ofNat 6),int (ofNat 7)])
noncomputable def gL:=c2 aD r3 r1
noncomputable def jq:=str [115,117,109]
noncomputable def ig:=c2 aD r3 r0
noncomputable def sG:=ak (dP s2 aO) (ax (aC s2))
noncomputable def i5:=c2 aD r2 r5
noncomputable def pA:=tup [int (ofNat 0),int r9]
noncomputable def gK:=ba gz r1
noncomputable def Hk:aB:=aB.mk 2 (ak (bO [(iJ,false),(a0,false)] [ba j3 r2,ba j3 r3]) (ak (cq (c2 dF r3 r0) (bO [(iJ,false),(a0,false)] [aC s1,aK gA r2 r3])) (ax (aC s0))))
noncomputable def Hj:aB:=aB.mk 1 (ak (aM a0 r0) (ak (cA (one aO) (aC s0) (aM a0 (ah 0 [slot s1,slot s2]))) (ax (aC s1))))
noncomputable def Hi:aB:=aB.mk 2 (ak (aM aO (aC s1)) (ak (cq (c2 sZ (aK bI bG bG) r2) (ak (aR (c2 aS (aK gA r2 bG) r0) (ax (aC s2)) aN) (aM aO (aK (iQ cQ) (aC s2) (bo (c2 aS bG r5) r1 r5))))) (ax (aC s0))))
noncomputable def Hh:aB:=aB.mk 1 (ak (bO [(a0,true),(aO,false)] [aH [],cK (int (ofNat 2))]) (ak (cq (c2 cR r2 r1) (ak (bO [(aO,false),(aX,false)] [ah 2 [slot s0,slot s2],cK (int (ofNat 0))]) (ak (cq (c2 aS (aK gA r2 bG) r0) (bO [(iJ,false),(aX,false)] [aK fw r2 bG,aK bF bP r1])) (ak (ee s1 a0 (aF [aC s2,aC s3])) (aM aO (bo (c2 aS bG r5) (cK (int (ofNat 3))) (aK bF bG r5))))))) (ak (dP s1 a0) (ax (aC s1)))))
noncomputable def Hg:aB:=aB.mk 1 (ak (aM a0 (aH [cK (int r9)])) (ak (cA (two aO aX) (ah 3 [exp (ba j3 r2)]) (aM a0 (cF (bQ (cg (one bz) r3 [] (cg (one bR) (gh gJ (aK bF bP r1)) [] (cu (aK bI (aG s4) (aK lL bG (aG s5)))))))))) (ax (ba iI r3))))
noncomputable def Hf:aB:=aB.mk 2 (ak (aR (c2 aS r3 r0) (dW xp (aK bF (ba lF r2) (cK (str [47,48])))) aN) (ak (aM aO (bo (c2 cR r3 r0) (ah 0 [slot s0,slot s1]) (aK bN r0 (ah 0 [slot s0,slot s1])))) (ax (aF [aK fw r2 bG,aK fw r3 bG]))))
noncomputable def He:aB:=aB.mk 2 (ax (ah 5 [exp (aK bF (aK bI r7 gL) (aK bI ig r6)),exp (aK bI r6 gL)]))
noncomputable def Hd:aB:=aB.mk 2 (ax (ah 5 [exp (aK bI r7 ig),exp (aK bI r6 gL)]))
noncomputable def Hc:aB:=aB.mk 2 (ax (ah 5 [exp (aK bI r7 gL),exp (aK bI r6 ig)]))
noncomputable def F3:aB:=aB.mk 1 (ax (ah 5 [exp r6,exp r7]))
noncomputable def F2:aB:=aB.mk 2 (ak (aR (c2 eH r3 r0) (bO [(iJ,false),(a0,false)] [ah 10 [slot s0],aK bN r0 r3]) aN) (ax (aF [aK lL r7 r3,aK lL r6 r3])))
noncomputable def FZ:aB:=aB.mk 2 (ak (aM aO (aK bN (aK bI r7 gL) (aK bI ig r6))) (ax (aK bN (c2 cR bG r0) (c2 eH bG r0))))
noncomputable def FY:aB:=aB.mk 1 (ax (aK fw r7 r6))
noncomputable def FX:aB:=aB.mk 2 (ak (aM aO (ah 5 [slot s0,slot s1])) (ax (aF [cK ij,c2 aD bG r0,c2 aD bG r1])))
noncomputable def FW:aB:=aB.mk 1 (ak (aR (c2 aS dQ r0) (ax r4) aN) (ax (bo (c2 aS dQ r1) r7 (aF [cK jq,ba fW r2]))))
noncomputable def FV:aB:=aB.mk 1 (ak (aR (c2 aS dQ r0) (ax (cK r8)) aN) (ax (bo (c2 aS dQ r1) r7 (aF [cK ik,ba fW r2]))))
noncomputable def FU:aB:=aB.mk 2 (ax (aF [cK (str [112,111,119]),aC s0,aC s1]))
noncomputable def FT:aB:=aB.mk 1 (ax (aF [cK ik,aF [cK q9,aC s0]]))
noncomputable def FR:aB:=aB.mk 1 (ax (c2 aS r7 (cK ij)))
noncomputable def FQ:aB:=aB.mk 1 (ax (aF [c2 aD r2 r1,c2 aD r2 r5]))
noncomputable def FP:aB:=aB.mk 1 (ax (cC (c2 aS r7 (cK ij)) (c2 aS i5 r1)))
noncomputable def FO:aB:=aB.mk 1 (ak (aM a0 r7) (ak (aR (c2 m5 r3 (aF [cK jq,cK ik,cK (str [108,105,115,116])])) (ax (ba d0 r6)) aN) (ak (aR (c2 m5 r3 (aF [cK (str [112,111,119]),cK (str [101,113])])) (ax (aH [c2 aD r2 r1,c2 aD r2 r5])) aN) (ax (bo (c2 aS r3 (cK (str [99,97,108,108]))) (ba d0 i5) (aH []))))))
noncomputable def FN:aB:=aB.mk 1 (ak (bO [(a0,true),(aO,true)] [aH [aC s0],aH []]) (ak (cq (c2 cR eD r0) (ak (jj [aX] s1 a0) (ak (ee s2 aO (aC s3)) (qp s1 a0 (ba lK (ah 22 [slot s3])))))) sG))
noncomputable def FK:aB:=aB.mk 1 (ax (ba iI (cF (ub (cg (one a0) (ah 23 [slot s0]) [c2 aS ig (cK (str [115,121,109]))] (cu gL)) (bool true)))))
noncomputable def FJ:aB:=aB.mk 2 (ax (c2 m5 r3 (ah 24 [slot s0])))
noncomputable def FI:aB:=aB.mk 2 (ak (aR (c2 aS r2 r3) (ax r0) aN) (ax (bo (c2 eH r2 r3) gK r1)))
noncomputable def FH:aB:=aB.mk 2 (ax (ah 26 [exp (aK bI r7 gL),exp (aK bI ig r6)]))
noncomputable def FG:aB:=aB.mk 1 (ak (aR (c2 dF r7 (cK ik)) (ax (aH [aC s0])) aN) (ax (cF (bQ (cg (one a0) r6 [c1 kJ (ah 19 [slot s1])] (cu (aC s1)))))))
noncomputable def FF:aB:=aB.mk 1 (ax (bo (c2 aS r7 (cK (str [112,111,119]))) (aF [c2 aD r2 r1,c2 aD r2 r5]) (aF [aC s0,cK r8])))
noncomputable def FE:aB:=aB.mk 2 (ak (aR (cC (ah 19 [slot s0]) (ah 19 [slot s1])) (ax (ah 27 [exp (ah 20 [slot s1]),exp (ah 20 [slot s0])])) aN) (ak (aR (c2 dF (ah 19 [slot s0]) (ah 19 [slot s1])) (ax (bo (ah 19 [slot s0]) r1 gK)) aN) (ax (ah 35 [slot s0,slot s1]))))
noncomputable def FD:aB:=aB.mk 2 (ak (aM aO (ah 26 [exp (c2 aD G2 r7),exp (c2 aD G2 ig)])) (ak (aR (c2 dF bG r0) (ax (aC s2)) aN) (ak (aM aX r7) (ak (aR (c2 aS bP (cK ij)) (ax (ah 27 [exp (ah 20 [slot s0]),exp (ah 20 [slot s1])])) aN) (ak (aR (c2 aS bP (cK (str [115,121,109]))) (ax (ah 26 [exp r6,exp gL])) aN) (ak (aR (c2 aS bP (cK (str [99,97,108,108]))) (ak (aM aO (ah 26 [exp r6,exp gL])) (ax (bo (c2 dF bG r0) (aC s2) (ah 31 [exp i5,exp (c2 aD r3 r5)])))) aN) (ak (aR (c2 m5 bP (aF [cK jq,cK ik,cK (str [108,105,115,116])])) (ax (ah 31 [exp r6,exp gL])) aN) (ax (ah 31 [exp (cF (dp r2 (some r1) none)),exp (cF (dp r3 (some r1) none))])))))))))
noncomputable def FC:aB:=aB.mk 2 (ak (gy [aO,aX] (ah 30 [slot s0])) (ak (gy [bz,bR] (ah 30 [slot s1])) (ak (aM dc (ah 33 [slot s2,slot s4])) (ax (bo (c2 dF (aG s6) r0) (aC s6) (ah 32 [slot s3,slot s5]))))))
noncomputable def FA:aB:=aB.mk 2 (ak (aR (cC (ah 19 [slot s0]) (ah 19 [slot s1])) (ax (ah 27 [exp (ah 20 [slot s0]),exp (ah 20 [slot s1])])) aN) (ak (aR (c2 dF (ah 19 [slot s0]) (ah 19 [slot s1])) (ax (bo (ah 19 [slot s0]) r1 gK)) aN) (ak (bO [(aO,false),(aX,false)] [ah 28 [slot s0],ah 28 [slot s1]]) (ak (cA (one bz) (gh gJ (aK wi (ba cc bG) (ba cc bP))) (ak (aM bR (ah 34 [exp (c2 aD bG (aG s4)),exp (c2 aD bP (aG s4))])) (aR (c2 dF (aG s5) r0) (ax (aC s5)) aN))) (ak (aM bR (ah 26 [exp (ba cc bP),exp (ba cc bG)])) (ax (bo (c2 dF (aG s5) r0) (aC s5) (ah 27 [exp (ah 29 [slot s0]),exp (ah 29 [slot s1])]))))))))
noncomputable def Fz:aB:=aB.mk 2 (ak (bO [(aO,true),(aX,false),(bz,false)] [aH [],cK (int (ofNat 0)),cK (int (ofNat 0))]) (ak (cq (je (c2 eH bP dQ) (c2 eH (aG s4) eD)) (ak (aM bR (je (c2 u9 (aG s4) eD) (cC (c2 eH bP dQ) (c2 sZ (ah 35 [exp (c2 aD r2 bP),exp (c2 aD r3 (aG s4))]) r0)))) (aR (aC s5) (ak (ee s2 aO (c2 aD r2 bP)) (aM aX (aK (iQ cQ) (aC s3) r1))) (ak (ee s2 aO (c2 aD r3 (aG s4))) (aM bz (aK (iQ cQ) (aC s4) r1)))))) sG))
noncomputable def Fy:aB:=aB.mk 1 (ak (aR (c2 eH dQ r5) (ax (ba d0 r2)) aN) (ak (aM a0 (aK fw dQ r5)) (ax (ah 36 [exp (ah 37 [exp (cF (dp r2 none (some r3)))]),exp (ah 37 [exp (cF (dp r2 (some r3) none))])]))))
noncomputable def Fx:aB:=aB.mk 1 (ax (aF [cK ij,c2 aD r2 r0,c2 aD r2 r1]))
noncomputable def Fw:aB:=aB.mk 1 (ak (aR (c2 aS r7 (cK ij)) (ax (aF [aF [c2 aD r2 r1,c2 aD r2 r5],cK r8])) aN) (ak (aR (je (c2 dF r7 (cK ik)) (c2 dF (c2 aD (c2 aD r6 r0) r0) (cK ij))) (ax (aF [aF [cK (int r9),cK (int r9)],aC s0])) aN) (ak (aM a0 (bo (c2 aS (ba cc r6) r5) (c2 aD r6 r1) (aF [cK ik,cF (dp r6 (some r1) none)]))) (ax (aF [aF [c2 aD (c2 aD r6 r0) r1,c2 aD (c2 aD r6 r0) r5],aC s1])))))
noncomputable def Fv:aB:=aB.mk 2 (ak (aR (je (c2 aS r7 r0) (c2 aS r3 (cK r8))) (ax (ah 38 [slot s0])) aN) (ak (aR (c2 aS r2 (aF [cK (int r9),cK (int r9)])) (ax (aC s1)) aN) (ax (aF [cK ik,aK bF (aF [ah 38 [slot s0]]) (bo (c2 aS ig (cK ik)) gL (aF [aC s1]))]))))
noncomputable def Fu:aB:=aB.mk 2 (ak (iK aO (aH [])) (ak (cA (one aX) (aC s0) (qp s2 aO (bo (c2 aS (c2 aD bP r0) r3) (ba d0 (c2 aD bP r1)) (aH [aC s3])))) sG))
noncomputable def Ft:aB:=aB.mk 1 (ak (iK a0 (cK (bh [] []))) (ak (cA (one aO) (ah 41 [slot s0,exp (cK jq)]) (ak (gy [aX,bz] (ah 39 [slot s2])) (fq s1 a0 (aG s4) (ah 6 [exp (kO r3 (aC s4) (aF [cK (int (ofNat 0)),cK (int r9)])),slot s3])))) (ak (lJ bR s1 a0 (cK r8) (aF [cK (int (ofNat 0)),cK (int r9)])) (ak (aM dc (cF (bQ (cg (two gx kG) (gh i9 r3) [c2 dF (c2 aD (aG s8) r0) r0] (cu (ah 40 [slot s8,slot s7])))))) (ak (aR (c2 cR (ba cc (cF (bQ (cg (one gx) (aG s6) [c2 aS (c2 aD (aG s7) r0) (cK jq)] (cu (aC s7)))))) r0) (ax (ah 42 [exp (aK bF (aG s6) (aH [ah 38 [slot s5]]))])) aN) (ak (aM dc (aK bF (ah 37 [slot s6]) (bo (c2 dF (c2 aD (aG s5) r0) r0) (aH [ah 38 [slot s5]]) (aH [])))) (ak (aR (c2 aS (ba cc (aG s6)) r0) (ax r4) aN) (ax (bo (c2 aS (ba cc (aG s6)) r1) (c2 aD (aG s6) r0) (aF [cK jq,ba fW (aG s6)]))))))))))
noncomputable def Fs:aB:=aB.mk 1 (ak (aR (c2 aS r7 (cK (str [112,111,119]))) (ax (aF [c2 aD r2 r1,c2 aD r2 r5])) aN) (ak (aR (cC (c2 aS r7 (cK (str [99,97,108,108]))) (c2 aS r6 (cK (str [101,120,112])))) (ax (aF [cK (tup [str [99,97,108,108],str [101,120,112],tup [tup [str [110,117,109],int r9,int r9]]]),c2 aD i5 r0])) aN) (ax (aF [aC s0,cK r8]))))
noncomputable def Fq:aB:=aB.mk 1 (ak (bO [(a0,false),(aO,true)] [aF [cK (int r9),cK (int r9)],cK (bh [] [])]) (ak (cA (one aX) (ah 41 [slot s0,exp (cK ik)]) (aR (c2 aS (c2 aD bP r0) (cK ij)) (aM a0 (ah 7 [slot s1,exp (aF [c2 aD bP r1,c2 aD bP r5])])) (ak (gy [bz,bR] (ah 43 [slot s3])) (fq s2 aO (aG s4) (ah 42 [exp (aH [kO bG (aC s4) r4,aC s5])]))))) (ak (aR (c2 aS ig r0) (ax r4) aN) (ak (bO [(dc,true),(gx,false)] [aH [],cK (bool true)]) (ak (ak (dP s2 aO) (cA (two bz bR) (gh i9 (aC s2)) (ak (aM kG (ah 45 [slot s4,slot s5])) (aR (c2 aS (c2 aD (aG s8) r0) (cK ij)) (aM a0 (ah 7 [slot s1,exp (aF [c2 aD (aG s8) r1,c2 aD (aG s8) r5])])) (ak (aM gx (cC (aC s7) (cC (c2 dF (c2 aD (aG s8) r0) (cK ik)) (c2 aS (c2 aD (ah 43 [slot s8]) r0) (aG s4))))) (ee s6 dc (aC s8))))))) (ak (aR (c1 kJ (aG s7)) (ax (ah 44 [exp (aK bF (aH [ah 38 [slot s1]]) (aG s6))])) aN) (ak (ak (dP s6 dc) (aM dc (ah 37 [slot s6]))) (ak (aR (je (c2 aS (ba cc (aG s6)) r0) (c2 aS ig r0)) (ax (ah 38 [slot s1])) aN) (ax (ah 40 [slot s1,exp (bo (c2 aS (ba cc (aG s6)) r1) (c2 aD (aG s6) r0) (aF [cK ik,ba fW (aG s6)]))]))))))))))
noncomputable def Fp:aB:=aB.mk 2 (ak (aR (c2 aS r3 r4) (ak (aR (c2 aS r2 r4) (dW (cK (str [100,111,109,97,105,110])) (cK (str [48,32,94,32,48]))) aN) (ax (cK r8))) aN) (ak (aR (c2 aS r3 (cK r8)) (ax (aC s0)) aN) (ak (aR (c2 aS r2 (cK (tup [str [99,97,108,108],str [101,120,112],tup [tup [str [110,117,109],int r9,int r9]]]))) (ax (ah 54 [exp (cK (str [101,120,112])),exp (aH [aC s1])])) aN) (ak (aR (c2 aS r7 (cK ij)) (ax (ah 47 [slot s0,slot s1])) aN) (ak (aR (cC (ah 21 [slot s1]) (c2 aS r7 (cK ik))) (ax (ah 44 [exp (cF (bQ (cg (one aO) r6 [] (cu (ah 45 [slot s2,slot s1])))))])) aN) (ak (aR (cC (ah 21 [slot s1]) (c2 aS r7 (cK (str [112,111,119])))) (ax (ah 45 [exp r6,exp (ah 44 [exp (aH [c2 aD r2 r5,aC s1])])])) aN) (ak (aR (cC (ah 21 [slot s1]) (cC (c2 aS r7 (cK (str [99,97,108,108]))) (c2 aS r6 (cK (str [101,120,112]))))) (ax (ah 54 [exp (cK (str [101,120,112])),exp (aH [ah 44 [exp (aH [c2 aD i5 r0,aC s1])]])])) aN) (ak (aR (cC (c2 aS ig (cK ij)) (je (c2 m5 r7 (aF [cK ik,cK (str [112,111,119])])) (cC (c2 aS r7 (cK (str [99,97,108,108]))) (c2 aS r6 (cK (str [101,120,112])))))) (ax (ah 46 [slot s0,slot s1])) aN) (ax (aF [cK (str [112,111,119]),aC s0,aC s1]))))))))))
noncomputable def Fo:aB:=aB.mk 2 (ak (aR (c2 aS r2 (cK r8)) (ax (cK r8)) aN) (ak (aR (c2 dF ig (cK ij)) (ax (aF [cK (str [112,111,119]),aC s0,aC s1])) aN) (ak (aR (c2 aS r2 r4) (ak (aR (c2 eH gL r0) (dW xp (cK (str [48,32,116,111,32,97,32,112,111,119,101,114,32,98,101,108,111,119,32,48]))) aN) (ax r4)) aN) (ak (aR (c2 aS (c2 aD r3 r5) r1) (ax (ah 38 [exp (ah 11 [exp (aF [c2 aD r2 r1,c2 aD r2 r5]),exp gL])])) aN) (ak (aR (je (c2 eH r6 r0) (c2 cR (aK kg r6 i5) (cK (int (ofNat 1000000))))) (ax (ah 46 [slot s0,slot s1])) aN) (ax (ah 48 [slot s0,slot s1])))))))
noncomputable def Fn:aB:=aB.mk 2 (ak (bO [(aO,false),(aX,true)] [aF [cK (int r9),cK (int r9)],aH []]) (ak (cA (two bz bR) (aF [aF [c2 aD r2 r1,cK (int r9)],aF [c2 aD r2 r5,ba gz r1]]) (cA (two dc gx) (ah 3 [slot s4]) (ak (aM kG (ah 5 [exp (aK bI (aK bI (aG s5) (aG s7)) gL),exp (c2 aD r3 r5)])) (ak (aM qn (ah 13 [slot s8])) (ak (aM aO (ah 7 [slot s2,exp (ah 11 [exp (aF [aC s6,cK (int r9)]),slot s9])])) (ak (aM rO (ah 6 [slot s8,exp (aF [ba gz (aG s9),cK (int r9)])])) (aR (c2 dF (c2 aD (aG s10) r0) r0) (ee s3 aX (aF [cK (str [112,111,119]),aF [cK ij,aC s6,cK (int r9)],ah 38 [slot s10]])) aN))))))) (ak (ak (dP s3 aX) (aM aX (ah 37 [slot s3]))) (ak (aR (c2 aS (ba cc bP) r0) (ax (ah 38 [slot s2])) aN) (ax (ah 40 [slot s2,exp (bo (c2 aS (ba cc bP) r1) (c2 aD bP r0) (aF [cK ik,ba fW bP]))]))))))
noncomputable def Fm:aB:=aB.mk 1 (ak (aM a0 (bo (c2 aS r7 (cK jq)) (c2 aD r6 r0) (aC s0))) (ax (c2 eH (c2 aD (c2 aD (ah 39 [slot s1]) r0) r0) r0)))
noncomputable def Fl:aB:=aB.mk 2 (ak (aR (c2 dF eD r1) (ax (aF [cK (str [99,97,108,108]),aC s0,ba fW r3])) aN) (ak (aM aO ig) (ak (aR (c2 aS r2 (cK (str [101,120,112]))) (ax (ah 51 [slot s2])) aN) (ak (aR (c2 aS r2 (cK (str [108,111,103]))) (ax (ah 52 [slot s2])) aN) (ak (aR (c2 aS r2 (cK (str [115,113,114,116]))) (ax (ah 45 [slot s2,exp (cK (tup [str [110,117,109],int r9,int (ofNat 2)]))])) aN) (ak (aR (c2 aS r2 (cK (str [102,97,99,116,111,114,105,97,108]))) (ax (ah 53 [slot s2])) aN) (ak (aR (cC (c2 aS r2 (cK (str [97,98,115]))) (c2 aS (c2 aD bG r0) (cK ij))) (ax (aF [cK ij,ba j3 (c2 aD bG r1),c2 aD bG r5])) aN) (ak (aR (cC (c2 m5 r2 (cK (tup [str [115,105,110],str [116,97,110],str [97,116,97,110]]))) (c2 aS bG r4)) (ax r4) aN) (ak (aR (cC (c2 aS r2 (cK (str [99,111,115]))) (c2 aS bG r4)) (ax (cK r8)) aN) (ak (aR (cC (c2 m5 r2 (cK (tup [str [115,105,110],str [116,97,110],str [97,116,97,110]]))) (ah 49 [slot s2])) (ax (ah 44 [exp (aH [cK q9,ah 54 [slot s0,exp (aH [ah 50 [slot s2]])]])])) aN) (ak (aR (cC (c2 m5 r2 (aF [cK (str [99,111,115]),cK (str [97,98,115])])) (ah 49 [slot s2])) (ax (ah 54 [slot s0,exp (aH [ah 50 [slot s2]])])) aN) (ax (aF [cK (str [99,97,108,108]),aC s0,aF [aC s2]])))))))))))))
noncomputable def Fj:aB:=aB.mk 1 (ak (aM a0 r7) (ak (aR (c2 aS r3 (cK ij)) (ax (ah 38 [exp (ah 5 [exp r6,exp i5])])) aN) (ak (aR (c2 aS r3 (cK (str [115,121,109]))) (ax (aC s0)) aN) (ak (aR (c2 aS r3 (cK (str [112,111,119]))) (ax (ah 45 [exp (ah 55 [exp r6]),exp (ah 55 [exp i5])])) aN) (ak (aR (c2 aS r3 (cK (str [99,97,108,108]))) (ax (ah 54 [exp r6,exp (cF (bQ (cg (one aX) i5 [] (cu (ah 55 [slot s3])))))])) aN) (ak (aR (c2 aS r3 (cK (str [101,113]))) (ax (aF [cK (str [101,113]),ah 55 [exp r6],ah 55 [exp i5]])) aN) (ak (aM aO (cF (bQ (cg (one aX) r6 [] (cu (ah 55 [slot s3])))))) (ak (aR (c2 aS r3 (cK jq)) (ax (ah 42 [slot s2])) aN) (ax (bo (c2 aS r3 (cK ik)) (ah 44 [slot s2]) (aF [cK (str [108,105,115,116]),ba fW bG])))))))))))
noncomputable def Fi:aB:=aB.mk 1 (ax (bo (c2 aS r7 (cK jq)) (ba d0 r6) (aH [aC s0])))
noncomputable def Fh:aB:=aB.mk 2 (ak (aR (cC (c2 dF r7 (cK jq)) (c2 dF ig (cK jq))) (ax (ah 44 [exp (aH [aC s0,aC s1])])) aN) (ax (ah 42 [exp (cF (bQ (cg (one aO) (ah 56 [slot s0]) [] (cg (one aX) (ah 56 [slot s1]) [] (cu (ah 57 [slot s2,slot s3]))))))])))
noncomputable def Fg:aB:=aB.mk 1 (ak (aM a0 (cK r8)) (ak (cA (one aO) (aC s0) (aM a0 (ah 57 [slot s1,slot s2]))) (ax (aC s1))))
noncomputable def Ff:aB:=aB.mk 2 (ak (aR (je (c1 kJ (ah 21 [slot s1])) (c2 dF r7 (cK jq))) (ax (ah 45 [slot s0,slot s1])) aN) (ak (aR (c2 cR gL r0) (ax (ah 59 [slot s0,exp gL])) aN) (ax (ah 45 [exp (ah 59 [slot s0,exp (ba gz gL)]),exp (cK q9)]))))
noncomputable def Fe:aB:=aB.mk 1 (ak (aM a0 r7) (ak (aR (c2 m5 r3 (aF [cK ij,cK (str [115,121,109])])) (ax (aC s0)) aN) (ak (aR (c2 aS r3 (cK jq)) (ax (ah 42 [exp (cF (bQ (cg (one aO) r6 [] (cu (ah 61 [slot s2])))))])) aN) (ak (aR (c2 aS r3 (cK ik)) (ax (ah 58 [exp (cF (bQ (cg (one aO) r6 [] (cu (ah 61 [slot s2])))))])) aN) (ak (aR (c2 aS r3 (cK (str [112,111,119]))) (ax (ah 60 [exp (ah 61 [exp r6]),exp (ah 61 [exp i5])])) aN) (ak (aR (c2 aS r3 (cK (str [99,97,108,108]))) (ax (ah 54 [exp r6,exp (cF (bQ (cg (one aO) i5 [] (cu (ah 61 [slot s2])))))])) aN) (ak (aR (c2 aS r3 (cK (str [101,113]))) (ax (aF [cK (str [101,113]),ah 61 [exp r6],ah 61 [exp i5]])) aN) (ax (aF [cK (str [108,105,115,116]),ba fW (cF (bQ (cg (one aO) r6 [] (cu (ah 61 [slot s2])))))])))))))))
noncomputable def Fd:aB:=aB.mk 1 (ak (bO [(a0,false),(aO,false)] [cK none,ah 55 [slot s0]]) (ak (cq (c2 dF bG r3) (bO [(a0,false),(aO,false)] [aC s2,ah 61 [slot s2]])) (ax (aC s2))))
noncomputable def Fc:aB:=aB.mk 1 (ak (aM a0 dQ) (ak (cq (cC (c2 cR r3 r0) (c2 aS (c2 aD r2 (aK bN r3 r1)) r0)) (aM a0 (aK (iQ eR) (aC s1) r1))) (ax (ba d0 (cF (dp r2 none (some r3)))))))
noncomputable def Fb:aB:=aB.mk 1 (ax (aK bN dQ r1))
noncomputable def E9:aB:=aB.mk 1 (ax (bo (c2 cR dQ r0) (c2 aD r2 gK) r0))
noncomputable def E8:aB:=aB.mk 2 (ak (aM aO (aK kg dQ eD)) (ax (ah 63 [exp (cF (bQ (cg (one aX) (gh gJ bG) [] (cu (aK bF (bo (c2 eH bP dQ) (c2 aD r2 bP) r0) (bo (c2 eH bP eD) (c2 aD r3 bP) r0))))))])))
noncomputable def E7:aB:=aB.mk 1 (ax (cF (bQ (cg (one a0) r2 [] (cu (ba gz r3))))))
noncomputable def E6:aB:=aB.mk 2 (ax (ah 66 [slot s0,exp (ah 67 [slot s1])]))
noncomputable def E5:aB:=aB.mk 2 (ax (bo (c2 dF r3 r0) (cF (bQ (cg (one aO) r2 [] (cu (aK bI bG r3))))) (aH [])))
noncomputable def E4:aB:=aB.mk 2 (ax (bo (c2 cR dQ r0) (aK bF (aK bI (aH [cK (int (ofNat 0))]) r3) (ba d0 r2)) (aH [])))
noncomputable def E3:aB:=aB.mk 1 (ax (ah 1 [slot s0]))
noncomputable def E2:aB:=aB.mk 2 (ax (cF (bQ (cg (one aO) r2 [] (cu (aK fw bG r3))))))
noncomputable def E0:aB:=aB.mk 1 (ak (aR (c2 aS dQ r0) (ax (aH [])) aN) (ak (aM a0 (ah 71 [slot s0])) (ax (ah 72 [slot s0,exp (bo (c2 cR (c2 aD r2 gK) r0) (aC s1) (ba gz r3))]))))
noncomputable def EZ:aB:=aB.mk 1 (ax (cF (dp (cF (bQ (cg (two a0 aO) (gh kn r2) [] (cu (aK bI bG r3))))) (some r1) none)))
noncomputable def EY:aB:=aB.mk 1 (ak (aM a0 dQ) (ak (cq (cC (c2 cR r3 r0) (c2 aS (c2 aD (c2 aD r2 (aK bN r3 r1)) r0) r0)) (aM a0 (aK (iQ eR) (aC s1) r1))) (ax (ba d0 (cF (dp r2 none (some r3)))))))
noncomputable def EX:aB:=aB.mk 1 (ax (aK bN dQ r1))
noncomputable def EW:aB:=aB.mk 1 (ax (bo (c2 cR dQ r0) (c2 aD r2 gK) (cK pA)))
noncomputable def EV:aB:=aB.mk 2 (ak (aM aO (aK kg dQ eD)) (ax (ah 75 [exp (cF (bQ (cg (one aX) (gh gJ bG) [] (cu (ah 6 [exp (bo (c2 eH bP dQ) (c2 aD r2 bP) (cK pA)),exp (bo (c2 eH bP eD) (c2 aD r3 bP) (cK pA))])))))])))
noncomputable def EU:aB:=aB.mk 1 (ax (cF (bQ (cg (one a0) r2 [] (cu (ah 9 [slot s1]))))))
noncomputable def ET:aB:=aB.mk 2 (ax (ah 78 [slot s0,exp (ah 79 [slot s1])]))
noncomputable def ES:aB:=aB.mk 2 (ax (bo (c2 dF ig r0) (cF (bQ (cg (one aO) r2 [] (cu (ah 7 [slot s2,slot s1]))))) (aH [])))
noncomputable def ER:aB:=aB.mk 2 (ax (bo (c2 cR dQ r0) (aK bF (aK bI (aH [cK pA]) r3) (ba d0 r2)) (aH [])))
noncomputable def EP:aB:=aB.mk 2 (ak (aR (je (c2 aS dQ r0) (c2 aS eD r0)) (ax (aH [])) aN) (ak (iK aO (aK bI (aH [cK pA]) (aK bN (aK bF dQ eD) r1))) (ak (cA (two aX bz) (gh kn (aC s0)) (cA (two bR dc) (gh kn (aC s1)) (fq s2 aO (aK bF bP (aG s5)) (ah 6 [exp (c2 aD bG (aK bF bP (aG s5))),exp (ah 7 [slot s4,slot s6])])))) sG)))
noncomputable def EO:aB:=aB.mk 2 (ak (aR (c2 aS eD r0) (dW xp (cK (str [97,32,112,111,108,121,110,111,109,105,97,108,32,105,115,32,100,105,118,105,100,101,100,32,98,121,32,48]))) aN) (ak (bO [(aO,false),(aX,true)] [ba d0 r2,aK bI (aH [cK pA]) (aK kg r0 (aK bF (aK bN dQ eD) r1))]) (ak (cq (c2 u9 (ba cc bG) eD) (ak (bO [(bz,false),(bR,false)] [ah 8 [exp (c2 aD bG gK),exp (c2 aD r3 gK)],aK bN (ba cc bG) eD]) (ak (fq s3 aX (aG s5) (aC s4)) (ak (aM dc (ah 80 [exp (cF (dp bG none (some gK))),exp (ah 82 [exp (ah 81 [exp (cF (dp r3 none (some gK))),slot s4]),slot s5])])) (aM aO (aC s6)))))) (ak (dP s3 aX) (ax (aF [ah 75 [slot s3],aC s2]))))))
noncomputable def EN:aB:=aB.mk 1 (ax (bo (c2 cR dQ r0) (ah 81 [slot s0,exp (ah 10 [exp (c2 aD r2 gK)])]) (aH [])))
noncomputable def EM:aB:=aB.mk 2 (ak (cq (c2 cR eD r0) (bO [(iJ,false),(a0,false)] [aC s1,ah 85 [exp (c2 aD (ah 84 [slot s0,slot s1]) r1)]])) (ax (ah 85 [slot s0])))
noncomputable def EL:aB:=aB.mk 1 (ak (aR (c2 aS dQ r0) (ax (aF [aH [],cK pA])) aN) (ak (aM a0 r1) (ak (cA (one aO) (aC s0) (aM a0 (aK bI (aK fw r3 (ah 0 [slot s1,exp (c2 aD bG r1)])) (c2 aD bG r1)))) (ak (aM aX (cF (bQ (cg (one bR) r2 [] (cu (aK bI (c2 aD (aG s5) r0) (aK fw r3 (c2 aD (aG s5) r1)))))))) (ak (aM bz (ah 71 [slot s3])) (ax (aF [ah 73 [slot s3],ah 5 [exp (bo (c2 cR (c2 aD bP gK) r0) (aC s4) (ba gz (aG s4))),slot s1]])))))))
noncomputable def EK:aB:=aB.mk 2 (ak (aR (c2 aS r3 (aH [])) (dW xp (cK (str [97,32,114,97,116,105,111,110,97,108,32,116,101,114,109,32,119,105,116,104,111,117,116,32,97,32,98,111,116,116,111,109]))) aN) (ak (aR (c2 aS r2 (aH [])) (ax (cK (tup [lst [],lst [tup [int r9,int r9]]]))) aN) (ak (aM aO (ah 86 [slot s0,slot s1])) (ak (aR (c2 cR (ah 76 [slot s2]) r0) (bO [(iJ,false),(a0,false)] [c2 aD (ah 84 [slot s0,slot s2]) r0,c2 aD (ah 84 [slot s1,slot s2]) r0]) aN) (ak (aM aX (ah 10 [exp (ah 77 [slot s1])])) (ax (aF [ah 81 [slot s0,slot s3],ah 81 [slot s1,slot s3]])))))))
noncomputable def EJ:aB:=aB.mk 1 (ax (aF [bo (c2 aS r2 (cK pA)) (aH []) (aH [aC s0]),aH [cK (tup [int r9,int r9])]]))
noncomputable def EI:aB:=aB.mk 2 (ax (ah 88 [exp (ah 78 [exp (ah 83 [exp r7,exp gL]),exp (ah 83 [exp ig,exp r6])]),exp (ah 83 [exp r6,exp gL])]))
noncomputable def EH:aB:=aB.mk 2 (ax (ah 88 [exp (ah 83 [exp r7,exp ig]),exp (ah 83 [exp r6,exp gL])]))
noncomputable def EG:aB:=aB.mk 2 (ak (bO [(aO,false),(aX,false),(bz,false)] [cK (tup [lst [tup [int r9,int r9]],lst [tup [int r9,int r9]]]),bo (c2 eH r3 r0) (ah 92 [slot s0]) (aC s0),ba j3 r3]) (ak (cq (c2 cR (aG s4) r0) (ak (aR (c2 aS (aK gA (aG s4) r5) r1) (aM aO (ah 91 [slot s2,slot s3])) aN) (bO [(aX,false),(bz,false)] [bo (c2 cR (aG s4) r1) (ah 91 [slot s3,slot s3]) (aC s3),aK fw (aG s4) r5]))) (ax (aC s2))))
noncomputable def EF:aB:=aB.mk 1 (ax (bo (cC (c2 aS r7 (cK ij)) (c2 aS i5 r1)) r6 (cK none)))
noncomputable def EE:aB:=aB.mk 2 (ak (aR (c2 aS r7 (cK ij)) (ax (ah 89 [exp (ah 5 [exp r6,exp i5])])) aN) (ak (aR (c2 aS r7 (cK (str [115,121,109]))) (ax (bo (c2 aS r6 r3) (aF [aH [cK pA,cK (tup [int r9,int r9])],aH [cK (tup [int r9,int r9])]]) (cK none))) aN) (ak (aR (c2 aS r7 (cK (str [112,111,119]))) (ak (bO [(aO,false),(aX,false)] [ah 95 [exp r6,slot s1],ah 94 [exp i5]]) (ax (bo (je (c2 og bG (cK none)) (je (c2 og bP (cK none)) (cC (c2 eH bP r0) (c2 aS (c2 aD bG r0) (aH []))))) (cK none) (ah 93 [slot s2,slot s3])))) aN) (ak (aR (cC (c2 dF r7 (cK jq)) (c2 dF r7 (cK ik))) (ax (cK none)) aN) (ak (aM bz (bo (c2 aS r7 (cK jq)) (cK (tup [lst [],lst [tup [int r9,int r9]]])) (cK (tup [lst [tup [int r9,int r9]],lst [tup [int r9,int r9]]])))) (ak (cA (one bR) r6 (ak (aM dc (ah 95 [slot s5,slot s1])) (ak (aR (c2 og (aG s6) (cK none)) (ax (cK none)) aN) (aM bz (bo (c2 aS r7 (cK jq)) (ah 90 [slot s4,slot s6]) (ah 91 [slot s4,slot s6])))))) (ax (aC s4))))))))
noncomputable def ED:aB:=aB.mk 1 (aR (c2 aS dQ r0) (dW xp (cK (str [97,32,112,111,108,121,110,111,109,105,97,108,32,105,115,32,100,105,118,105,100,101,100,32,98,121,32,48]))) aN)
noncomputable def EC:aB:=aB.mk 2 (ak (v7 (ah 96 [slot s1])) (ak (bO [(aO,false),(aX,true)] [ba d0 r2,aK bI (aH [cK (int (ofNat 0))]) (aK kg r0 (aK bF (aK bN dQ eD) r1))]) (ak (cq (c2 u9 (ba cc bG) eD) (ak (aR (c2 dF (aK gA (c2 aD bG gK) (c2 aD r3 gK)) r0) (ax (cK none)) aN) (ak (bO [(bz,false),(bR,false)] [aK fw (c2 aD bG gK) (c2 aD r3 gK),aK bN (ba cc bG) eD]) (ak (fq s3 aX (aG s5) (aC s4)) (aM aO (ah 68 [slot s2,exp (ah 70 [exp (ah 69 [slot s1,slot s4]),slot s5])])))))) (ak (dP s3 aX) (ax (bo (c2 aS (ba cc bG) r0) (ah 63 [slot s3]) (cK none)))))))
noncomputable def EB:aB:=aB.mk 2 (ak (v7 (ah 96 [slot s1])) (ak (aM aO (aK kg r0 (aK bF (aK bN dQ eD) r1))) (ak (bO [(aX,false),(bz,false),(bR,false),(dc,false)] [ba d0 r2,aH [],aC s2,ah 65 [slot s1]]) (ak (cq (c2 u9 (ba cc bP) eD) (ak (bO [(gx,false),(kG,false)] [c2 aD bP gK,aK bN (ba cc bP) eD]) (ak (aM bz (ah 68 [exp (ah 69 [slot s4,slot s6]),exp (ah 70 [exp (aH [ba gz (aG s7)]),slot s8])])) (ak (aM aX (ah 68 [exp (ah 69 [slot s3,slot s6]),exp (ah 70 [exp (ah 69 [slot s1,slot s7]),slot s8])])) (aM bR (aK (iQ eR) (aC s5) r1)))))) (ak (aM qn (aK lL (aG s6) (aG s5))) (ax (aF [ah 69 [slot s4,slot s9],ah 69 [slot s3,slot s9],aC s2])))))))
noncomputable def EA:aB:=aB.mk 2 (ax (c2 aD (ah 98 [slot s0,slot s1]) r1))
noncomputable def Bb:aB:=aB.mk 3 (ak (aR (c2 aS r3 r0) (ax (aC s2)) aN) (ax (aK fw (aK lL r2 r3) (aK lL bG (aK bN r3 r1)))))
noncomputable def Ba:aB:=aB.mk 2 (ak (aR (c2 eH dQ eD) (bO [(iJ,false),(a0,false)] [aC s1,aC s0]) aN) (ak (bO [(aO,true),(aX,false),(bz,false)] [aH [ba d0 r2,ba d0 r3],cK (int r9),cK (int r9)]) (ak (cq (c2 cR eD r1) (ak (aM bR (aK bN dQ eD)) (ak (aM dc (ah 99 [slot s0,slot s1])) (ak (aR (c2 aS (ba cc (aG s6)) r0) sG aN) (ak (bO [(iJ,false),(a0,false)] [aC s1,ah 72 [slot s6,exp (aK bI bP (aK lL (aG s4) (aG s5)))]]) (ak (ee s2 aO (aC s1)) (ak (aM aX (ah 65 [slot s0])) (aM bz (ah 100 [slot s3,slot s5,slot s4]))))))))) sG)))
noncomputable def A9:aB:=aB.mk 2 (ak (aR (je (c2 aS dQ r0) (c2 aS eD r0)) (ak (aM aO (bo (c2 aS dQ r0) (aC s1) (aC s0))) (ax (ah 69 [exp (ah 73 [slot s2]),exp (ah 71 [slot s2])]))) aN) (ak (aM aX (ah 0 [exp (ah 71 [slot s0]),exp (ah 71 [slot s1])])) (ak (aM bz (c2 aD (ah 101 [exp (ah 73 [slot s0]),exp (ah 73 [slot s1])]) gK)) (ax (bo (c2 cR (ba cc (aG s4)) r1) (ah 69 [exp (ah 73 [slot s4]),slot s3]) (aH [aC s3]))))))
noncomputable def A8:aB:=aB.mk 1 (ax (aK bN (c2 cR r2 r0) (c2 eH r2 r0)))
noncomputable def A7:aB:=aB.mk 2 (ak (gy [aO,aX] (aC s1)) (ak (bO [(bz,false),(bR,false)] [cK (int (ofNat 0)),cK (int r9)]) (ak (cA (one dc) (ba lK (aC s0)) (ak (aM bz (aK bF (aK bI (aG s4) bG) (aK bI (aG s6) (aG s5)))) (aM bR (aK bI (aG s5) bP)))) (ax (ah 103 [slot s4])))))
noncomputable def A6:aB:=aB.mk 2 (ax (bo (c1 gQ r3) (ah 105 [slot s0,slot s1]) (ah 104 [slot s0,slot s1])))
noncomputable def A5:aB:=aB.mk 1 (ak (aM a0 (ah 102 [slot s0,exp (ah 74 [slot s0])])) (ax (bo (c2 cR (ah 64 [slot s1]) r0) (ah 97 [slot s0,slot s1]) (aC s0))))
noncomputable def A4:aB:=aB.mk 1 (ak (aM a0 (ah 71 [slot s0])) (ax (bo (c2 cR r3 r1) (cF (bQ (cg (one aO) r2 [] (cu (aK fw bG r3))))) (aC s0))))
noncomputable def A3:aB:=aB.mk 2 (ak (gy [aO,aX,bz] (ah 98 [slot s0,slot s1])) (ak (aR (cC (c2 aS (aK gA (aG s4) r5) r1) (c2 eH (ah 65 [slot s1]) r0)) (ax (ah 108 [slot s3])) aN) (ax (ah 108 [exp (ah 67 [slot s3])]))))
noncomputable def A2:aB:=aB.mk 1 (ak (bO [(a0,true),(aO,false)] [aH [aC s0],ah 74 [slot s0]]) (ak (cq (c2 dF bG (aH [])) (ak (ee s1 a0 (aC s2)) (aM aO (ah 109 [exp (c2 aD r3 (ba gz r5)),exp (c2 aD r3 gK)])))) (ak (dP s1 a0) (ax (aC s1)))))
noncomputable def A0:aB:=aB.mk 2 (ak (aM aO (cF (bQ (cg (one aX) r2 [] (cu (ah 106 [slot s3,slot s1])))))) (ak (aM aO (cF (bQ (cg (one aX) bG [c2 dF bP r0] (cu (aC s3)))))) (ax (ba cc (cF (bQ (cg (one aX) (aK fF r1 (ba cc bG)) [c2 dF (c2 aD bG bP) (c2 aD bG (aK bN bP r1))] (cu r1))))))))
noncomputable def AZ:aB:=aB.mk 3 (ax (aK bN (ah 111 [slot s0,slot s1]) (ah 111 [slot s0,slot s2])))
noncomputable def AY:aB:=aB.mk 1 (ak (aM a0 (ba qz (cF (bQ (cg (one aO) r2 [] (cu (ba j3 bG))))))) (ax (aK bF r5 (aK fw r3 (ba j3 (ah 65 [slot s0]))))))
noncomputable def AX:aB:=aB.mk 2 (ax (ah 7 [exp (ah 6 [slot s0,slot s1]),exp (cK (tup [int r9,int (ofNat 2)]))]))
noncomputable def AW:aB:=aB.mk 1 (ax (aH [ba gz r7,c2 aD r2 r1]))
noncomputable def AV:aB:=aB.mk 1 (ak (bO [(a0,false),(aO,false)] [ah 110 [slot s0],ah 113 [slot s0]]) (ak (bO [(aX,true),(bz,true)] [aH [aF [aF [ba gz bG,cK (int r9)],aF [aC s2,cK (int r9)]]],aH []]) (ak (cq (c2 dF bP (aH [])) (ak (jj [bR,dc] s3 aX) (ak (aM gx (ah 112 [slot s1,slot s5,slot s6])) (aR (c2 aS (aG s7) r1) (ee s4 bz (aF [aC s5,aC s6])) (aR (c2 cR (aG s7) r1) (ak (aM kG (ah 114 [slot s5,slot s6])) (ak (aR (c2 aS (ah 104 [slot s0,slot s8]) r0) (ax (aF [aH [],aC s8])) aN) (ak (ee s3 aX (aF [aC s8,aC s6])) (ee s3 aX (aF [aC s5,aC s8]))))) aN))))) (ak (dP s4 bz) (ax (aF [aC s4,cK none]))))))
noncomputable def AU:aB:=aB.mk 1 (ak (aR (c2 aS r2 (aH [])) (dW (cK (str [100,111,109,97,105,110])) (cK (str [101,97,99,104,32,110,117,109,98,101,114,32,105,115,32,97,32,114,111,111,116,32,111,102,32,48]))) aN) (ak (bO [(a0,false),(aO,true)] [ah 107 [slot s0],aH []]) (ak (gy [aX,bz] (bo (c2 cR (ah 64 [slot s1]) r0) (ah 117 [slot s1]) (aF [aH [],cK none]))) (ak (cq (c2 rS (aG s4) (cK none)) (ak (ee s2 aO (aC s4)) (ak (aM a0 (ah 97 [slot s1,exp (ah 115 [slot s4])])) (gy [aX,bz] (bo (c2 cR (ah 64 [slot s1]) r0) (ah 117 [slot s1]) (aF [aH [],cK none])))))) (ak (ak (dP s2 aO) (aM bR (aK bF (cF (bQ (cg (one dc) bG [] (cu (aF [aC s6,aC s6]))))) (cF (gg [s2] (bQ (cg (one dc) bP [] (cu (ah 119 [slot s1,slot s6,slot s2]))))))))) (ax (ah 120 [slot s5])))))))
noncomputable def AS:aB:=aB.mk 3 (ak (cq (cC (c2 dF ig gL) (ba anyF (cF (bQ (cg (one aX) bG [] (cu (ah 116 [slot s3,slot s1]))))))) (aM a0 (ah 121 [slot s0,slot s1]))) (ax (aC s1)))
noncomputable def AR:aB:=aB.mk 1 (ak (iK a0 (aH [])) (ak (cA (one aO) (aC s0) (ak (aM aX r0) (ak (cq (cC (c2 eH bP eD) (c2 eH (ah 12 [exp (c2 aD (c2 aD r3 bP) r1),exp (c2 aD bG r1)]) r0)) (aM aX (aK (iQ cQ) (aC s3) r1))) (sA s1 a0 bP (aC s2))))) (ak (dP s1 a0) (ax (aC s1)))))
noncomputable def AQ:aB:=aB.mk 1 (ak (bO [(a0,false),(aO,true)] [aC s0,aH []]) (ak (cq (cC (c2 cR eD r0) (c2 aS ig r0)) (aM a0 (cF (dp r3 (some r1) none)))) (ak (aR (c2 eH eD dQ) (ee s2 aO (aF [aF [cK (int (ofNat 0)),cK (int r9)],aK bN dQ eD])) aN) (ak (cA (one aX) (ah 123 [slot s1]) (ak (aM bz r0) (ak (cq (cC (c2 cR (ah 64 [slot s1]) r0) (c2 aS (ah 104 [slot s1,slot s3]) r0)) (ak (aM a0 (ah 97 [slot s1,exp (ah 115 [slot s3])])) (aM bz (aK (iQ cQ) (aC s4) r1)))) (aR (c2 cR (aG s4) r0) (ee s2 aO (aF [aC s3,aC s4])) aN)))) (ak (dP s2 aO) (ax (ah 124 [slot s2])))))))
noncomputable def AO:aB:=aB.mk 1 (ak (aR (c2 eH (ah 64 [slot s0]) r1) (ax (aH [])) aN) (ak (bO [(a0,true),(aO,true)] [cK (bh [] []),aH []]) (ak (cA (one aX) (ah 4 [exp (ba j3 r7)]) (cA (one bz) (ah 4 [exp (ba j3 (c2 aD r2 gK))]) (cA (one bR) (aF [ah 5 [slot s3,slot s4],ah 5 [exp (ba gz bP),slot s4]]) (aR (c2 yQ (aG s5) r3) (ak (fq s1 a0 (aG s5) (cK (bool true))) (ee s2 aO (aC s5))) aN)))) sG)))
noncomputable def AN:aB:=aB.mk 1 (ak (iK a0 (aH [])) (ak (cA (one aO) (aC s0) (ak (aM aX r0) (ak (cq (cC (c2 eH bP eD) (c2 eH (ah 12 [exp (c2 aD (c2 aD r3 bP) r0),exp (c2 aD bG r0)]) r0)) (aM aX (aK (iQ cQ) (aC s3) r1))) (sA s1 a0 bP (aC s2))))) (ak (dP s1 a0) (ax (aC s1)))))
noncomputable def AM:aB:=aB.mk 2 (ak (bO [(aO,false),(aX,true)] [cK (int (ofNat 0)),aH []]) (ak (cA (one bz) (bo (c2 aS r7 (cK ik)) r6 (aF [aC s0])) (ak (aR (c1 kJ (ah 25 [slot s4,slot s1])) (ak (ee s3 aX (aC s4)) v8) aN) (ak (gy [bR,dc] (ah 43 [slot s4])) (ak (aR (je (c2 dF (aG s5) (aF [cK (str [115,121,109]),aC s1])) (je (c1 kJ (ah 21 [slot s6])) (c2 eH (c2 aD (aG s6) r1) r0))) (ax (cK none)) aN) (aM aO (aK (iQ cQ) (aC s2) (c2 aD (aG s6) r1))))))) (ak (dP s3 aX) (ax (aF [aC s2,bo (c2 cR (ba cc bP) r0) (ah 44 [slot s3]) (cK r8)])))))
noncomputable def AL:aB:=aB.mk 2 (ak (iK aO (cK (bh [] []))) (ak (cA (one aX) (ah 56 [exp (ah 62 [slot s0])]) (ak (aM bz (ah 125 [slot s3,slot s1])) (ak (aR (c2 og (aG s4) (cK none)) (ax (cK none)) aN) (fq s2 aO (c2 aD (aG s4) r0) (ah 42 [exp (aH [kO bG (c2 aD (aG s4) r0) r4,c2 aD (aG s4) r1])]))))) (ak (dP s2 aO) (ax (cF (gg [s2] (bQ (cg (one bR) (ba iI bG) [c2 dF (c2 aD bG (aG s5)) r4] (cu (aF [aC s5,c2 aD bG (aG s5)]))))))))))
noncomputable def AK:aB:=aB.mk 1 (ax (bo (c2 aS r7 (cK (str [101,113]))) (ah 55 [exp (ah 15 [exp (aH [c2 aD r2 r1,ah 18 [exp i5]])])]) (ah 55 [slot s0])))
noncomputable def AJ:aB:=aB.mk 3 (ak (aM aX (ah 62 [exp (ah 15 [exp (aH [ah 16 [exp (aH [aC s1,aC s1])],ah 16 [exp (aH [ah 14 [exp (ba gz (cK (int (ofNat 4)))),exp r1],aC s0,aC s2])]])])])) (ak (aR (c2 aS bP r4) (ax (aH [ah 62 [exp (ah 16 [exp (aH [cK q9,aC s1,ah 17 [exp (ah 16 [exp (aH [ah 14 [exp r5,exp r1],aC s0])]),exp (cK q9)]])])]])) aN) (ak (iK bz (aH [])) (ak (cA (one bR) (aF [ba gz r1,cK (int r9)]) (ak (aM dc (ah 15 [exp (aH [ah 18 [slot s1],ah 16 [exp (aH [ah 14 [slot s5,exp r1],ah 17 [slot s3,exp (cK (tup [str [110,117,109],int r9,int (ofNat 2)]))]])]])])) (ee s4 bz (ah 62 [exp (ah 16 [exp (aH [aC s6,ah 17 [exp (ah 16 [exp (aH [ah 14 [exp r5,exp r1],aC s0])]),exp (cK q9)]])])])))) (ak (dP s4 bz) (ax (aC s4)))))))
noncomputable def AI:aB:=aB.mk 2 (ak (bO [(aO,false),(aX,true)] [ah 107 [slot s0],aH []]) (ak (cA (two bz bR) (ah 122 [slot s0]) (ak (aM aO (ah 97 [slot s2,exp (ah 115 [slot s4])])) (ee s3 aX (ah 38 [slot s4])))) (ak (cA (one dc) (bo (c2 cR (ah 64 [slot s2]) r0) (o6 s1 (ah 73 [slot s2])) (aH [])) (aR (c2 aS (ah 64 [slot s6]) r5) (ak (gy [gx,kG,qn] (aC s6)) (aR (c2 cR (aK bN (aK bI (aG s8) (aG s8)) (aK bI (aK bI (cK (int (ofNat 4))) (aG s9)) (aG s7))) r0) (qp s3 aX (ah 128 [exp (ah 14 [slot s9,exp r1]),exp (ah 14 [slot s8,exp r1]),exp (ah 14 [slot s7,exp r1])])) aN)) (aR (cC (c2 cR (ah 64 [slot s6]) r0) (c2 cR (ba cc (ah 118 [slot s6])) r0)) (dW (cK (str [108,105,109,105,116])) (aK bF (cK (str [114,111,111,116,115,32,111,102,32,100,101,103,114,101,101,32])) (ba lF (ah 64 [slot s6])))) aN))) (ak (dP s3 aX) (ax (aC s3))))))
noncomputable def AH:aB:=aB.mk 2 (ak (aM aO (ah 126 [slot s0,slot s1])) (ak (aR (c2 og bG (cK none)) (dW (cK (str [108,105,109,105,116])) (aK bF (cK (str [110,111,32,112,111,108,121,110,111,109,105,97,108,32,105,110,32])) r3)) aN) (ak (aM aX (ba nQ bG)) (ak (aM bz (bo (c2 cR (ba cc bP) r0) (ba qz bP) gK)) (ak (aR (c2 eH (aG s4) r0) (dW (cK (str [100,111,109,97,105,110])) (aK bF (aK bF (cK (str [101,97,99,104,32])) r3) (cK (str [32,115,111,108,118,101,115,32,105,116])))) aN) (ak (aR (c2 cR (aG s4) r5) (dW (cK (str [108,105,109,105,116])) (aK bF (cK (str [114,111,111,116,115,32,111,102,32,100,101,103,114,101,101,32])) (ba lF (aG s4)))) aN) (ak (aR (c2 aS (aG s4) r0) (ax (aH [])) aN) (ak (aR (c2 aS (aG s4) r1) (ax (aH [ah 62 [exp (ah 16 [exp (aH [cK q9,kO bP r0 r4,ah 17 [exp (c2 aD bP r1),exp (cK q9)]])])]])) aN) (ax (ah 128 [exp (c2 aD bP r5),exp (kO bP r1 r4),exp (kO bP r0 r4)]))))))))))
noncomputable def AG:aB:=aB.mk 3 (ak (aM aX (ah 127 [slot s0])) (ak (aM bz (ah 95 [slot s3,slot s1])) (ak (aR (c2 og (aG s4) (cK none)) (ax (ah 130 [slot s3,slot s1])) aN) (ak (aR (c2 aS (c2 aD (aG s4) (cK (int (ofNat 0)))) (aH [])) (dW (cK (str [100,111,109,97,105,110])) (aK bF (aK bF (cK (str [101,97,99,104,32])) (aG s1)) (cK (str [32,115,111,108,118,101,115,32,105,116])))) aN) (ax (ah 129 [exp (c2 aD (ah 87 [exp (c2 aD (aG s4) (cK (int (ofNat 0))))]) (cK (int (ofNat 0)))),slot s2]))))))
noncomputable def AF:aB:=aB.mk 3 (ak (aM aX (ah 126 [exp (ah 127 [slot s0]),slot s1])) (ak (aR (c2 og (aG s3) (cK none)) (ax (cK (bool false))) aN) (ak (aM bz (ah 15 [exp (cF (bQ (cg (two bR dc) (aG s3) [] (cu (ah 16 [exp (aH [aC s6,bo (c2 cR (aG s5) (cK (int (ofNat 0)))) (ah 17 [slot s2,exp (ah 14 [slot s5,exp (cK (int (ofNat 1)))])]) (cK (tup [str [110,117,109],int (ofNat 1),int (ofNat 1)]))])])))))])) (ax (c2 aS (ah 62 [slot s4]) (cK (tup [str [110,117,109],int (ofNat 0),int (ofNat 1)])))))))
noncomputable def qg:aB:=aB.mk 2 (ak (fq s0 iJ (cK (int (ofNat 1))) (aK bF (λc ρ p=>Slot.rec Res.stuck (λx=>Res.stuck) (λx=>Res.stuck) (Res.rec Res.stuck (λi p=>Option.rec Res.stuck (λv=>Res.ok v p) (aD (lst p) i)) Res.exc (cK (int 1) c ρ p)) (aJ 0 ρ)) (cK (int (ofNat 1))))) (ak (aR (c2 sZ (λc ρ p=>Slot.rec Res.stuck (λx=>Res.stuck) (λx=>Res.stuck) (Res.rec Res.stuck (λi p=>Option.rec Res.stuck (λv=>Res.ok v p) (aD (lst p) i)) Res.exc (cK (int 1) c ρ p)) (aJ 0 ρ)) (ba cc λc ρ p=>Slot.rec Res.stuck (λx=>Res.stuck) (λx=>Res.stuck) (Res.rec Res.stuck (λi p=>Option.rec Res.stuck (λv=>Res.ok v p) (aD (lst p) i)) Res.exc (cK (int 0) c ρ p)) (aJ 0 ρ))) (ax (aK gA (c2 aD (λc ρ p=>Slot.rec Res.stuck (λx=>Res.stuck) (λx=>Res.stuck) (Res.rec Res.stuck (λi p=>Option.rec Res.stuck (λv=>Res.ok v p) (aD (lst p) i)) Res.exc (cK (int 0) c ρ p)) (aJ 0 ρ)) (aK bN (λc ρ p=>Slot.rec Res.stuck (λx=>Res.stuck) (λx=>Res.stuck) (Res.rec Res.stuck (λi p=>Option.rec Res.stuck (λv=>Res.ok v p) (aD (lst p) i)) Res.exc (cK (int 1) c ρ p)) (aJ 0 ρ)) (cK (int (ofNat 1))))) (aG s1))) aN) (ax (aK gA (aK bF (aK bF (aK bI (cK (int (ofNat 2))) λc ρ p=>Slot.rec Res.stuck (λx=>Res.stuck) (λx=>Res.stuck) (Res.rec Res.stuck (λi p=>Option.rec Res.stuck (λv=>Res.ok v p) (aD (lst p) i)) Res.exc (cK (int 1) c ρ p)) (aJ 0 ρ)) (aK fw (aK bI (λc ρ p=>Slot.rec Res.stuck (λx=>Res.stuck) (λx=>Res.stuck) (Res.rec Res.stuck (λi p=>Option.rec Res.stuck (λv=>Res.ok v p) (aD (lst p) i)) Res.exc (cK (int 1) c ρ p)) (aJ 0 ρ)) λc ρ p=>Slot.rec Res.stuck (λx=>Res.stuck) (λx=>Res.stuck) (Res.rec Res.stuck (λi p=>Option.rec Res.stuck (λv=>Res.ok v p) (aD (lst p) i)) Res.exc (cK (int 1) c ρ p)) (aJ 0 ρ)) (cK (int (ofNat 3))))) λc ρ p=>Slot.rec Res.stuck (λx=>Res.stuck) (λx=>Res.stuck) (Res.rec Res.stuck (λi p=>Option.rec Res.stuck (λv=>Res.ok v p) (aD (lst p) i)) Res.exc (cK (int 2) c ρ p)) (aJ 0 ρ)) (aG s1)))))
noncomputable def AE:aB:=aB.mk 2 (ax (aF [cK (str [110,117,109]),aC s0,aC s1]))
noncomputable def qf:aB:=aB.mk 2 (rP (ah 131 [slot s0,exp (cK (str [120])),exp (uc 142 [s1])]))
noncomputable def AB:aB:=aB.mk 1 (ax (aF [cK (str [115,117,109]),ba fW (cF (bQ (cg (two a0 aO) (gh kn (aG s0)) [] (cu (aF [cK (str [112,114,111,100]),aF [ah 134 [slot s2,exp (cK (int (ofNat 1)))],aF [cK (str [112,111,119]),aF [cK (str [115,121,109]),cK (str [120])],ah 134 [slot s1,exp (cK (int (ofNat 1)))]]]])))))]))
noncomputable def AA:aB:=aB.mk 2 (ak (iK aO (aK bI (aH [cK (int (ofNat 0))]) (aK bN (aK bF (ba cc (aG s0)) (ba cc (aG s1))) (cK (int (ofNat 1)))))) (ak (cA (two aX bz) (gh kn (aC s0)) (cA (two bR dc) (gh kn (aC s1)) (fq s2 aO (aK bF (aG s3) (aG s5)) (aK bF (c2 aD (aG s2) (aK bF (aG s3) (aG s5))) (aK bI (aG s4) (aG s6)))))) (ak (dP s2 aO) (ax (aC s2)))))
noncomputable def sb:aB:=aB.mk 2 (ak (aM aO (aK bF (cK (int (ofNat 1))) (ah 133 [slot s1,exp (cK (int (ofNat 3)))]))) (ak (aM aX (aF [cK (str [112,111,119]),ah 134 [exp (c2 aD (aH [cK (int (ofNat 2)),cK (int (ofNat 3)),cK (int (ofNat 5))]) (aK bN (aG s2) (cK (int (ofNat 1))))),exp (cK (int (ofNat 1)))],ah 134 [exp (cK (int (ofNat 1))),exp (cK (int (ofNat 2)))]])) (ak (aR (c2 aS (aG s0) (cK (int (ofNat 0)))) (ax (aF [aH [cK (int (ofNat 1))],aH []])) aN) (ak (aR (c2 aS (aG s0) (cK (int (ofNat 1)))) (ax (aF [aH [aK bN (cK (int (ofNat 0))) (c2 aD (aH [cK (int (ofNat 2)),cK (int (ofNat 3)),cK (int (ofNat 5))]) (aK bN (aG s2) (cK (int (ofNat 1))))),cK (int (ofNat 0)),cK (int (ofNat 1))],aH [ah 55 [exp (aF [cK (str [112,114,111,100]),aF [ah 134 [exp (aK bN (cK (int (ofNat 0))) (cK (int (ofNat 1)))),exp (cK (int (ofNat 1)))],aC s3]])],aC s3]])) aN) (ak (aR (c2 aS (aG s0) (cK (int (ofNat 2)))) (ax (aF [aH [aC s2,cK (int (ofNat 0)),cK (int (ofNat 1))],aH []])) aN) (ak (aR (c2 aS (aG s0) (cK (int (ofNat 3)))) (ax (aF [aH [cK (int (ofNat 1)),cK (int (ofNat 0)),cK (int (ofNat 0)),cK (int (ofNat 0)),cK (int (ofNat 1))],aH []])) aN) (ax (bo (c2 aS (aG s0) (cK (int (ofNat 4)))) (aF [aH [aK bN (cK (int (ofNat 0))) (cK (int (ofNat 2))),cK (int (ofNat 0)),cK (int (ofNat 0)),cK (int (ofNat 1))],cK (str [108,105,109,105,116])]) (aF [aH [aK bN (cK (int (ofNat 0))) (cK (int (ofNat 2))),cK (int (ofNat 0)),cK (int (ofNat 0)),cK (int (ofNat 0)),cK (int (ofNat 1))],cK (str [108,105,109,105,116])])))))))))
noncomputable def rZ:aB:=aB.mk 1 (ak (gy [a0,aO] (ah 138 [exp (ah 133 [slot s0,exp (cK (int (ofNat 6)))]),slot s0])) (ak (bO [(aX,false),(bz,true)] [aC s1,aH []]) (ak (cA (one bR) (gh gJ (ah 133 [slot s0,exp (cK (int (ofNat 3)))])) (ak (bO [(dc,false),(gx,false)] [aK bN (ah 133 [slot s0,exp (cK (int (ofNat 5)))]) (cK (int (ofNat 2))),aK bF (cK (int (ofNat 1))) (ah 133 [slot s0,exp (cK (int (ofNat 2)))])]) (ak (aM aX (ah 137 [slot s3,exp (aH [aK bN (cK (int (ofNat 0))) (aG s6),aC s7])])) (ee s4 bz (aF [aK fw (aK bI (cK (int (ofNat 6))) (aG s6)) (aG s7),ah 55 [exp (ah 134 [slot s6,slot s7])]]))))) (ak (aM kG (cF (bQ (cg (two rO vZ) (gh dK (ba nQ (aG s4))) [] (cu (aC s11)))))) (ak (aM qn (ah 135 [exp (aF [cK (str [101,113]),ah 136 [slot s3],ah 134 [exp (cK (int (ofNat 0))),exp (cK (int (ofNat 1)))]]),exp (bo (c2 cR (ba cc (aG s1)) (cK (int (ofNat 1)))) (aC s1) (aH []))])) (ax (c2 aS (aG s9) (bo (c1 gQ (aG s2)) (aC s2) (aK bF (aG s8) (aG s2))))))))))
noncomputable def Az:aB:=aB.mk 0 (ak (bO [(iJ,false),(a0,false)] [aF [cK (str [115,121,109]),cK (str [120])],aF [cK (str [115,121,109]),cK (str [121])]]) (ak (aM aO (aH [aF [aF [cK (str [101,113]),aC s0,aC s0],cK (str [100,111,109,97,105,110])],aF [aF [cK (str [101,113]),ah 134 [exp (cK (int (ofNat 1))),exp (cK (int (ofNat 1)))],ah 134 [exp (cK (int (ofNat 2))),exp (cK (int (ofNat 1)))]],aH []],aF [ah 134 [exp (cK (int (ofNat 0))),exp (cK (int (ofNat 1)))],cK (str [100,111,109,97,105,110])],aF [ah 134 [exp (cK (int (ofNat 3))),exp (cK (int (ofNat 2)))],aH []]])) (ak (aM aO (aK bF (aG s2) (aH [aF [aF [cK (str [101,113]),aC s1,aC s1],cK (str [100,111,109,97,105,110])],aF [aF [cK (str [101,113]),aC s1,ah 134 [exp (cK (int (ofNat 1))),exp (cK (int (ofNat 1)))]],aH []],aF [aF [cK (str [99,97,108,108]),cK (str [115,105,110]),aF [aC s0]],cK (str [108,105,109,105,116])],aF [aF [cK (str [112,111,119]),aC s0,aC s1],cK (str [108,105,109,105,116])]]))) (ak (aM aO (aK bF (aG s2) (aH [aF [aF [cK (str [115,117,109]),aF [aF [cK (str [112,114,111,100]),aF [aC s1,aF [cK (str [112,111,119]),aC s0,ah 134 [exp (cK (int (ofNat 3))),exp (cK (int (ofNat 1)))]]]],ah 134 [exp (cK (int (ofNat 1))),exp (cK (int (ofNat 1)))]]],cK (str [108,105,109,105,116])],aF [aF [cK (str [101,113]),aF [cK (str [112,114,111,100]),aF [aC s0,aC s1]],aF [cK (str [112,114,111,100]),aF [aC s1,aC s0]]],cK (str [100,111,109,97,105,110])]]))) (ax (aK bF (aG s2) (aH [aF [aF [cK (str [115,117,109]),aF [aC s0,aC s1]],aH [ah 55 [exp (aF [cK (str [112,114,111,100]),aF [ah 134 [exp (aK bN (cK (int (ofNat 0))) (cK (int (ofNat 1)))),exp (cK (int (ofNat 1)))],aC s1]])]]],aF [aF [cK (str [101,113]),aF [cK (str [112,114,111,100]),aF [ah 134 [exp (cK (int (ofNat 2))),exp (cK (int (ofNat 1)))],aC s0]],aC s1],aH [ah 55 [exp (aF [cK (str [112,114,111,100]),aF [ah 134 [exp (cK (int (ofNat 1))),exp (cK (int (ofNat 2)))],aC s1]])]]]])))))))
noncomputable def wX:aA:=(bo (c2 dF (aG s1) (aH [])) (aH [aC s1]) (aH [aC s0]))
noncomputable def Ay:aB:=aB.mk 2 (ax wX)
end
noncomputable def TK:Tab:=(Tab.node 71 (Tab.node 35 (Tab.node 17 (Tab.node 8 (Tab.node 4 (Tab.node 2 (Tab.node 1 (Tab.leaf Hk) (Tab.leaf Hj)) (Tab.node 3 (Tab.leaf Hi) (Tab.leaf Hh))) (Tab.node 6 (Tab.node 5 (Tab.leaf Hg) (Tab.leaf Hf)) (Tab.node 7 (Tab.leaf He) (Tab.leaf Hd)))) (Tab.node 12 (Tab.node 10 (Tab.node 9 (Tab.leaf Hc) Tab.nil) (Tab.node 11 (Tab.leaf F3) (Tab.leaf F2))) (Tab.node 14 (Tab.node 13 (Tab.leaf FZ) (Tab.leaf FY)) (Tab.node 15 (Tab.leaf FX) (Tab.node 16 (Tab.leaf FW) (Tab.leaf FV)))))) (Tab.node 26 (Tab.node 21 (Tab.node 19 (Tab.node 18 (Tab.leaf FU) (Tab.leaf FT)) (Tab.node 20 (Tab.leaf FR) (Tab.leaf FQ))) (Tab.node 23 (Tab.node 22 (Tab.leaf FP) (Tab.leaf FO)) (Tab.node 24 (Tab.leaf FN) (Tab.node 25 (Tab.leaf FK) (Tab.leaf FJ))))) (Tab.node 30 (Tab.node 28 (Tab.node 27 (Tab.leaf FI) (Tab.leaf FH)) (Tab.node 29 (Tab.leaf FG) Tab.nil)) (Tab.node 32 (Tab.node 31 (Tab.leaf FF) Tab.nil) (Tab.node 33 (Tab.leaf FE) (Tab.node 34 (Tab.leaf FD) (Tab.leaf FC))))))) (Tab.node 53 (Tab.node 44 (Tab.node 39 (Tab.node 37 (Tab.node 36 (Tab.leaf FA) (Tab.leaf Fz)) (Tab.node 38 (Tab.leaf Fy) (Tab.leaf Fx))) (Tab.node 41 (Tab.node 40 (Tab.leaf Fw) (Tab.leaf Fv)) (Tab.node 42 (Tab.leaf Fu) (Tab.node 43 (Tab.leaf Ft) (Tab.leaf Fs))))) (Tab.node 48 (Tab.node 46 (Tab.node 45 (Tab.leaf Fq) (Tab.leaf Fp)) (Tab.node 47 Tab.nil (Tab.leaf Fo))) (Tab.node 50 (Tab.node 49 (Tab.leaf Fn) (Tab.leaf Fm)) (Tab.node 51 Tab.nil (Tab.node 52 Tab.nil Tab.nil))))) (Tab.node 62 (Tab.node 57 (Tab.node 55 (Tab.node 54 Tab.nil (Tab.leaf Fl)) (Tab.node 56 (Tab.leaf Fj) (Tab.leaf Fi))) (Tab.node 59 (Tab.node 58 (Tab.leaf Fh) (Tab.leaf Fg)) (Tab.node 60 Tab.nil (Tab.node 61 (Tab.leaf Ff) (Tab.leaf Fe))))) (Tab.node 66 (Tab.node 64 (Tab.node 63 (Tab.leaf Fd) (Tab.leaf Fc)) (Tab.node 65 (Tab.leaf Fb) (Tab.leaf E9))) (Tab.node 68 (Tab.node 67 (Tab.leaf E8) (Tab.leaf E7)) (Tab.node 69 (Tab.leaf E6) (Tab.node 70 (Tab.leaf E5) (Tab.leaf E4)))))))) (Tab.node 107 (Tab.node 89 (Tab.node 80 (Tab.node 75 (Tab.node 73 (Tab.node 72 (Tab.leaf E3) (Tab.leaf E2)) (Tab.node 74 (Tab.leaf E0) (Tab.leaf EZ))) (Tab.node 77 (Tab.node 76 (Tab.leaf EY) (Tab.leaf EX)) (Tab.node 78 (Tab.leaf EW) (Tab.node 79 (Tab.leaf EV) (Tab.leaf EU))))) (Tab.node 84 (Tab.node 82 (Tab.node 81 (Tab.leaf ET) (Tab.leaf ES)) (Tab.node 83 (Tab.leaf ER) (Tab.leaf EP))) (Tab.node 86 (Tab.node 85 (Tab.leaf EO) (Tab.leaf EN)) (Tab.node 87 (Tab.leaf EM) (Tab.node 88 (Tab.leaf EL) (Tab.leaf EK)))))) (Tab.node 98 (Tab.node 93 (Tab.node 91 (Tab.node 90 (Tab.leaf EJ) (Tab.leaf EI)) (Tab.node 92 (Tab.leaf EH) Tab.nil)) (Tab.node 95 (Tab.node 94 (Tab.leaf EG) (Tab.leaf EF)) (Tab.node 96 (Tab.leaf EE) (Tab.node 97 (Tab.leaf ED) (Tab.leaf EC))))) (Tab.node 102 (Tab.node 100 (Tab.node 99 (Tab.leaf EB) (Tab.leaf EA)) (Tab.node 101 (Tab.leaf Bb) (Tab.leaf Ba))) (Tab.node 104 (Tab.node 103 (Tab.leaf A9) (Tab.leaf A8)) (Tab.node 105 (Tab.leaf A7) (Tab.node 106 Tab.nil (Tab.leaf A6))))))) (Tab.node 125 (Tab.node 116 (Tab.node 111 (Tab.node 109 (Tab.node 108 (Tab.leaf A5) (Tab.leaf A4)) (Tab.node 110 (Tab.leaf A3) (Tab.leaf A2))) (Tab.node 113 (Tab.node 112 (Tab.leaf A0) (Tab.leaf AZ)) (Tab.node 114 (Tab.leaf AY) (Tab.node 115 (Tab.leaf AX) (Tab.leaf AW))))) (Tab.node 120 (Tab.node 118 (Tab.node 117 Tab.nil (Tab.leaf AV)) (Tab.node 119 (Tab.leaf AU) (Tab.leaf AS))) (Tab.node 122 (Tab.node 121 (Tab.leaf AR) Tab.nil) (Tab.node 123 (Tab.leaf AQ) (Tab.node 124 (Tab.leaf AO) (Tab.leaf AN)))))) (Tab.node 134 (Tab.node 129 (Tab.node 127 (Tab.node 126 (Tab.leaf AM) (Tab.leaf AL)) (Tab.node 128 (Tab.leaf AK) (Tab.leaf AJ))) (Tab.node 131 (Tab.node 130 (Tab.leaf AI) (Tab.leaf AH)) (Tab.node 132 (Tab.leaf AG) (Tab.node 133 (Tab.leaf AF) (Tab.leaf qg))))) (Tab.node 138 (Tab.node 136 (Tab.node 135 (Tab.leaf AE) (Tab.leaf qf)) (Tab.node 137 (Tab.leaf AB) (Tab.leaf AA))) (Tab.node 140 (Tab.node 139 (Tab.leaf sb) (Tab.leaf rZ)) (Tab.node 141 (Tab.leaf Az) (Tab.node 142 Tab.nil (Tab.leaf Ay)))))))))
noncomputable def FL:List (Option aB):=[some Hk,some Hj,some Hi,some Hh,some Hg,some Hf,some He,some Hd,some Hc,none,some F3,some F2,some FZ,some FY,some FX,some FW,some FV,some FU,some FT,some FR,some FQ,some FP,some FO,some FN,some FK,some FJ,some FI,some FH,some FG,none,some FF,none,some FE,some FD,some FC,some FA,some Fz,some Fy,some Fx,some Fw,some Fv,some Fu,some Ft,some Fs,some Fq,some Fp,none,some Fo,some Fn,some Fm,none,none,none,none,some Fl,some Fj,some Fi,some Fh,some Fg,none,some Ff,some Fe,some Fd,some Fc,some Fb,some E9,some E8,some E7,some E6,some E5,some E4,some E3,some E2,some E0,some EZ,some EY,some EX,some EW,some EV,some EU,some ET,some ES,some ER,some EP,some EO,some EN,some EM,some EL,some EK,some EJ,some EI,some EH,none,some EG,some EF,some EE,some ED,some EC,some EB,some EA,some Bb,some Ba,some A9,some A8,some A7,none,some A6,some A5,some A4,some A3,some A2,some A0,some AZ,some AY,some AX,some AW,none,some AV,some AU,some AS,some AR,none,some AQ,some AO,some AN,some AM,some AL,some AK,some AJ,some AI,some AH,some AG,some AF,some qg,some AE,some qf,some AB,some AA,some sb,some rZ,some Az]
theorem Ga:(List.range 141).map TK.get=FL:=by kernel_rfl
noncomputable def unused:List Nat:=[9,29,31,46,50,51,52,53,59,92,105,116,121]
noncomputable def An(i:Nat):Option aB:=if i=135 then some qf else if unused.contains i then none else DV i
theorem GJ:(List.range 141).map An=FL:=by kernel_rfl
theorem Bj:cD 135=[.Try [.Return (some (.Call (.Name "solve_by" (gP (gE tR.1).1.1)) [.Name "t" (gP (tC 0)),.Constant (.str "x") (gE (tC 1)).2.2.2.2 (gP (tC 1)),.Lambda gb qC ez te] [] (gP tR.1))) tR.2] [.ExceptHandler (some (.Name "CasFail" (gP tH.1))) (some "wrong") [.Return (some (.Attribute (.Name "wrong" (gP (gE tA.1).1.1)) "kind" (gP tA.1))) tA.2] tH.2.2] [] [] tS.2.2]:=by kernel_rfl
theorem GC:(dN dC (fQ eF eE 142 [] ["f"] ez []) false qC).map (·.1)=some wX:=by kernel_rfl
theorem oY:defs.length=142:=by decide +kernel
theorem zr:(defs.all λd=>jY [] d.2.1 d.2.2.1)=true:=by decide +kernel
theorem ym:jY ["whole"] (gF 135) (lx 135)=true:=by decide +kernel
end
end
section
open PySem PySem.Calls PyProof.Rows
structure iD(C:Cfg)(mg mb:Str->Option IZ):Prop where
 W:dG C eF eE mg mb
 Y:pb C mg
 L:wU C mg 142 gb qC ez te "whole"
 obj:∀i,i<142->∃o fd,C.h₀.get? (C.fa i)=aa o/\o.data=.func fd/\oz C.h₀ fd (.stmts (cD i)) (gF i) ((lx i).names)
 code:∀fd,(∃o,C.h₀.get? (C.fa 135)=aa o/\o.data=.func fd)->fd.code=.ref C.lc/\fd.qualname++(".<locals>." : Str)++("<lambda>" : Str)=C.lqual
 isDef:∀i,C.isDef i=decide (i<142)
 lam:∀f fd cs,C.lam f fd cs->f=142/\∃nm cd ct c,fd=PySem.W.kla_fn "<lambda>" C.lqual gb qC ez [("whole",c)] nm (.ref cd) ct/\cs=[c]
section
variable{mg mb:Str->Option IZ}
theorem vm{i:Nat}(h:i<142):defs[i]?=aa (((defs[i]?).getD default)):=by
 have:i<defs.length:=by rw[oY];exact h
 rw[Jt this];rfl
theorem t9{i:Nat}(h:i<142):jY [] (gF i) (lx i)=af:=by
 have e:=vm h;exact List.all_eq_true.mp zr _ (List.mem_of_getElem? e)
theorem qL{f:Str}{i:Nat}(h:eF.lookup f=aa i):i<142:=by
 have hm:=I6 h;unfold eF at hm;refine aj (List.mem_map.mp hm) λz0 hk e=>?_;obtain⟨d,k⟩:=z0;(injection e with h9;clear h hm;subst h9);have:=List.mem_zipIdx hk;rw[← oY];omega
theorem iD.sound(H:iD C mg mb):∀n,Sound C eF eE (dT n):=C2 H.W λf i h=>by rw[H.isDef];exact decide_eq_true (qL h)
theorem iD.kW(H:iD C mg mb):∀n,qd C eF eE (j0 n):=Internal.kW H.sound H.W H.Y
theorem zc{i:Nat}{d:aB}(h:DV i=aa d)(hi:i<142):nR eF eE 142 [] (gF i) (lx i) (cD i)=aa d:=by
 unfold DV at h;rw[vm hi]at h;exact h
theorem Gb{i:Nat}{d:aB}(h:TK.get i=aa d)(hi:i<141):An i=aa d:=by
 have e:(List.range 141).map An=(List.range 141).map TK.get:=GJ.trans Ga.symm;have e':=congrArg (λl=>l[i]?) e;simp only[List.getElem?_map,List.getElem?_range hi,Option.map_some,Je]at e';rw[e'];exact h
theorem CR:TK.get 141=ae:=by kernel_rfl
theorem CU:TK.get 135=aa qf:=by kernel_rfl
theorem CQ:TK.get 142=aa Ay:=by kernel_rfl
theorem iD.tM(H:iD C mg mb){i:Nat}(hi:i<142)(body:List Stmt):nD C (C.fa i) (fQ eF eE 142 [] (gF i) (lx i) body) (gF i) (cD i):=
 Internal.tM (t9 hi) (H.obj i hi) H.W.nolimit (.inl rfl) body
theorem Bh (H:iD C mg mb):eA C (fQ eF eE 142 ["whole"] (gF 135) (lx 135) (cD 135)) (cD 135) qf.body:=by
 have hi:eF.lookup ("solve_by" : Str)=aa 131:=by decide +kernel
 have hfree:freeOf ez=[("whole" : Str)]:=by decide +kernel
 have key:=w4 (cx:=fQ eF eE 142 ["whole"] (gF 135) (lx 135) (cD 135)) (cn:=(gE (tC 1)).2.2.2.2) (cp:=gP (tC 1)) (fp:=gP (gE tR.1).1.1) (tp:=gP (tC 0)) (rp:=tR.2) (np:=gP tH.1) (ap:=gP (gE tA.1).1.1) (kpos:=gP tA.1) (rp':=tA.2) (hpos:=tH.2.2) (pos:=gP tR.1) (pos':=tS.2.2) (k := "x") (f := "solve_by") (tn := "t") (wn := "wrong") (i:=131) (j:=2) (jt:=0) (jx:=1) H.W H.Y H.L oZ (by decide +kernel) (by decide +kernel) (by decide +kernel) (by decide +kernel) (by decide +kernel) hi (by rw[H.isDef];rfl) (by decide +kernel) (by decide +kernel) hfree (by decide +kernel) (by decide +kernel) (by decide +kernel);rw[← Bj]at key;exact key
theorem Bi (H:iD C mg mb):nD C (C.fa 135) (fQ eF eE 142 ["whole"] (gF 135) (lx 135) (cD 135)) (gF 135) (cD 135):=
 Internal.tM ym (H.obj 135 (by decide)) H.W.nolimit (.inr H.code) (cD 135)
theorem DK(H:iD C mg mb){f:Nat}{d:aB}(h:TK.get f=aa d):wV C f d:=⟨λfd cs hl=>by
 refine ao (H.lam f fd cs hl) λz0 zq=>?_;subst z0;refine Hu zq λnm cd ct c z1 z2=>?_;subst z1;clear zq hl;subst z2;rw[CQ]at h;obtain rfl:=Jd h;refine aj (Option.map_eq_some_iff.mp GC) λz0 hc e=>?_;obtain⟨db,js⟩:=z0;subst e;have cw:CW eF eE (fQ eF eE 142 [] ["f"] ez []):=⟨oZ,rfl,rfl,rfl,λx j hx=>by
  have h1:=(dR (show(numbered 0 (ec ["f"] ez)).lookup x=aa j from hx)).2;exact List.all_eq_true.mp (show((ec ["f"] ez).all bc)=af by decide +kernel) x (List.mem_of_getElem? h1)⟩
 have S:=((H.sound dC).e cw hc).1;have lP:(ez.names.all λx=>x.2 !=.cell&&(x.2 !=.free||x.1==("whole" : Str)))=af:=by decide +kernel
 have vars_ok:ec [("f" : Str)] ez=[("f" : Str),("whole" : Str)]:=by decide +kernel
 refine⟨fQ eF eE 142 [] ["f"] ez [],"f","whole",c,qC,wX,rfl,rfl,rfl,rfl,?_,?_,?_,rfl,rfl,?_,?_,?_,?_,?_,rfl,rfl,?_,?_,?_,?_,?_,rfl,rfl,S⟩
 ·show ez.isCoroutine=ag;decide +kernel
 ·show ez.isGenerator=ag;decide +kernel
 ·show ez.kind=.function;decide +kernel
 ·show gb.posonlyargs=[];have:gb.posonlyargs.isEmpty=af:=by decide +kernel
  simpa using this
 ·show gb.args.map (·.arg)=[("f" : Str)];decide +kernel
 ·show gb.kwonlyargs=[];have:gb.kwonlyargs.isEmpty=af:=by decide +kernel
  simpa using this
 ·show gb.vararg=ae;have:gb.vararg.isNone=af:=by decide +kernel
  simpa using this
 ·show gb.kwarg=ae;have:gb.kwarg.isNone=af:=by decide +kernel
  simpa using this
 ·intro z hz;have:=List.all_eq_true.mp lP z hz;simp at this;exact this.1
 ·show ez.names.lookup ("f" : Str)=aa .local;decide +kernel
 ·show ez.names.lookup ("whole" : Str)=aa .free;decide +kernel
 ·intro z hz;have:=List.all_eq_true.mp lP _ (I6 hz);simpa using this
 ·intro z j hz;have h1:=(dR (show(numbered 0 (ec ["f"] ez)).lookup z=aa j from hz)).2;rw[vars_ok]at h1
  match j,h1 with
  | 0,h1=>exact .inl ⟨rfl,by simpa using h1.symm⟩
  | 1,h1=>exact .inr (.inl ⟨rfl,by simpa using h1.symm⟩)
  | j+2,h1=>exact .inr (.inr (Nat.le_add_left _ _))⟩
theorem CY(H:iD C mg mb):Et C TK where
 lam f d h:=DK H h
 def_ f d h hd:=by
  rw[H.isDef]at hd;have hf:f<142:=of_decide_eq_true hd;by_cases h1:f=141
  ·clear hd hf;subst h1;rw[CR]at h;exact nS h
  have hf':f<141:=by omega
  by_cases h2:f=135
  ·clear hd hf h1 hf';subst h2;rw[CU]at h;obtain rfl:=Jd h;exact iG _ _ _ (Bi H) (by decide +kernel) (Bh H)
  ·have e:=Gb h hf';unfold An at e;rw[if_neg h2]at e
   split at e
   ·exact nS e
   refine ao (tZ (zc e hf)) λq1 q2=>?_;exact iG _ _ _ (H.tM hf (cD f)) q1 ((H.kW iW).b (tU (t9 hf) rfl) q2)
end
noncomputable def xV:Cx:={ fQ eF eE 142 [] (gF 141) (lx 141) (cD 141)with muts:=["pen"] }
noncomputable def Bc:aA:=aH [ba d0 (cF (dp (aG Fr.s0) ae (aa (cK (.int (.ofNat 30)))))),cK (.int (.ofNat 0)),aK gA (ba sumF (cF (dp (aG Fr.s0) ae (aa (cK (.int (.ofNat 30))))))) (cK (.int (.ofNat 997)))]
theorem DI:GN iW xV ((cD 141).headD default)=aa (iK a0 Bc):=by kernel_rfl
theorem B0:(cD 141).length=8:=by decide +kernel
theorem xD:cD 141=(cD 141).headD default::(cD 141).drop 1:=by
 have:=B0;induction h:cD 141 using List.casesOn with
 | nil=>rw[h]at this;cases this
 | cons a r=>rfl
section
variable{mg mb:Str->Option IZ}{s:IY}{A:I0}{n:Nat}{call:Call}{Q E:IZ->IY->Prop}
theorem zt:CW eF eE (fQ eF eE 142 [] (gF 141) (lx 141) (cD 141)):=tU (t9 (i:=141) (by decide)) rfl
theorem D9:CW eF eE xV:=⟨⟨zt.O.inj,zt.O.lt⟩,rfl,rfl,rfl,zt.ok⟩
theorem DJ(H:iD C mg mb):nD C (C.fa 141) xV (gF 141) ((cD 141).headD default::(cD 141).drop 1):=by
 have F:=H.tM (i:=141) (by decide) (cD 141);rw[xD]at F;exact⟨F.obj,F.dist,F.kinds,F.vars,F.nofree,F.capK,F.nolim,F.code⟩
theorem y1(H:iD C mg mb){R:bj}(oR:rW iW xV ((cD 141).drop 1)=aa R){fO L p':List V}{ρ':Fr}{val:IZ}(hc:dJ C n call)(P:bp C (n+1) (λJ=>False) (λJ=>False) [] A s)(hv:aq C (λJ=>False) s.heap (.lst fO) val)
  (hD:Bc call (fill [.val (.lst fO)]) []=.ok (.lst L) []) (hR:R call (sets 1 (fill [.val (.lst fO)]) .aE) L=.ret (.bool af) ρ' p')
  (hQ:∀s' X,Base C s'.heap->cX C X s'.heap->s'.gens=s.gens->s'.os=s.os->Q (.bool af) s'):wpAny (model C.prog C.w) A (PySem.call (.ref (C.fa 141)) [val]) Q E s:=
 B3 H.W.cls (DJ H) D9.O (by decide +kernel) (x := "pen") (by decide +kernel) rfl ((H.kW iW).s D9 DI) ((H.kW iW).b D9 oR) hc P hv hD hR hQ
end
end
section
open PySem
section
variable{c:Call}{ρ ρ':Fr}{p p₁ bg iL:List V}{f:Nat}{g:d6}{x y:aA}{a b v:V}{l:List Slot}{xs:List bk}{n:Nat}
theorem mh(h:dq xs c ρ p=.ok l p₁):ah f xs c ρ p=nT c f l p₁:=by
 rw[ud,h]
theorem ky(hg:g ρ=.aE)(h:dq xs c ρ p=.ok l p₁):dq (.slot g::xs) c ρ p=.ok (.aE::l) p₁:=by
 show(@Slot.rec (λJ=>aV) _ _ _ (@aV.rec (λJ=>aV) aV.stuck (λl p=>aV.ok (Slot.aE::l) p) aV.exc (dq xs c ρ p)) (g ρ))=_;rw[hg,h]
theorem nj(hx:x c ρ p=.ok v p₁)(h:dq xs c ρ p₁=.ok l bg):dq (.exp x::xs) c ρ p=.ok (.val v::l) bg:=by
 show(@Res.rec (λJ=>aV) aV.stuck (λv p=>(@aV.rec (λJ=>aV) aV.stuck (λl p=>aV.ok (Slot.val v::l) p) aV.exc (dq xs c ρ p))) aV.exc (x c ρ p))=_;rw[hx];show(@aV.rec (λJ=>aV) aV.stuck (λl p=>aV.ok (Slot.val v::l) p) aV.exc (dq xs c ρ p₁))=_;rw[h]
theorem nU{k:V->Option V}(hx:x c ρ p=.ok a p₁)(hk:k a=aa v):c1 k x c ρ p=.ok v p₁:=by
 show(@Res.rec (λJ=>Res) Res.stuck (λa p=>(@Option.rec V (λJ=>Res) Res.stuck (λv=>Res.ok v p) (k a))) Res.exc (x c ρ p))=_;rw[hx];show(@Option.rec V (λJ=>Res) Res.stuck (λv=>Res.ok v p₁) (k a))=_;rw[hk]
theorem eZ{k:V->V->Option V}(hx:x c ρ p=.ok a p₁)(hy:y c ρ p₁=.ok b bg)(hk:k a b=aa v):c2 k x y c ρ p=.ok v bg:=by
 show(@Res.rec (λJ=>Res) Res.stuck (λa p=>(@Res.rec (λJ=>Res) Res.stuck (λb p=>(@Option.rec V (λJ=>Res) Res.stuck (λv=>Res.ok v p) (k a b))) Res.exc (y c ρ p))) Res.exc (x c ρ p))=_;rw[hx];show(@Res.rec (λJ=>Res) Res.stuck (λb p=>(@Option.rec V (λJ=>Res) Res.stuck (λv=>Res.ok v p) (k a b))) Res.exc (y c ρ p₁))=_;rw[hy];show(@Option.rec V (λJ=>Res) Res.stuck (λv=>Res.ok v bg) (k a b))=_;rw[hk]
theorem kr:bB [] c ρ p=.ok [] p:=rfl
theorem d3{xs:List aA}{m:List V}(hx:x c ρ p=.ok v p₁)(h:bB xs c ρ p₁=.ok m bg):bB (x::xs) c ρ p=.ok (v::m) bg:=by
 show(@Res.rec (λJ=>aI) aI.stuck (λv p=>(@aI.rec (λJ=>aI) aI.stuck (λl p=>aI.ok (v::l) p) aI.exc (bB xs c ρ p))) aI.exc (x c ρ p))=_;rw[hx];show(@aI.rec (λJ=>aI) aI.stuck (λl p=>aI.ok (v::l) p) aI.exc (bB xs c ρ p₁))=_;rw[h]
theorem bZ{s t:bj}(h:s c ρ p=.next ρ' p₁):ak s t c ρ p=t c ρ' p₁:=by
 show(@ai.rec (λJ=>ai) ai.stuck (t c) ai.brk ai.cont ai.ret ai.exc (s c ρ p))=_;rw[h]
theorem BD{s:bT}(hx:x c ρ p=.ok v p₁):aM s x c ρ p=.next (s ρ (.val v)) p₁:=by
 show(@Res.rec (λJ=>ai) ai.stuck (λv p=>ai.next (s ρ (Slot.val v)) p) (λe p=>ai.exc e ρ p) (x c ρ p))=_;rw[hx]
theorem qo{ts:List (bT×Bool)}{es:List aA}{m:List V}(hx:bB es c ρ p=.ok m p₁)(hs:storeAll ts m ρ=aa ρ'):bO ts es c ρ p=.next ρ' p₁:=by
 show(@aI.rec (λJ=>ai) ai.stuck (λl p=>(@Option.rec Fr (λJ=>ai) ai.stuck (λρ=>ai.next ρ p) (storeAll ts l ρ))) (λe p=>ai.exc e ρ p) (bB es c ρ p))=_;rw[hx];show(@Option.rec Fr (λJ=>ai) ai.stuck (λρ=>ai.next ρ p₁) (storeAll ts m ρ))=_;rw[hs]
theorem uI{js:List bT}{m:List V}(hx:x c ρ p=.ok v p₁)(hm:itemsOf v=aa m)(hs:storeAll (vals js) m ρ=aa ρ'):gy js x c ρ p=.next ρ' p₁:=by
 show(@Res.rec (λJ=>ai) ai.stuck (λv p=>(@Option.rec (List V) (λJ=>ai) ai.stuck (λl=>(@Option.rec Fr (λJ=>ai) ai.stuck (λρ=>ai.next ρ p) (storeAll (vals js) l ρ))) (itemsOf v))) (λe p=>ai.exc e ρ p) (x c ρ p))=_;rw[hx];show(@Option.rec (List V) (λJ=>ai) ai.stuck (λl=>(@Option.rec Fr (λJ=>ai) ai.stuck (λρ=>ai.next ρ p₁) (storeAll (vals js) l ρ))) (itemsOf v))=_;rw[hm];show(@Option.rec Fr (λJ=>ai) ai.stuck (λρ=>ai.next ρ p₁) (storeAll (vals js) m ρ))=_;rw[hs]
theorem Gi{s t:bj}(hx:x c ρ p=.ok (.bool af) p₁):aR x s t c ρ p=s c ρ p₁:=by
 show(@Res.rec (λJ=>ai) ai.stuck (λv p=>(vB ai.stuck (λq=>(@Jp (λJ=>ai) (t c ρ p) (s c ρ p) q)) v)) (λe p=>ai.exc e ρ p) (x c ρ p))=_;rw[hx]
theorem Ab{s t:bj}(hx:x c ρ p=.ok (.bool ag) p₁):aR x s t c ρ p=t c ρ p₁:=by
 show(@Res.rec (λJ=>ai) ai.stuck (λv p=>(vB ai.stuck (λq=>(@Jp (λJ=>ai) (t c ρ p) (s c ρ p) q)) v)) (λe p=>ai.exc e ρ p) (x c ρ p))=_;rw[hx]
theorem uL{t:eN}{body:bj}{m:List V}(hx:x c ρ p=.ok v p₁)(hm:itemsOf v=aa m):cA t x body c ρ p=forL t body c m ρ p₁:=by
 show(@Res.rec (λJ=>ai) ai.stuck (λv p=>(@Option.rec (List V) (λJ=>ai) ai.stuck (λl=>forL t body c l ρ p) (itemsOf v))) (λe p=>ai.exc e ρ p) (x c ρ p))=_;rw[hx];show(@Option.rec (List V) (λJ=>ai) ai.stuck (λl=>forL t body c l ρ p₁) (itemsOf v))=_;rw[hm]
theorem ja{s:bT}{body:bj}{m:List V}(h:body c (s ρ (.val v)) p=.next ρ' p₁):forL (.one s) body c (v::m) ρ p=forL (.one s) body c m ρ' p₁:=by
 show(@ai.rec (λJ=>ai) ai.stuck (forL (.one s) body c m) ai.next (forL (.one s) body c m) ai.ret ai.exc (body c (s ρ (.val v)) p))=_;rw[h]
theorem lW{t:eN}{body:bj}:forL t body c [] ρ p=.next ρ p:=rfl
theorem qK{s:bT}(h:g ρ=.aE):dP g s c ρ p=.next ρ p:=by
 show(@Slot.rec (λJ=>ai) _ _ _ _ (g ρ))=_;rw[h]
theorem uJ(hx:x c ρ p=.ok v p₁):ax x c ρ p=.ret v ρ p₁:=by
 show(@Res.rec (λJ=>ai) ai.stuck (λv p=>ai.ret v ρ p) (λe p=>ai.exc e ρ p) (x c ρ p))=_;rw[hx]
theorem kq{T:Tab}{o:iC}{args:List Slot}{d:aB}(ho:o f=ae)(hT:T.get f=aa d)(hl:args.length=d.np)(h:d.body (bw T o n) (fill args) p=.ret v ρ' p₁):bw T o (n+1) f args p=.ok v p₁:=by
 rw[me,ho];dsimp only;rw[hT];show(@Jp (λJ=>Res) Res.stuck (@ai.rec (λJ=>Res) Res.stuck (λJ p=>Res.ok V.none p) (λJ J=>Res.stuck) (λJ J=>Res.stuck) (λv J p=>Res.ok v p) (λk J p=>Res.exc k p) (d.body (bw T o n) (fill args) p)) (Nat.beq (dA args) d.np))=_;rw[cj,hl,show Nat.beq d.np d.np=af from Nat.beq_refl _,h]
end
def Good(b:Nat)(p:List V):Prop:=∃(is:List Int)(k:Nat)(c:Int),p=[.lst (is.map .int),.int (.ofNat k),.int c]/\k<=b/\b<1000
theorem BR(x:Int){m:Nat}(hm:0<m):∃r,r<m/\qF x (.ofNat m)=.ofNat r:=by
 rw[u2];have h1:Int.fmod x (Int.ofNat m)=x % (Int.ofNat m):=Int.fmod_eq_emod_of_nonneg x (by simp);have h2:0<=x % (Int.ofNat m):=Int.emod_nonneg _ (by simp;exact Nat.ne_of_gt hm);have h3:x % (Int.ofNat m)<Int.ofNat m:=Int.emod_lt_of_pos _ (by simp;exact hm);refine au ((x % (Int.ofNat m)).toNat) (by have:(Int.ofNat m)=(m:Int):=rfl;lia) ?_;rw[h1];show _=((x % Int.ofNat m).toNat:Int);lia
theorem uX(x:Int){m:Nat}(hm:0<m):∃r,r<m/\gA (.int x) (.int (.ofNat m))=aa (.int (.ofNat r)):=by
 refine aj (BR x hm) λr h1 h2=>?_;refine au r h1 ?_;show(@Jp (λJ=>Option V) (aa (.int (qF x (.ofNat m)))) ae (pP (.ofNat m) (.ofNat 0)))=_;have:pP (.ofNat m) (.ofNat 0)=ag:=by
  induction m using Nat.casesOn with
  | zero=>exact absurd hm (JB _)
  | succ m=>rfl
 rw[this,h2]
noncomputable def zK:bj:=ax (aK gA (aK bF (aK bF (aK bI (cK (.int (.ofNat 2))) (fA Fr.s0 (cK (.int 1)))) (aK fw (aK bI (fA Fr.s0 (cK (.int 1))) (fA Fr.s0 (cK (.int 1)))) (cK (.int (.ofNat 3))))) (fA Fr.s0 (cK (.int 2)))) (aG Fr.s1))
noncomputable def pd:bj:=ak (fq Fr.s0 iJ (cK (.int (.ofNat 1))) (aK bF (fA Fr.s0 (cK (.int 1))) (cK (.int (.ofNat 1)))))
 (ak (aR (c2 sZ (fA Fr.s0 (cK (.int 1))) (ba cc (fA Fr.s0 (cK (.int 0))))) (ax (aK gA (c2 aD (fA Fr.s0 (cK (.int 0))) (aK bN (fA Fr.s0 (cK (.int 1))) (cK (.int (.ofNat 1))))) (aG Fr.s1))) aN) zK)
theorem DW:qg=aB.mk 2 pd:=rfl
section
variable{T:Tab}{o:iC}
theorem pick(hT:T.get 133=aa qg)(ho:o 133=ae){b:Nat}{p:List V}(hp:Good b p)(hb:b+1<1000){m:Nat}(hm:0<m):
  ∃r p',r<m/\Good (b+1) p'/\∀n,bw T o (n+1) 133 [.aE,.val (.int (.ofNat m))] p=.ok (.int (.ofNat r)) p':=by
 refine dz hp λis k c0 z0 hk zz=>?_;clear hp;subst z0;have first:∀c:Call,fq Fr.s0 iJ (cK (.int (.ofNat 1))) (c2 bF (fA Fr.s0 (cK (.int 1))) (cK (.int (.ofNat 1)))) c (fill [.aE,.val (.int (.ofNat m))]) [.lst (is.map .int),.int (.ofNat k),.int c0]=.next (fill [.aE,.val (.int (.ofNat m))]) [.lst (is.map .int),.int (.ofNat (k+1)),.int c0]:=λc=>rfl
 have g:Good (b+1) [.lst (is.map .int),.int (.ofNat (k+1)),.int c0]:=iG is (k+1) c0 rfl (by exact Nat.lt_succ_of_le hk) hb;have lel:∀c:Call,c2 sZ (fA Fr.s0 (cK (.int 1))) (c1 cc (fA Fr.s0 (cK (.int 0)))) c (fill [.aE,.val (.int (.ofNat m))]) [.lst (is.map .int),.int (.ofNat (k+1)),.int c0]=.ok (.bool (decide (k<is.length))) [.lst (is.map .int),.int (.ofNat (k+1)),.int c0]:=λc=>by
  refine eZ (a:=.int (.ofNat (k+1))) (b:=.int (.ofNat (dA (is.map V.int)))) rfl rfl ?_;show aa (V.bool (xR (.ofNat (k+1)) (.ofNat (dA (is.map V.int)))))=_;rw[tB,cj,Jv];have:(Int.ofNat (k+1)<=Int.ofNat is.length)↔k<is.length:=by
   show((k+1:Nat):Int)<=(is.length:Int)↔_;lia
  simp only[this]
 by_cases hlt:k<is.length
 ·refine aj (uX (is[k]) hm) λr hr he=>?_;refine bX r _ hr g (λn=>?_);refine kq (d:=aB.mk 2 pd) (ρ':=fill [.aE,.val (.int (.ofNat m))]) ho (DW▸hT) rfl ?_;show pd (bw T o n) (fill [.aE,.val (.int (.ofNat m))]) [.lst (is.map .int),.int (.ofNat k),.int c0]=_;delta pd zK;simp only[fh,eM,fi,fR];refine(bZ (first _)).trans ?_
  have lel':=lel (bw T o n);rw[decide_eq_true hlt]at lel';have ret:ax (c2 gA (c2 aD (fA Fr.s0 (cK (.int 0))) (c2 bN (fA Fr.s0 (cK (.int 1))) (cK (.int (.ofNat 1))))) (aG Fr.s1)) (bw T o n) (fill [.aE,.val (.int (.ofNat m))]) [.lst (is.map .int),.int (.ofNat (k+1)),.int c0]=.ret (.int (.ofNat r)) (fill [.aE,.val (.int (.ofNat m))]) [.lst (is.map .int),.int (.ofNat (k+1)),.int c0]:=by
   refine uJ (eZ (a:=.int is[k]) (b:=.int (.ofNat m)) (eZ (a:=.lst (is.map V.int)) (b:=.int (.ofNat k)) rfl rfl ?_) rfl he);show eY (is.map V.int) k=_;rw[hJ,List.getElem?_map,Jt hlt];rfl
  show(@ai.rec (λJ=>ai) ai.stuck _ ai.brk ai.cont ai.ret ai.exc (aR _ (ax _) aN (bw T o n) _ _))=_;rw[(Gi lel').trans ret]
 ·refine aj (uX (cQ (cQ (gC (.ofNat 2) (.ofNat (k+1))) (qH (gC (.ofNat (k+1)) (.ofNat (k+1))) (.ofNat 3))) c0) hm) λr hr he=>?_;refine bX r _ hr g (λn=>?_);refine kq (d:=aB.mk 2 pd) (ρ':=fill [.aE,.val (.int (.ofNat m))]) ho (DW▸hT) rfl ?_;show pd (bw T o n) (fill [.aE,.val (.int (.ofNat m))]) [.lst (is.map .int),.int (.ofNat k),.int c0]=_;delta pd zK;simp only[fh,eM,fi,fR];refine(bZ (first _)).trans ?_
  have lel':=lel (bw T o n);rw[decide_eq_false hlt]at lel';refine(bZ (Ab lel')).trans ?_;have small:gI (.ofNat (k+1))=af:=by
   show Nat.blt (k+1) 18446744073709551616=af;rw[blt_dec];exact decide_eq_true (by lia)
  refine uJ (eZ (a:=.int (cQ (cQ (gC (.ofNat 2) (.ofNat (k+1))) (qH (gC (.ofNat (k+1)) (.ofNat (k+1))) (.ofNat 3))) c0)) (b:=.int (.ofNat m)) (eZ (a:=.int (cQ (gC (.ofNat 2) (.ofNat (k+1))) (qH (gC (.ofNat (k+1)) (.ofNat (k+1))) (.ofNat 3)))) (b:=.int c0) (eZ (a:=.int (gC (.ofNat 2) (.ofNat (k+1)))) (b:=.int (qH (gC (.ofNat (k+1)) (.ofNat (k+1))) (.ofNat 3))) (eZ (a:=.int (.ofNat 2)) (b:=.int (.ofNat (k+1))) rfl rfl rfl) (eZ (a:=.int (gC (.ofNat (k+1)) (.ofNat (k+1)))) (b:=.int (.ofNat 3)) (eZ (a:=.int (.ofNat (k+1))) (b:=.int (.ofNat (k+1))) rfl rfl ?_) rfl rfl) rfl) rfl rfl) rfl he);show(@Jp (λJ=>Option V) _ (aa (V.int (gC (.ofNat (k+1)) (.ofNat (k+1))))) (gI (.ofNat (k+1))))=_;rw[small]
end
noncomputable section
noncomputable def kinds:List (V×V):=[((.lst [(.int (.ofNat 1))]),(.lst [])),
 ((.lst [(.int (.negSucc 1)),(.int (.ofNat 0)),(.int (.ofNat 1))]),(.lst [(.tup [(.str [112,114,111,100]),(.tup [(.tup [(.str [110,117,109]),(.int (.negSucc 0)),(.int (.ofNat 1))]),(.tup [(.str [112,111,119]),(.tup [(.str [110,117,109]),(.int (.ofNat 2)),(.int (.ofNat 1))]),(.tup [(.str [110,117,109]),(.int (.ofNat 1)),(.int (.ofNat 2))])])])]),(.tup [(.str [112,111,119]),(.tup [(.str [110,117,109]),(.int (.ofNat 2)),(.int (.ofNat 1))]),(.tup [(.str [110,117,109]),(.int (.ofNat 1)),(.int (.ofNat 2))])])])),
 ((.lst [(.int (.negSucc 2)),(.int (.ofNat 0)),(.int (.ofNat 1))]),(.lst [(.tup [(.str [112,114,111,100]),(.tup [(.tup [(.str [110,117,109]),(.int (.negSucc 0)),(.int (.ofNat 1))]),(.tup [(.str [112,111,119]),(.tup [(.str [110,117,109]),(.int (.ofNat 3)),(.int (.ofNat 1))]),(.tup [(.str [110,117,109]),(.int (.ofNat 1)),(.int (.ofNat 2))])])])]),(.tup [(.str [112,111,119]),(.tup [(.str [110,117,109]),(.int (.ofNat 3)),(.int (.ofNat 1))]),(.tup [(.str [110,117,109]),(.int (.ofNat 1)),(.int (.ofNat 2))])])])),
 ((.lst [(.int (.negSucc 4)),(.int (.ofNat 0)),(.int (.ofNat 1))]),(.lst [(.tup [(.str [112,114,111,100]),(.tup [(.tup [(.str [110,117,109]),(.int (.negSucc 0)),(.int (.ofNat 1))]),(.tup [(.str [112,111,119]),(.tup [(.str [110,117,109]),(.int (.ofNat 5)),(.int (.ofNat 1))]),(.tup [(.str [110,117,109]),(.int (.ofNat 1)),(.int (.ofNat 2))])])])]),(.tup [(.str [112,111,119]),(.tup [(.str [110,117,109]),(.int (.ofNat 5)),(.int (.ofNat 1))]),(.tup [(.str [110,117,109]),(.int (.ofNat 1)),(.int (.ofNat 2))])])])),
 ((.lst [(.int (.ofNat 1)),(.int (.ofNat 0)),(.int (.ofNat 1))]),(.lst [])),
 ((.lst [(.int (.ofNat 2)),(.int (.ofNat 0)),(.int (.ofNat 1))]),(.lst [])),
 ((.lst [(.int (.ofNat 3)),(.int (.ofNat 0)),(.int (.ofNat 1))]),(.lst [])),
 ((.lst [(.int (.ofNat 1)),(.int (.ofNat 0)),(.int (.ofNat 0)),(.int (.ofNat 0)),(.int (.ofNat 1))]),(.lst [])),
 ((.lst [(.int (.negSucc 1)),(.int (.ofNat 0)),(.int (.ofNat 0)),(.int (.ofNat 1))]),(.str [108,105,109,105,116])),
 ((.lst [(.int (.negSucc 1)),(.int (.ofNat 0)),(.int (.ofNat 0)),(.int (.ofNat 0)),(.int (.ofNat 1))]),(.str [108,105,109,105,116]))]
noncomputable def tj:Nat->Nat->Nat
 | 0,0=>0
 | 0,1=>0
 | 0,2=>0
 | 1,0=>1
 | 1,1=>2
 | 1,2=>3
 | 2,0=>4
 | 2,1=>5
 | 2,2=>6
 | 3,0=>7
 | 3,1=>7
 | 3,2=>7
 | 4,0=>8
 | 4,1=>8
 | 4,2=>8
 | 5,0=>9
 | 5,1=>9
 | 5,2=>9
 | _,_=>0
noncomputable def int(n:Nat):V:=.int (.ofNat n)
noncomputable def Ex:bj:=aM aO (aK bF (cK (V.int (Int.ofNat 1))) (ah 133 [bk.slot Fr.s1,bk.exp (cK (V.int (Int.ofNat 3)))]))
noncomputable def zJ:bj:=ak (aM aX (aF [cK (V.str [112,111,119]),ah 134 [bk.exp (c2 aD (aH [cK (V.int (Int.ofNat 2)),cK (V.int (Int.ofNat 3)),cK (V.int (Int.ofNat 5))]) (aK bN (aG Fr.s2) (cK (V.int (Int.ofNat 1))))),bk.exp (cK (V.int (Int.ofNat 1)))],ah 134 [bk.exp (cK (V.int (Int.ofNat 1))),bk.exp (cK (V.int (Int.ofNat 2)))]])) (ak (aR (c2 aS (aG Fr.s0) (cK (V.int (Int.ofNat 0)))) (ax (aF [aH [cK (V.int (Int.ofNat 1))],aH []])) aN) (ak (aR (c2 aS (aG Fr.s0) (cK (V.int (Int.ofNat 1)))) (ax (aF [aH [aK bN (cK (V.int (Int.ofNat 0))) (c2 aD (aH [cK (V.int (Int.ofNat 2)),cK (V.int (Int.ofNat 3)),cK (V.int (Int.ofNat 5))]) (aK bN (aG Fr.s2) (cK (V.int (Int.ofNat 1))))),cK (V.int (Int.ofNat 0)),cK (V.int (Int.ofNat 1))],aH [ah 55 [bk.exp (aF [cK (V.str [112,114,111,100]),aF [ah 134 [bk.exp (aK bN (cK (V.int (Int.ofNat 0))) (cK (V.int (Int.ofNat 1)))),bk.exp (cK (V.int (Int.ofNat 1)))],aC Fr.s3]])],aC Fr.s3]])) aN) (ak (aR (c2 aS (aG Fr.s0) (cK (V.int (Int.ofNat 2)))) (ax (aF [aH [aC Fr.s2,cK (V.int (Int.ofNat 0)),cK (V.int (Int.ofNat 1))],aH []])) aN) (ak (aR (c2 aS (aG Fr.s0) (cK (V.int (Int.ofNat 3)))) (ax (aF [aH [cK (V.int (Int.ofNat 1)),cK (V.int (Int.ofNat 0)),cK (V.int (Int.ofNat 0)),cK (V.int (Int.ofNat 0)),cK (V.int (Int.ofNat 1))],aH []])) aN) (ax (bo (c2 aS (aG Fr.s0) (cK (V.int (Int.ofNat 4)))) (aF [aH [aK bN (cK (V.int (Int.ofNat 0))) (cK (V.int (Int.ofNat 2))),cK (V.int (Int.ofNat 0)),cK (V.int (Int.ofNat 0)),cK (V.int (Int.ofNat 1))],cK (V.str [108,105,109,105,116])]) (aF [aH [aK bN (cK (V.int (Int.ofNat 0))) (cK (V.int (Int.ofNat 2))),cK (V.int (Int.ofNat 0)),cK (V.int (Int.ofNat 0)),cK (V.int (Int.ofNat 0)),cK (V.int (Int.ofNat 1))],cK (V.str [108,105,109,105,116])])))))))
theorem Im:sb=aB.mk 2 (ak Ex zJ):=rfl
noncomputable def zT:bj:=gy [a0,aO] (ah 138 [bk.exp (ah 133 [bk.slot Fr.s0,bk.exp (cK (V.int (Int.ofNat 6)))]),bk.slot Fr.s0])
noncomputable def zO:bj:=bO [(aX,ag),(bz,af)] [aC Fr.s1,aH []]
noncomputable def qU:bj:=bO [(dc,ag),(gx,ag)] [aK bN (ah 133 [bk.slot Fr.s0,bk.exp (cK (V.int (Int.ofNat 5)))]) (cK (V.int (Int.ofNat 2))),aK bF (cK (V.int (Int.ofNat 1))) (ah 133 [bk.slot Fr.s0,bk.exp (cK (V.int (Int.ofNat 2)))])]
noncomputable def fk:bj:=ak (aM aX (ah 137 [bk.slot Fr.s3,bk.exp (aH [aK bN (cK (V.int (Int.ofNat 0))) (aG Fr.s6),aC Fr.s7])])) (ee Fr.s4 bz (aF [aK fw (aK bI (cK (V.int (Int.ofNat 6))) (aG Fr.s6)) (aG Fr.s7),ah 55 [bk.exp (ah 134 [bk.slot Fr.s6,bk.slot Fr.s7])]]))
noncomputable def zP:aA:=gh gJ (ah 133 [bk.slot Fr.s0,bk.exp (cK (V.int (Int.ofNat 3)))])
noncomputable def nF:bj:=ak (aM kG (cF (bQ (cg (eN.two rO vZ) (gh dK (ba nQ (aG Fr.s4))) [] (cu (aC Fr.s11)))))) (ak (aM qn (ah 135 [bk.exp (aF [cK (V.str [101,113]),ah 136 [bk.slot Fr.s3],ah 134 [bk.exp (cK (V.int (Int.ofNat 0))),bk.exp (cK (V.int (Int.ofNat 1)))]]),bk.exp (bo (c2 cR (ba cc (aG Fr.s1)) (cK (V.int (Int.ofNat 1)))) (aC Fr.s1) (aH []))])) (ax (c2 aS (aG Fr.s9) (bo (c1 gQ (aG Fr.s2)) (aC Fr.s2) (aK bF (aG Fr.s8) (aG Fr.s2))))))
theorem Il:rZ=aB.mk 1 (ak zT (ak zO (ak (cA (eN.one bR) zP (ak qU fk)) nF))):=rfl
noncomputable def zI:bj:=ak (dP Fr.s1 a0) (aR (c1 kJ (ah 139 [bk.slot Fr.s1])) (ax (cK (V.bool ag))) aN)
noncomputable def zR:bj:=aM aO (ah 140 [])
noncomputable def wR:bj:=ak (dP Fr.s1 a0) (gy [bz,bR] (c2 aD (aG Fr.s2) (ah 133 [bk.slot Fr.s1,bk.exp (ba cc (aG Fr.s2))])))
noncomputable def ui:bj:=aR (c2 dF (ah 135 [bk.slot Fr.s4,bk.exp (aH [])]) (aG Fr.s5)) (ax (cK (V.bool ag))) aN
noncomputable def zL:bj:=ak (dP Fr.s1 a0) (bO [(dc,ag),(gx,ag)] [aK bF (cK (V.int (Int.ofNat 1))) (ah 133 [bk.slot Fr.s1,bk.exp (cK (V.int (Int.ofNat 4)))]),aK bN (ah 133 [bk.slot Fr.s1,bk.exp (cK (V.int (Int.ofNat 5)))]) (cK (V.int (Int.ofNat 2)))])
noncomputable def zH:bj:=ak (aM bz (aF [cK (V.str [101,113]),aF [cK (V.str [112,114,111,100]),aF [ah 134 [bk.slot Fr.s6,bk.exp (cK (V.int (Int.ofNat 1)))],aF [cK (V.str [115,121,109]),cK (V.str [120])]]],aF [cK (V.str [115,117,109]),aF [aF [cK (V.str [112,114,111,100]),aF [ah 134 [bk.slot Fr.s7,bk.exp (cK (V.int (Int.ofNat 1)))],aF [cK (V.str [115,121,109]),cK (V.str [121])]]],ah 134 [bk.exp (aK bF (aG Fr.s6) (aG Fr.s7)),bk.exp (cK (V.int (Int.ofNat 1)))]]]])) (ak (aM kG (ah 135 [bk.slot Fr.s4,bk.exp (aH [])])) (ax (cC (c2 aS (ba cc (aG Fr.s8)) (cK (V.int (Int.ofNat 1)))) (cC (ah 132 [bk.slot Fr.s4,bk.exp (cK (V.str [120])),bk.exp (c2 aD (aG Fr.s8) (cK (V.int (Int.ofNat 0))))]) (c1 kJ (ah 132 [bk.slot Fr.s4,bk.exp (cK (V.str [120])),bk.exp (aF [cK (V.str [115,117,109]),aF [c2 aD (aG Fr.s8) (cK (V.int (Int.ofNat 0))),ah 134 [bk.exp (cK (V.int (Int.ofNat 1))),bk.exp (cK (V.int (Int.ofNat 1)))]]])]))))))
noncomputable def Ez:bj:=ak zI (ak zR (ak (cA (eN.one aX) (gh gJ (cK (V.int (Int.ofNat 2)))) (ak wR ui)) (ak zL zH)))
theorem oR:rW iW xV ((cD 141).drop 1)=aa Ez:=by kernel_rfl
end
noncomputable section
noncomputable def nE:V:=(.lst [(.tup [(.tup [(.str [101,113]),(.tup [(.str [115,121,109]),(.str [120])]),(.tup [(.str [115,121,109]),(.str [120])])]),(.str [100,111,109,97,105,110])]),(.tup [(.tup [(.str [101,113]),(.tup [(.str [110,117,109]),(.int (.ofNat 1)),(.int (.ofNat 1))]),(.tup [(.str [110,117,109]),(.int (.ofNat 2)),(.int (.ofNat 1))])]),(.lst [])]),(.tup [(.tup [(.str [110,117,109]),(.int (.ofNat 0)),(.int (.ofNat 1))]),(.str [100,111,109,97,105,110])]),(.tup [(.tup [(.str [110,117,109]),(.int (.ofNat 3)),(.int (.ofNat 2))]),(.lst [])]),(.tup [(.tup [(.str [101,113]),(.tup [(.str [115,121,109]),(.str [121])]),(.tup [(.str [115,121,109]),(.str [121])])]),(.str [100,111,109,97,105,110])]),(.tup [(.tup [(.str [101,113]),(.tup [(.str [115,121,109]),(.str [121])]),(.tup [(.str [110,117,109]),(.int (.ofNat 1)),(.int (.ofNat 1))])]),(.lst [])]),(.tup [(.tup [(.str [99,97,108,108]),(.str [115,105,110]),(.tup [(.tup [(.str [115,121,109]),(.str [120])])])]),(.str [108,105,109,105,116])]),(.tup [(.tup [(.str [112,111,119]),(.tup [(.str [115,121,109]),(.str [120])]),(.tup [(.str [115,121,109]),(.str [121])])]),(.str [108,105,109,105,116])]),(.tup [(.tup [(.str [115,117,109]),(.tup [(.tup [(.str [112,114,111,100]),(.tup [(.tup [(.str [115,121,109]),(.str [121])]),(.tup [(.str [112,111,119]),(.tup [(.str [115,121,109]),(.str [120])]),(.tup [(.str [110,117,109]),(.int (.ofNat 3)),(.int (.ofNat 1))])])])]),(.tup [(.str [110,117,109]),(.int (.ofNat 1)),(.int (.ofNat 1))])])]),(.str [108,105,109,105,116])]),(.tup [(.tup [(.str [101,113]),(.tup [(.str [112,114,111,100]),(.tup [(.tup [(.str [115,121,109]),(.str [120])]),(.tup [(.str [115,121,109]),(.str [121])])])]),(.tup [(.str [112,114,111,100]),(.tup [(.tup [(.str [115,121,109]),(.str [121])]),(.tup [(.str [115,121,109]),(.str [120])])])])]),(.str [100,111,109,97,105,110])]),(.tup [(.tup [(.str [115,117,109]),(.tup [(.tup [(.str [115,121,109]),(.str [120])]),(.tup [(.str [115,121,109]),(.str [121])])])]),(.lst [(.tup [(.str [112,114,111,100]),(.tup [(.tup [(.str [110,117,109]),(.int (.negSucc 0)),(.int (.ofNat 1))]),(.tup [(.str [115,121,109]),(.str [121])])])])])]),(.tup [(.tup [(.str [101,113]),(.tup [(.str [112,114,111,100]),(.tup [(.tup [(.str [110,117,109]),(.int (.ofNat 2)),(.int (.ofNat 1))]),(.tup [(.str [115,121,109]),(.str [120])])])]),(.tup [(.str [115,121,109]),(.str [121])])]),(.lst [(.tup [(.str [112,114,111,100]),(.tup [(.tup [(.str [110,117,109]),(.int (.ofNat 1)),(.int (.ofNat 2))]),(.tup [(.str [115,121,109]),(.str [121])])])])])])])
noncomputable def kindOf(k:Nat):V×V:=kinds.getD k (.none,.none)
noncomputable def wz(r0 r1:Nat):Fr:=aO (fill [.val (int r0),.aE]) (.val (.int (cQ (.ofNat 1) (.ofNat r1))))
noncomputable def fY(k:Nat):Fr:=bz (aX (aO (a0 (fill [.aE]) (.val (kindOf k).1)) (.val (kindOf k).2)) (.val (kindOf k).1)) (.own (.lst []))
noncomputable def turn(ρ:Fr)(i t b:Nat):Fr:=fI (eR (.ofNat t) (.ofNat 2)) λx=>fI (cQ (.ofNat 1) (.ofNat b)) λy=>gx (dc (bR ρ (.val (int i))) (.val (.int x))) (.val (.int y))
noncomputable def Ij:ai->Fr
 | .next ρ _=>ρ
 | _=>mR
noncomputable def kH:ai->Option (List V)
 | .ret (.bool af) _ p=>aa p
 | _=>ae
noncomputable def Ad(c:Call)(ρ:Fr)(p:List V):Option (List V):=match fk c ρ p with
 | .next ρ p=>kH (nF c ρ p)
 | _=>ae
noncomputable def pU(o:iC)(k t b:Nat):Fr:=Ij (fk (bw TK o 59) (turn (fY k) 0 t b) [])
noncomputable def fK(r:Nat):V×V:=match aD nE (int r)with
 | some (.tup [t,d])=>(t,d)
 | _=>(.none,.none)
noncomputable def pT(x0:V):Fr:=a0 (fill [.val x0]) .aE
end
structure gV(o:iC):Prop where
 o133:o 133=ae
 o138:o 138=ae
 o139:o 139=ae
 fac:∀r0 r1,r0<6->r1<3->∀p,(zJ (bw TK o 58) (wz r0 r1) p).res=.ok (.tup [(kindOf (tj r0 r1)).1,(kindOf (tj r0 r1)).2]) p
 l0:∀k,k<10->∀p,kH (nF (bw TK o 59) (fY k) p)=aa p
 q1:∀k t b,k<10->t<5->b<2->∀p,fk (bw TK o 59) (turn (fY k) 0 t b) p=.next (pU o k t b) p
 s0:∀k t b,k<10->t<5->b<2->Fr.s0 (pU o k t b)=.aE
 l1:∀k t b,k<10->t<5->b<2->∀p,kH (nF (bw TK o 59) (pU o k t b) p)=aa p
 l2:∀k t b t' b',k<10->t<5->b<2->t'<5->b'<2->∀p,Ad (bw TK o 59) (turn (pU o k t b) 1 t' b') p=aa p
 e1:∀x0 p,zR (bw TK o 60) (pT x0) p=.next (aO (pT x0) (.val nE)) p
 e2:∀r,r<12->∀ρ p,ui (bw TK o 60) (bR (bz ρ (.val (fK r).1)) (.val (fK r).2)) p=.next (bR (bz ρ (.val (fK r).1)) (.val (fK r).2)) p
 e3:∀a b,a<4->b<5->∀ρ p,kH (zH (bw TK o 60) (gx (dc ρ (.val (.int (cQ (.ofNat 1) (.ofNat a))))) (.val (.int (eR (.ofNat b) (.ofNat 2))))) p)=aa p
theorem nL{α β:Type}{f g:α->β}:∀{l:List α},l.map f=l.map g->∀x∈l,f x=g x
 | [],_,x,hx=>nomatch hx
 | a::l,h,x,hx=>by
  simp only[List.map_cons,List.cons.injEq]at h;rcases Jx.mp hx with rfl|hx
  ·exact h.1
  ·exact nL h.2 x hx
theorem range_all{β:Type}{f g:Nat->β}{n:Nat}(h:(List.range n).map f=(List.range n).map g){i:Nat}(hi:i<n):f i=g i:=nL h i (List.mem_range.mpr hi)
theorem Cc:∀r,r<12->aD nE (int r)=aa (.tup [(fK r).1,(fK r).2]):=λJ hr=>range_all (n:=12) (f:=λr=>aD nE (int r)) (g:=λr=>aa (.tup [(fK r).1,(fK r).2])) rfl hr
theorem DN(r0 r1:Nat)(h0:r0<6)(h1:r1<3):tj r0 r1<10:=(show ∀r0,r0<6->∀r1,r1<3->tj r0 r1<10 by decide) r0 h0 r1 h1
theorem j7{r:ai}{p:List V}(h:kH r=aa p):∃ρ,r=.ret (.bool af) ρ p:=by
 delta kH at h
 split at h
 ·obtain rfl:=Jd h;exact⟨_,rfl⟩
 ·exact nS h
theorem BF{r:ai}{l:List V}{p:List V}(h:r.res=.ok (.tup l) p):∃ρ,r=.ret (.tup l) ρ p:=by
 induction r using ai.casesOn with
 | ret v ρ q=>
  have h:Res.ok v q=.ok (.tup l) p:=h;injection h with zq1 zq2;(try subst zq1);(try subst zq2);exact⟨_,rfl⟩
 | next ρ q=>have h:Res.ok V.none q=.ok (.tup l) p:=h;exact(nomatch h)
 | stuck=>exact(nomatch (show Res.stuck=.ok (.tup l) p from h))
 | brk=>exact(nomatch (show Res.stuck=.ok (.tup l) p from h))
 | cont=>exact(nomatch (show Res.stuck=.ok (.tup l) p from h))
 | exc k ρ q=>exact(nomatch (show Res.exc k q=.ok (.tup l) p from h))
theorem Good.up{b b':Nat}{p:List V}(h:Good b p)(hb:b<=b')(hb':b'<1000):Good b' p:=let ⟨is,k,c,e,h1,_⟩:=h;(iG is k c e (by exact JF h1 hb) hb')
section
variable{o:iC}{b:Nat}{p:List V}
theorem i0:TK.get 133=aa qg:=rfl
theorem CT:TK.get 138=aa sb:=rfl
theorem CS:TK.get 139=aa rZ:=rfl
theorem lM{c:Call}{g:d6}{ρ:Fr}{m r:Nat}{p p':List V}(hg:g ρ=.aE)(h:c 133 [.aE,.val (int m)] p=.ok (int r) p'):ah 133 [.slot g,.exp (cK (int m))] c ρ p=.ok (int r) p':=
 (mh (ky hg (nj rfl rfl))).trans h
theorem zd(L:gV o)(hp:Good b p)(hb:b+1<1000){r0:Nat}(h0:r0<6):∃k p',k<10/\Good (b+1) p'/\bw TK o 59 138 [.val (int r0),.aE] p=.ok (.tup [(kindOf k).1,(kindOf k).2]) p':=by
 refine aW (pick i0 L.o133 hp hb (m:=3) (by decide)) λr1 p₁ h1 g1 e1=>?_;refine aw (BF (L.fac r0 r1 h0 h1 p₁)) λρ' e2=>?_;refine bX (tj r0 r1) p₁ (DN r0 r1 h0 h1) g1 (kq (ρ':=ρ') L.o138 (Im▸CT) rfl ?_);skip;refine(bZ (ρ':=wz r0 r1) (p₁:=p₁) ?_).trans e2;delta Ex;simp only[fh,eM,fi,fR];exact BD (v:=.int (cQ (.ofNat 1) (.ofNat r1))) (eZ (a:=int 1) (b:=int r1) rfl (lM (m:=3) rfl (e1 57)) rfl)
theorem my(L:gV o)(hp:Good b p)(hb:b+2<1000)(ρ:Fr)(hρ:Fr.s0 ρ=.aE)(i:Nat):∃t u p',t<5/\u<2/\Good (b+2) p'/\qU (bw TK o 59) (bR ρ (.val (int i))) p=.next (turn ρ i t u) p':=by
 refine aW (pick i0 L.o133 hp (JA hb) (m:=5) (by decide)) λt p₁ h1 g1 e1=>?_;refine aW (pick i0 L.o133 g1 (hb) (m:=2) (by decide)) λu bg h2 g2 e2=>?_;refine kC t u bg h1 h2 g2 ?_;delta qU turn;simp only[fh,eM,fi,fR,wC];have hρ':Fr.s0 (bR ρ (.val (int i)))=.aE:=by induction ρ using Fr.casesOn;exact hρ
 exact qo (m:=[.int (eR (.ofNat t) (.ofNat 2)),.int (cQ (.ofNat 1) (.ofNat u))]) (d3 (eZ (a:=int t) (b:=int 2) (lM (m:=5) hρ' (e1 58)) rfl rfl) (d3 (eZ (a:=int 1) (b:=int u) rfl (lM (m:=2) hρ' (e2 58)) rfl) kr)) rfl
theorem vJ(L:gV o)(hp:Good b p)(hb:b+7<1000):∃p',Good (b+7) p'/\bw TK o 60 139 [.aE] p=.ok (.bool af) p':=by
 refine aW (pick i0 L.o133 hp (JE (JG (by decide) _) hb) (m:=6) (by decide)) λr0 IM h0 g0 e0=>?_;refine aW (zd L g0 (by lia) h0) λk p₁ hk g1 e1=>?_;refine aW (pick i0 L.o133 g1 (by lia) (m:=3) (by decide)) λj bg hj g2 e2=>?_;have hA:zT (bw TK o 59) (fill [.aE]) p=.next (aO (a0 (fill [.aE]) (.val (kindOf k).1)) (.val (kindOf k).2)) p₁:=by
  delta zT;exact uI (v:=.tup [(kindOf k).1,(kindOf k).2]) ((mh (nj (lM (m:=6) rfl (e0 58)) (ky rfl rfl))).trans e1) rfl rfl
 have hI:zO (bw TK o 59) (aO (a0 (fill [.aE]) (.val (kindOf k).1)) (.val (kindOf k).2)) p₁=.next (fY k) p₁:=by
  delta zO;exact qo (m:=[(kindOf k).1,.lst []]) (d3 rfl (d3 rfl kr)) rfl
 have hF:∀ρ' p',forL (.one bR) (ak qU fk) (bw TK o 59) (cE j (.ofNat 0)) (fY k) bg=.next ρ' p'->cA (eN.one bR) zP (ak qU fk) (bw TK o 59) (fY k) p₁=.next ρ' p':=λρ' p' h=>by
  have hs:i4 (.ofNat j)=af:=by show Nat.blt j lid=af;rw[blt_dec];exact decide_eq_true (by show j<3000;exact JF hj (by decide))
  refine(uL (v:=.lst (cE j (.ofNat 0))) (m:=cE j (.ofNat 0)) ?_ rfl).trans h;delta zP;simp only[fh,eM,fi,fR];refine nU (a:=int j) (lM (m:=3) rfl (e2 58)) ?_;show(@Jp (λJ=>Option V) ae (aa (V.lst (cE j (.ofNat 0)))) (i4 (.ofNat j)))=_;rw[hs]
 have fin:∀ρ' p' ρ'' p'',Good (b+7) p''->forL (.one bR) (ak qU fk) (bw TK o 59) (cE j (.ofNat 0)) (fY k) bg=.next ρ' p'->nF (bw TK o 59) ρ' p'=.ret (.bool af) ρ'' p''->∃p',Good (b+7) p'/\bw TK o 60 139 [.aE] p=.ok (.bool af) p':=λρ' p' ρ'' p'' g h hD=>by
  refine au p'' g (kq (ρ':=ρ'') L.o139 (Il▸CS) rfl ?_);skip;exact(bZ hA).trans ((bZ hI).trans ((bZ (hF ρ' p' h)).trans hD))
 match j,hj with
 | 0,_=>
  refine aw (j7 (L.l0 k hk bg)) λρ'' e=>?_;exact fin (fY k) bg ρ'' bg (g2.up (by lia) hb) lW e
 | 1,_=>
  refine d9 (my L g2 (by lia) (fY k) rfl 0) λt u iL ht hu g3 e3=>?_;have q:=L.q1 k t u hk ht hu iL;refine aw (j7 (L.l1 k t u hk ht hu iL)) λρ'' e=>?_;exact fin (pU o k t u) iL ρ'' iL (g3.up (by lia) hb) ((ja ((bZ e3).trans q)).trans lW) e
 | 2,_=>
  refine d9 (my L g2 (by lia) (fY k) rfl 0) λt u iL ht hu g3 e3=>?_;have q:=L.q1 k t u hk ht hu iL;have hpen:Fr.s0 (pU o k t u)=.aE:=by
   have h:=L.s0 k t u hk ht hu;exact h
  refine d9 (my L g3 (hb) (pU o k t u) hpen 1) λt' u' sI ht' hu' g4 e4=>?_;have h2:=L.l2 k t u t' u' hk ht hu ht' hu' sI;unfold Ad at h2;induction hq:fk (bw TK o 59) (turn (pU o k t u) 1 t' u') sI using ai.casesOn with
  | next ρ2 sH=>
   rw[hq]at h2;refine aw (j7 h2) λρ'' e=>?_;exact fin ρ2 sH ρ'' sI (g4.up (Nat.le_refl _) hb) ((ja ((bZ e3).trans q)).trans ((ja ((bZ e4).trans hq)).trans lW)) e
  | _=>rw[hq]at h2;exact nS h2
end
end
section
open PySem PySem.Calls PyProof.Rows
section
variable{o:iC}{b:Nat}{p:List V}
theorem C6(ρ:Fr)(v:Slot):Fr.s1 (aX ρ v)=Fr.s1 ρ:=by induction ρ using Fr.casesOn;rfl
theorem C5(ρ:Fr)(v:Slot):Fr.s2 (aX ρ v)=Fr.s2 ρ:=by induction ρ using Fr.casesOn;rfl
theorem Bz(ρ:Fr)(v w:Slot):Fr.s1 (bR (bz ρ v) w)=Fr.s1 ρ:=by induction ρ using Fr.casesOn;rfl
theorem By(ρ:Fr)(v w:Slot):Fr.s2 (bR (bz ρ v) w)=Fr.s2 ρ:=by induction ρ using Fr.casesOn;rfl
theorem ru(L:gV o)(hp:Good b p)(hb:b+1<1000){ρ:Fr}(h1:Fr.s1 ρ=.aE)(h2:Fr.s2 ρ=.val nE):∃ρ' p',Fr.s1 ρ'=.aE/\Fr.s2 ρ'=.val nE/\Good (b+1) p'/\ak wR ui (bw TK o 60) ρ p=.next ρ' p':=by
 refine aW (pick i0 L.o133 hp hb (m:=12) (by decide)) λr p₁ hr g1 e1=>?_;refine d8 (bR (bz ρ (.val (fK r).1)) (.val (fK r).2)) p₁ ((Bz ..).trans h1) ((By ..).trans h2) g1 ((bZ ?_).trans (L.e2 r hr ρ p₁));unfold wR;simp only[fh,eM,fi,fR];refine(bZ (qK h1)).trans ?_;refine uI (v:=.tup [(fK r).1,(fK r).2]) (m:=[(fK r).1,(fK r).2]) ?_ rfl rfl;have bor:∀c p,aG Fr.s2 c ρ p=.ok nE p:=λc p=>by
  show(@Slot.rec (λJ=>Res) _ _ _ _ (Fr.s2 ρ))=_;rw[h2]
 refine eZ (a:=nE) (b:=int r) (bor _ _) ?_ (Cc r hr);refine(mh (l:=[.aE,.val (int 12)]) (ky h1 (nj (nU (bor _ _) rfl) rfl))).trans (e1 59)
theorem y0(L:gV o)(hp:Good b p)(hb:b+11<1000)(x0:V):∃ρ' p',Ez (bw TK o 60) (pT x0) p=.ret (.bool af) ρ' p':=by
 refine aj (vJ L hp (JE (JG (by decide) _) hb)) λp₁ g1 e1=>?_;have hW:zI (bw TK o 60) (pT x0) p=.next (pT x0) p₁:=by
  unfold zI;refine(bZ (qK rfl)).trans ((Ab (p₁:=p₁) ?_).trans rfl);exact nU (a:=.bool af) ((mh (l:=[.aE]) (ky rfl rfl)).trans e1) rfl
 refine dO (ru L g1 (by lia) (ρ:=aX (aO (pT x0) (.val nE)) (.val (int 0))) rfl rfl) λρ1 bg a1 a2 g2 e2=>?_;refine dO (ru L g2 (by lia) (ρ:=aX ρ1 (.val (.int (cQ (.ofNat 0) (.ofNat 1))))) ((C6 ..).trans a1) ((C5 ..).trans a2)) λρ2 iL b1 b2 g3 e3=>?_;have hF:cA (eN.one aX) (c1 gJ (cK (V.int (Int.ofNat 2)))) (ak wR ui) (bw TK o 60) (aO (pT x0) (.val nE)) p₁=.next ρ2 iL:=
  (uL (v:=.lst (cE 2 (.ofNat 0))) (m:=cE 2 (.ofNat 0)) (nU (a:=int 2) rfl rfl) rfl).trans ((ja e2).trans ((ja e3).trans lW))
 refine aW (pick i0 L.o133 g3 (JA hb) (m:=4) (by decide)) λa sI ha g4 e4=>?_;refine aW (pick i0 L.o133 g4 (hb) (m:=5) (by decide)) λc sH hc g5 e5=>?_;have hN:zL (bw TK o 60) ρ2 iL=.next (gx (dc ρ2 (.val (.int (cQ (.ofNat 1) (.ofNat a))))) (.val (.int (eR (.ofNat c) (.ofNat 2))))) sH:=by
  unfold zL;simp only[fh,eM,fi,fR];refine(bZ (qK b1)).trans ?_;exact qo (m:=[.int (cQ (.ofNat 1) (.ofNat a)),.int (eR (.ofNat c) (.ofNat 2))]) (d3 (eZ (a:=int 1) (b:=int a) rfl (lM (m:=4) b1 (e4 59)) rfl) (d3 (eZ (a:=int c) (b:=int 2) (lM (m:=5) b1 (e5 59)) rfl rfl) kr)) rfl
 refine aw (j7 (L.e3 a c ha hc ρ2 sH)) λρ' e=>?_;refine fU ρ' sH ?_;unfold Ez;simp only[fh,eM,fi,fR];exact(bZ hW).trans ((bZ (L.e1 x0 p₁)).trans ((bZ hF).trans ((bZ hN).trans e)))
theorem oy:∀is:List Int,allInts (is.map V.int)=aa is
 | []=>rfl
 | i::r=>by
  show(match allInts (r.map V.int)with|some l=>aa (i::l)|none=>ae)=_
  rw[oy r]
theorem yK(o:iC)(n:Nat)(is:List Int):∃L,Bc (bw TK o n) (fill [.val (.lst (is.map V.int))]) []=.ok (.lst L) []/\Good 0 L:=by
 have hs:∀c,dp (aG Fr.s0) ae (aa (cK (.int (.ofNat 30)))) c (fill [.val (.lst (is.map V.int))]) []=.ok (.lst ((is.take (jZ (is.length) (.ofNat 30))).map V.int)) []:=λc=>by
  show Res.ok (V.lst (mH (is.map V.int) ae (aa (.ofNat 30)))) []=_;have:mH (is.map V.int) ae (aa (.ofNat 30))=(is.take (jZ (is.length) (.ofNat 30))).map V.int:=by
   show nP (pn (is.map V.int) (jZ (dA (is.map V.int)) (.ofNat 30))) 0=_;rw[l9,oH,cj,Jv,List.drop_zero,List.map_take]
  rw[this]
 refine au ([.lst ((is.take (jZ (is.length) (.ofNat 30))).map V.int),.int (.ofNat 0),.int (qF (lD (is.take (jZ (is.length) (.ofNat 30))) (.ofNat 0)) (.ofNat 997))]) ?_ (iG _ 0 _ rfl (Nat.le_refl _) (by decide));unfold Bc;simp only[fh,eM,fi,fR];have hl:bB [c1 d0 (dp (aG Fr.s0) ae (aa (cK (.int (.ofNat 30))))),cK (.int (.ofNat 0)),c2 gA (c1 sumF (dp (aG Fr.s0) ae (aa (cK (.int (.ofNat 30)))))) (cK (.int (.ofNat 997)))] (bw TK o n) (fill [.val (.lst (is.map V.int))]) []=.ok [.lst ((is.take (jZ (is.length) (.ofNat 30))).map V.int),.int (.ofNat 0),.int (qF (lD (is.take (jZ (is.length) (.ofNat 30))) (.ofNat 0)) (.ofNat 997))] []:=
  d3 (nU (hs _) rfl) (d3 rfl (d3 (eZ (a:=.int (lD (is.take (jZ (is.length) (.ofNat 30))) (.ofNat 0))) (b:=.int (.ofNat 997)) (nU (hs _) (by show(match allInts _ with|some is=>aa (V.int (lD is (.ofNat 0)))|none=>ae)=_;rw[oy])) rfl rfl) kr))
 show(@aI.rec (λJ=>Res) Res.stuck (λl p=>Res.ok (V.lst l) p) Res.exc (bB _ _ _ _))=_;rw[hl]
end
section
variable{mg mb:Str->Option IZ}{s:IY}{A:I0}{Q E:IZ->IY->Prop}
theorem xE{o:iC}(H:iD C mg mb)(L:gV o)(hO:nX C o){is:List Int}{val:IZ}(P:bp C 61 (λJ=>False) (λJ=>False) [] A s)(hv:aq C (λJ=>False) s.heap (.lst (is.map .int)) val)
  (hQ:∀s' X,Base C s'.heap->cX C X s'.heap->s'.gens=s.gens->s'.os=s.os->Q (.bool af) s'):wpAny (model C.prog C.w) A (PySem.call (.ref (C.fa 141)) [val]) Q E s:=by
 refine aj (yK o 60 is) λL1 hD g=>?_;refine dX (y0 L g (by decide) (.lst (is.map V.int))) λρ' p' e=>?_;exact y1 H oR (yv H.W.cls H.W.nolimit (CY H) hO 60) P hv hD e hQ
end
noncomputable section
noncomputable def IC:Nat:=671658207890674595901593179604875028908389448864690613652964626622138612794650732753739493556249177765206970686997925019747695238392817905534874143896229899323243075090106115523640306308737304071140690052118938669694286966114042755889795330628313295998325695345100697643125851463807524184371478785491550272669161659736160684879070891815620562180990172760944037277623038459220388620078999977827421726222808224150124335815540648870914505167395693796360728310571101089921981968027712
noncomputable def G1(f:Nat):Nat:=Nat.mod (Nat.shiftRight IC (Nat.mul 12 f)) 4096
noncomputable def Ac(f:Nat):Nat:=Nat.div (G1 f) 64
noncomputable def uN(f:Nat):Nat:=Nat.mod (G1 f) 64
noncomputable def Dd(T:Tab)(o:iC)(f n:Nat)(args:List Slot):Option V:=
 @Jp (λJ=>Option V) Option.none (@Jp (λJ=>Option V) (@Res.rec (λJ=>Option V) Option.none (λv J=>aa v) (λJ J=>Option.none) (bw T o (Nat.succ (uN f)) f args [])) Option.none (lk args)) (Nat.ble (uN f) n)
noncomputable def uM(T:Tab)(r:Nat):iC:=
 @Jy (λJ=>iC) (λJ=>Option.none) (λr ih f=>@Jp (λJ=>Option (Nat->List Slot->Option V)) (ih f) (aa (Dd T ih f)) (Nat.beq (Ac f) (Nat.succ r))) r
end
section
variable{mg mb:Str->Option IZ}
theorem xk(H:iD C mg mb):∀r,nX C (uM TK r)
 | 0=>λJ J h=>by exact nS h
 | r+1=>λf g h=>by
  have ih:=xk H r;have e:uM TK (r+1) f=@Jp (λJ=>Option (Nat->List Slot->Option V)) (uM TK r f) (aa (Dd TK (uM TK r) f)) (Nat.beq (Ac f) (Nat.succ r)):=rfl;rw[e]at h;refine kY (Nat.beq (Ac f) (Nat.succ r)) (λhb=>?_) λhb=>?_
  ·rw[hb]at h;exact ih f g h
  ·
   rw[hb]at h;obtain rfl:=Jd h;refine⟨λfd cs hl=>?_,?_⟩
   ·refine ao (H.lam f fd cs hl) λz0 zz=>?_;clear e h hl;subst z0;have:Ac 142=0:=by decide +kernel
    rw[this]at hb;exact fT hb
   ·intro n args v hv p X Pn s A vals Q E hd P ha hQ;unfold Dd at hv;induction h1:Nat.ble (uN f) n using Bool.casesOn with
    | false=>rw[h1]at hv;exact nS hv
    | true=>
     rw[h1]at hv;induction h2:lk args using Bool.casesOn with
     | true=>rw[h2]at hv;exact nS hv
     | false=>
      rw[h2]at hv;have P':bp C (uN f+1) X (λJ=>False) [] A s:={ P.rR with room:=⟨P.room.handled,by have:=P.room.depth;have:=Nat.le_of_ble_eq_true h1;lia,by have:=P.room.units;have:=Nat.le_of_ble_eq_true h1;lia⟩ };refine(yv H.W.cls H.W.nolimit (CY H) ih (uN f+1)).def_ f args [] X (λJ=>False) s A vals Q E hd P' (lN h2 ha) ?_;induction h3:bw TK (uM TK r) (uN f+1) f args []using Res.casesOn with
      | stuck=>rw[h3]at hv;exact nS hv
      | exc k q=>rw[h3]at hv;exact nS hv
      | ok u q=>
       rw[h3]at hv;obtain rfl:=Jd hv;refine⟨(λq=>nomatch q),λv p' e val s' hn J hr=>?_,λJ J e=>nomatch e⟩;(injection e with h9;subst h9);exact hQ val s' (hn.grow λJ q=>q.elim) (kX P hn) hr
end
theorem fj{α:Type}{o:Option α}{f:α->Bool}(h:fC o f=af):∃x,o=aa x/\f x=af:=by
 induction o using Option.casesOn with
 | none=>exact fT h
 | some x=>exact au x rfl h
theorem DX{a b:V}(h:DY a b=af):a=b:=by
 refine aj (fj h) λr e q=>?_;have q:r=af:=q;have no:∀{u v:List V},lu (dw 0) u v=aa af->u=v:=λ{u v} e=>by
  induction u using List.casesOn<;>induction v using List.casesOn<;>first|rfl|exact nS e|exact fT (Jd e)
 revert q;refine eqV_inv a b r e (λJ=>rfl) (λJ=>fT) (λu v q=>?_) (λu v q=>congrArg V.int ((qG _ _).mp q)) (λu v q=>congrArg V.str ((jz _ _).mp q)) (λJ=>fT) (λu v r e q=>congrArg V.tup (no (q▸e))) λu v r e q=>?_
 ·induction u using Bool.casesOn<;>induction v using Bool.casesOn<;>first|rfl|exact fT q
 ·subst q;exact(gi e).elim (λz=>congrArg V.lst (no z.2)) λz=>fT (Jd z.2)
theorem qs{x:IZ}{a:I1}(h:qt x=aa a):x=.ref a:=by
 induction x using Value.casesOn<;>first|exact nS h|exact congrArg Value.ref (Jd h)
theorem zF{h:Heap}{x:IZ}{v:V}(e:wQ x=aa v):aq C (λJ=>False) h v x:=by
 induction x using Value.casesOn with
 | none=>obtain rfl:=Jd e;dsimp only[aq]
 | bool b=>obtain rfl:=Jd e;dsimp only[aq]
 | int i t=>obtain rfl:=Jd e;dsimp only[aq];exact⟨t,rfl⟩
 | str s t=>obtain rfl:=Jd e;dsimp only[aq];exact gw s t rfl rfl
 | _=>exact nS e
theorem BA{T:String}{o:Obj}{l:List IZ}(h:v5 T o=aa l):∃n,o={ cls:=.type T,data:=.seq l.toArray n }/\l.length<=8000:=by
 obtain⟨c,x,d,sl⟩:=o;induction c using Value.casesOn with
 | type c=>
  induction x using Option.casesOn with
  | some=>exact nS h
  | none=>
   induction d using Data.casesOn with
   | seq vs n=>
    refine ao (cL h) λe q=>?_;obtain rfl:=Jd q;simp only[Jn,beq_iff_eq,Nat.ble_eq]at e;obtain rfl:=e.1.1;obtain rfl:=Array.eq_empty_of_size_eq_zero e.1.2;exact au n rfl e.2
   | _=>exact nS h
 | _=>exact nS h
section
variable{h:Heap}
theorem BG{v:V}{x:IZ}(e:(fC (wQ x) λy=>DY y v)=af):aq C (λJ=>False) h v x:=
 aj (fj e) λJ h1 h2=>(DX h2)▸zF h1
theorem uQ{T:String}{l:List V}{x:IZ}{f:List IZ->Bool}(e:(fC (qt x) λa=>fC (h.get? a) λo=>fC (v5 T o) f)=af):∃a vs n,x=.ref a/\h.get? a=aa { cls:=.type T,data:=.seq vs.toArray n }/\vs.length<=8000/\f vs=af:=
 aj (fj e) λa h1 e=>aj (fj e) λJ h2 e=>aj (fj e) λvs h3 e=>aj (BA h3) λn h4 h5=>kC a vs n (qs h1) (h4▸h2) h5 e
mutual
theorem qq:∀(n:Nat)(v:V)(x:IZ),oK h n v x=af->aq C (λJ=>False) h v x
 | 0,v,x,e=>by unfold oK at e;exact fT e
 | n+1,v,x,e=>by
  unfold oK at e;induction v using V.casesOn with
  | tup l=>
   refine d9 (uQ (l:=l) e) λa vs k z0 h1 h2 h3=>?_;subst z0;dsimp only[aq];exact d8 a vs rfl id ⟨h2,k,h1⟩ (jM n l vs h3)
  | lst l=>
   refine d9 (uQ (l:=l) e) λa vs k z0 h1 h2 h3=>?_;subst z0;dsimp only[aq];exact d8 a vs rfl id ⟨h2,k,h1⟩ (jM n l vs h3)
  | bh=>exact fT e
  | clo=>exact fT e
  | _=>exact BG e
theorem jM:∀(n:Nat)(l:List V)(vs:List IZ),ie h n l vs=af->av C (λJ=>False) h l vs
 | 0,l,vs,e=>by delta ie at e;exact fT e
 | n+1,l,vs,e=>by
  unfold ie at e;induction l using List.casesOn with
  | nil=>
   induction vs using List.casesOn with
   | nil=>dsimp only[av]
   | cons=>exact fT e
  | cons v l=>
   induction vs using List.casesOn with
   | nil=>exact fT e
   | cons x vs=>
    have e:(oK h n v x&&ie h n l vs)=af:=e;rw[Jn]at e;dsimp only[av];exact bX x vs rfl (qq n v x e.1) (jM n l vs e.2)
end
end
set_option tactic.hygienic true
theorem BH{v:Option IZ}{a:I1}(h:yF v a=af):v=aa (.ref a):=by
 delta yF at h
 split at h
 ·rename_i b;rw[Nat.eq_of_beq_eq_true h]
 ·exact fT h
theorem tI{o:Obj}{fd:FuncData}(h:nN o=aa fd):o.data=.func fd:=by
 unfold nN at h;generalize o.data=d at h ⊢;induction d using Data.casesOn<;>first|exact nS h|exact congrArg Data.func (Jd h)
set_option tactic.hygienic false
theorem wB{o:Obj}{vs:Array IZ}(h:qM o=aa vs):o.data=.fields vs:=by
 unfold qM at h;generalize o.data=d at h ⊢;induction d using Data.casesOn<;>first|exact nS h|exact congrArg Data.fields (Jd h)
theorem Bp{v:IZ}{x:Str}(h:C0 v=aa x):∃t,v=.str x t:=by
 induction v using Value.casesOn<;>first|exact nS h|exact⟨_,by rw[Jd h]⟩
theorem t7{h:Heap}{cd:IZ}{q:Str}(e:wL h.get? cd=aa q):h.CodeRec cd q:=by
 refine aj (ob e) λc h1 e=>?_;refine aj (ob e) λo h2 e=>?_;refine aj (ob e) λvs h3 e=>?_;refine aj (ob e) λv h4 e=>?_;exact aw (Bp e) λt z=>vF c o vs t (qs h1) h2 (wB h3) (z▸h4)
theorem zx{h:Heap}{cd:IZ}{q:Str}(e:codeB h cd q=af):h.CodeRec cd q:=
 aj (fj e) λx h1 h2=>t7 (of_decide_eq_true h2▸h1)
theorem zo {o:Obj} {l:List I2} (h:Ar o=aa l):∃n,o={ cls:=.type "dict",data:=.dict l.toArray n }:=by
 obtain⟨c,x,d,sl⟩:=o;induction c using Value.casesOn with
 | type c=>
  induction x using Option.casesOn with
  | some=>exact nS h
  | none=>
   induction d using Data.casesOn with
   | dict es n=>
    refine ao (cL h) λe q=>?_;obtain rfl:=Jd q;simp only[Jn,beq_iff_eq]at e;obtain rfl:=e.1;obtain rfl:=Array.eq_empty_of_size_eq_zero e.2;exact⟨n,rfl⟩
   | _=>exact nS h
 | _=>exact nS h
theorem yI:jN=.bh jO sF:=by kernel_rfl
theorem v9:(jO.all λk=>keyOk 8 k)=af:=by decide +kernel
theorem yH{h:Heap}{v:Option IZ}(e:xl h v=af)(eh:mK h v=bq C.w jO):∃val,v=aa val/\aq C (λJ=>False) h jN val:=by
 refine aj (fj e) λx z0 e1=>?_;refine aj (fj e1) λa h1 e2=>?_;refine aj (fj e2) λo h2 e3=>?_;refine aj (fj e3) λes h3 e4=>?_;refine aw (zo h3) λn h4=>?_;have h1:=qs h1;clear h3 e e1 e2 e3;subst z0 h1 h4;have e:((!(a==sysModules)&&Nat.ble es.length 8000&&ie h 20 jO (es.map (·.key)))&&ie h 20 sF (es.map (·.val)))=af:=e4;clear e4;simp only[Jn,Nat.ble_eq,Bool.not_eq_true']at e;refine au _ rfl ?_;rw[yI];dsimp only[aq];refine CH a es rfl id ⟨⟨e.1.1.1,e.1.1.2⟩,n,h2⟩ (jM _ _ _ e.1.2) (jM _ _ _ e.2) ?_ (λk hk=>List.all_eq_true.mp v9 k hk);delta mK at eh;dsimp only at eh;rw[h2]at eh;exact eh
structure YPs(w:World)(mg:Str->Option IZ)(h:Heap):Prop where
 sys:∃o,h.get? sysModules=aa o
 sysns:∃m,h.Ns sysModules m
 cf:mg "CasFail" = aa (.ref 31)
 K:h.get? 31=aa t8
 N:∃mN,h.Ns 30 mN/\mN "__init__" = aa (.ref 28)/\mN "__setattr__" = ae/\mN "kind" = ae/\mN "text" = ae/\mN "__getattribute__" = ae/\mN "__getattr__" = ae
 I:∃oI fd,h.get? 28=aa oI/\oI.cls=.type "function" /\ oI.data=.func fd/\oz h fd (.stmts jW) (["self","kind","text"]:List Str) fl
 free:∀x∈("Exception" : Str)::el,mg x=ae
 consts:∀x v,eE.lookup x=aa v->x≠("RANKS" : Str)->∃val,mg x=aa val/\aq C (λJ=>False) h v val
 ranks:∃val,mg "RANKS" = aa val/\(C.w=w->aq C (λJ=>False) h jN val)
theorem xw{h:Heap}{a:I1}{m m':Str->Option IZ}(x:h.Ns a m)(y:h.Ns a m'):m=m':=by
 refine d9 x λo es ep e hd zz hf=>?_;refine d9 y λo' es' ep' e' hd' zz hf'=>?_;rw[e]at e';obtain rfl:=Jd e';rw[hd]at hd';(injection hd' with h9;clear zz;subst h9);funext n;rw[← hf n,← hf' n]
theorem tT:defs=iz.map λd=>(d.1,d.2.1.args.map (·.arg),d.2.2.1,d.2.2.2):=by kernel_rfl
noncomputable def xr(d:Str×Arguments×Jc×List Stmt):Bool:=!d.2.2.1.isCoroutine&&!d.2.2.1.isGenerator&&d.2.2.1.kind==.function&&d.2.1.posonlyargs.isEmpty&&d.2.1.kwonlyargs.isEmpty&&d.2.1.vararg.isNone&&d.2.1.kwarg.isNone
theorem ux:(iz.all xr)=af:=by decide +kernel
noncomputable def codeS(s:Str):Nat:=s.cps.toList.foldr (λc a=>a*1114113+(c+1)) 0
theorem zN:(KL.map codeS).Pairwise (·≠·):=by decide +kernel
theorem zM:KL.Nodup:=List.Pairwise.of_map codeS (λa b h e=>h (by rw[e])) zN
theorem CB:PS.map (λj=>KL[j]?)=iz.map λd=>aa d.1:=by kernel_rfl
theorem Cy:PS.map (λj=>VL[j]?)=AD.map λa=>aa (aa (.inl a)):=by kernel_rfl
theorem Cz:GP.map (λj=>KL[j]?)=eE.map λx=>aa x.1:=by kernel_rfl
theorem GZ:KL[9]?=aa ("CasFail" : Str):=by kernel_rfl
theorem GY:VL[9]?=aa (aa (.inl 31)):=by kernel_rfl
theorem o9:KL[wa]?=aa ("RANKS" : Str):=by kernel_rfl
theorem uh:VL[wa]?=aa (aa (.inl jw)):=by kernel_rfl
theorem CA:((("Exception" : Str)::el).all λx=>!(KL.map codeS).contains (codeS x))=af:=by decide +kernel
theorem F5:AD.length=142:=rfl
structure x9(w:World)(mg:Str->Option IZ)(h:Heap):Prop extends YPs w mg h where
 fns:∀i,i<142->∃a o fd,mg (iy i)=aa (.ref a)/\h.get? a=aa o/\o.data=.func fd/\oz h fd (.stmts (cD i)) (gF i) ((lx i).names)/\fd.qualname=iy i
set_option tactic.hygienic true
theorem vf:∀(es:List I2)(ks:List Str),es.map jV=ks.map aa->ks.Nodup->∀(j:Nat)(x:Str),ks[j]?=aa x->∃e,es[j]?=aa e/\es.find? (λe=>e.key.isStr x)=aa e
 | [],[],_,_,j,x,hx=>by simp at hx
 | [],_::_,h,_,_,_,_=>by simp at h
 | _::_,[],h,_,_,_,_=>by simp at h
 | e::es,k::ks,h,hn,j,x,hx=>by
  simp only[List.map_cons,List.cons.injEq]at h;refine ao h λh1 h2=>?_;rw[List.nodup_cons]at hn;have hk:∃t,e.key=.str k t:=by
   unfold jV at h1
   split at h1
   ·rename_i n t hkey;clear hn hx h;obtain rfl:=Jd h1;exact⟨t,hkey⟩
   ·exact nS h1
  refine aw hk λt hk=>?_;induction j using Nat.casesOn with
  | zero=>
   simp at hx;subst hx;exact au e rfl (by rw[List.find?_cons,hk];simp[Value.isStr])
  | succ j=>
   simp only[List.getElem?_cons_succ]at hx;refine aj (vf es ks h2 hn.2 j x hx) λe' a1 a2=>?_;refine au e' (by simpa using a1) ?_;have hne:k≠x:=λq=>hn.1 (q▸List.mem_of_getElem? hx);rw[List.find?_cons,hk];have:Value.isStr (.str k t) x=ag:=by simp[Value.isStr,hne]
   rw[this];exact a2
theorem find_none:∀(es:List I2)(ks:List Str),es.map jV=ks.map aa->∀(x:Str),x∉ks->es.find? (λe=>e.key.isStr x)=ae
 | [],_,_,x,_=>rfl
 | _::_,[],h,_,_=>by simp at h
 | e::es,k::ks,h,x,hx=>by
  simp only[List.map_cons,List.cons.injEq]at h;refine ao h λh1 h2=>?_;rw[Jx,not_or]at hx;have hk:∃t,e.key=.str k t:=by
   unfold jV at h1
   split at h1
   ·rename_i n t hkey;clear hx h;obtain rfl:=Jd h1;exact⟨t,hkey⟩
   ·exact nS h1
  refine aw hk λt hk=>?_;rw[List.find?_cons,hk];have:Value.isStr (.str k t) x=ag:=by simp[Value.isStr,Ne.symm hx.1]
  rw[this];exact find_none es ks h2 x hx.2
theorem Cw:((VL.zipIdx).all λp=>!(p.1==aa (.inl jw))||p.2==wa)=af:=by decide +kernel
theorem Ey {j:Nat} {x:Str} (hx:KL[j]?=aa x) (hv:VL[j]?=aa (aa (.inl jw))):x=("RANKS" : Str):=by
 have hm:(aa (.inl jw),j)∈VL.zipIdx:=List.mem_iff_getElem?.mpr ⟨j,by rw[List.getElem?_zipIdx,hv];simp⟩;have:=List.all_eq_true.mp Cw _ hm;simp at this;have this:=this.resolve_left (by decide);clear hv hm;subst this;rw[o9]at hx;obtain rfl:=Jd hx;rfl
set_option tactic.hygienic false
theorem zf{h:Heap}{mg:Str->Option IZ}(hg:h.Ns I4 mg):∀x,mg x=((eL h).find? (λe=>e.key.isStr x)).map (·.val):=by
 refine d9 hg λo es ep e hd hk hf=>?_;intro x;rw[← hf x];have:eL h=es.toList:=by unfold eL;rw[e];dsimp only;rw[hd]
 rw[this];show(es.find? _).map _=_;rw[← Array.find?_toList]
set_option tactic.hygienic true
theorem CF{w:World}{s:IY}(e:fs s=eJ w):x9 w (s.heap.nsMap I4) s.heap:=by
 have e1:nM s.heap=af:=congrArg Prod.fst e;have e2:s.heap.get? 31=aa t8:=congrArg (λx=>x.2.1) e;have e3:(s.heap.get? 28).bind tL=aa oV:=congrArg (λx=>x.2.2.1) e;have e4:mK s.heap (aa (.ref jw))=bq w jO:=congrArg (λx=>x.2.2.2.1) e;have e5:(eL s.heap).map jV=KL.map aa:=congrArg (λx=>x.2.2.2.2.1) e;have e6:(eL s.heap).map yk=VL:=congrArg (λx=>x.2.2.2.2.2.1) e;have e7:AD.map (λa=>(s.heap.get? a).bind DU)=iz.map (λd=>aa ([],.stmts d.2.2.2,d.2.2.1,(I4,I5,d.1),d.2.1,.none)):=congrArg (λx=>x.2.2.2.2.2.2.1) e;have e8:AD.map (wK s.heap)=iz.map (λd=>aa d.1):=congrArg (λx=>x.2.2.2.2.2.2.2) e;unfold nM at e1;simp only[Jn]at e1;refine ao e1 λz0 a8=>?_;refine ao z0 λz0 a7=>?_;obtain⟨⟨⟨⟨⟨hg,a1⟩,a3⟩,a4⟩,a5⟩,a6⟩:=z0;have hm:=zf (Heap.Ns.of_isNs hg)
 -- a name at its place
 have at_:∀(j:Nat)(x:Str)(vo:Option (I1 ⊕ Int)),KL[j]?=aa x->VL[j]?=aa vo->∃val,s.heap.nsMap I4 x=aa val/\vo=(match val with|.ref a=>aa (.inl a)|.int i _=>aa (.inr i)|_=>ae):=λj x vo hx hv=>by
  refine aj (vf _ _ e5 zM j x hx) λen b1 b2=>?_;refine au en.val (by rw[hm x,b2];rfl) ?_;rw[← e6,List.getElem?_map,b1]at hv;obtain rfl:=Jd hv;rfl
 have ref_:∀(j:Nat)(x:Str)(a:I1),KL[j]?=aa x->VL[j]?=aa (aa (.inl a))->s.heap.nsMap I4 x=aa (.ref a):=λj x a hx hv=>by
  refine aj (at_ j x _ hx hv) λval b1 b2=>?_;rw[b1]
  split at b2
  ·clear b1;cases b2;rfl
  ·exact(nomatch b2)
  ·exact sN b2
 refine { sys:=(let ⟨o,_,_,e,_⟩:=Heap.Ns.of_isNs a1;⟨o,e⟩),sysns:=⟨_,.of_isNs a1⟩,cf:=ref_ 9 _ _ GZ GY,K:=e2,N:=aU _ (.of_isNs a3) (BH a4) ?_,I:=?_,free:=λx hx=>?_,consts:=λx v hx hn=>?_,ranks:=?_,fns:=λi hi=>?_ }
 ·simp only[List.all_cons,List.all_nil,Bool.and_true,Jn,Option.isNone_iff_eq_none]at a5;exact⟨a5.1,a5.2.1,a5.2.2.1,a5.2.2.2.1,a5.2.2.2.2⟩
 ·refine aj (Option.bind_eq_some_iff.mp e3) λoI h1 h2=>?_;refine aj (Option.map_eq_some_iff.mp h2) λfd q0 h2=>?_;have hd:=tI q0;have hc:s.heap.CodeRec fd.code "CasFail.__init__" := aj (fj a6) λfd' q1 q2=>by
   rw[h1]at q1;obtain rfl:=Jd (q0.symm.trans q1);exact zx q2
  unfold oV at h2;simp only[Je,Prod.mk.injEq]at h2;refine CK h2 λb1 b2 b3 z0 z1 z2 b16=>?_;refine fo z0 λb4 b5 b6 b7=>?_;refine bM z1 λb8 b9 b10=>?_;refine Hx z2 λb11 b12 b13 b14 b15=>?_;exact d8 oI fd h1 b1 hd ⟨b2,b3,b4,b5,b6,b8,b9,by rw[b10];exact hc,b11,b12,b13,b14,b15,b16,b7⟩
 ·have:=List.all_eq_true.mp CA x hx;have hnm:x∉KL:=λq=>by
   have q':(KL.map codeS).contains (codeS x)=af:=List.contains_iff_mem.mpr (List.mem_map.mpr (au x q rfl));rw[q']at this;exact fT this
  rw[hm x,find_none _ _ e5 x hnm];rfl
 ·refine aw (List.mem_iff_getElem?.mp (I6 hx)) λi hi=>?_;have hg':=congrArg (λl=>l[i]?) Cz;simp only[List.getElem?_map,hi,Option.map_some]at hg';refine oc (GP[i]?) (λhj=>?_) λj hj=>?_
  ·rw[hj]at hg';exact nS hg'
  ·
   rw[hj]at hg';have hg':KL[j]?=aa x:=by simpa using hg'
   have hz:((x,v),j)∈eE.zip GP:=List.mem_of_getElem? (i:=i) (by rw[List.getElem?_zip_eq_some];exact⟨hi,hj⟩);have hb:=List.all_eq_true.mp a7 _ hz;dsimp only at hb
   split at hb
   ·rename_i a hv;have hr:=ref_ j x a hg' hv;rw[Bool.or_eq_true]at hb;rcases hb with hb|hb
    ·have ha:=Nat.eq_of_beq_eq_true hb;clear hr hb;subst ha
     -- one address,one name
     have hr2:=ref_ _ _ _ o9 uh;exact absurd (Ey hg' hv) hn
    ·exact au _ hr (qq _ _ _ hb)
   ·rename_i z hv;refine aj (at_ j x _ hg' hv) λval b1 b2=>?_;refine au val b1 ?_;have r:=qq _ _ _ hb
    split at b2
    ·exact(nomatch b2)
    ·rename_i z' t;have b2:z=z':=by injection b2 with b2;injection b2
     clear b1;subst b2;induction v using V.casesOn with
     | int k=>simp only[aq]at r ⊢;refine aw r λzz r=>?_;(injection r with h9;clear hx hi hz hb r;subst h9);exact⟨_,rfl⟩
     | none=>simp only[aq]at r;exact(nomatch r)
     | bool=>simp only[aq]at r;exact(nomatch r)
     | str=>simp only[aq]at r;refine bY r λzz zz r zz=>?_;exact(nomatch r)
     | tup=>simp only[aq]at r;refine bY r λzz zz r zz=>?_;exact(nomatch r)
     | lst=>simp only[aq]at r;refine bY r λzz zz r zz=>?_;exact(nomatch r)
     | bh=>simp only[aq]at r;refine bY r λzz zz r zz=>?_;exact(nomatch r)
     | clo=>simp only[aq]at r;refine lA r λzz zz zz r zz=>?_;exact(nomatch r)
    ·exact sN b2
   ·exact fT hb
 ·refine au _ (ref_ _ _ _ o9 uh) (λhC=>?_);refine aj (yH a8 (by rw[hC];exact e4)) λval' h1 h2=>?_;obtain rfl:=Jd h1;exact h2
 ·have hiL:i<iz.length:=by have:=oY;rw[tT,Jv]at this;exact hi
  have hd0:iz[i]?=aa iz[i]:=Jt hiL;generalize iz[i]=d at hd0;have hdf:defs[i]?=aa (d.1,d.2.1.args.map (·.arg),d.2.2.1,d.2.2.2):=by rw[tT,List.getElem?_map,hd0];rfl
  have n1:iy i=d.1:=by unfold iy;rw[hdf];rfl
  have n2:gF i=d.2.1.args.map (·.arg):=by unfold gF;rw[hdf];rfl
  have n3:lx i=d.2.2.1:=by unfold lx;rw[hdf];rfl
  have n4:cD i=d.2.2.2:=by unfold cD;rw[hdf];rfl
  have hA:AD[i]?=aa AD[i]:=Jt (by rw[F5];exact hi);generalize AD[i]=a at hA;have f7:=congrArg (λl=>l[i]?) e7;have f8:=congrArg (λl=>l[i]?) e8;simp only[List.getElem?_map,hA,hd0,Option.map_some,Je]at f7 f8;refine aj (Option.bind_eq_some_iff.mp f7) λo g1 g2=>?_;have k1:=congrArg (λl=>l[i]?) CB;have k2:=congrArg (λl=>l[i]?) Cy;simp only[List.getElem?_map,hA,hd0,Option.map_some]at k1 k2;refine oc (PS[i]?) (λhp=>?_) λj hp=>?_
  ·rw[hp]at k1;exact nS k1
  ·
   rw[hp]at k1 k2;have k1:KL[j]?=aa d.1:=by simpa using k1
   have k2:VL[j]?=aa (aa (.inl a)):=by simpa using k2
   refine aj (Option.map_eq_some_iff.mp g2) λfd q0 g2=>?_;have hfd:=tI q0;simp only[Je,Prod.mk.injEq]at g2;refine yj g2 λc1 c2 c3 z0 c7 c8=>?_;refine bM z0 λc4 c5 c6=>?_;have P:=List.all_eq_true.mp ux d (List.mem_of_getElem? hd0);unfold xr at P;simp only[Jn,Bool.not_eq_true',beq_iff_eq,List.isEmpty_iff,Option.isNone_iff_eq_none]at P;refine ao P λz0 p7=>?_;refine ao z0 λz0 p6=>?_;obtain⟨⟨⟨⟨p1,p2⟩,p3⟩,p4⟩,p5⟩:=z0;have hcr:s.heap.CodeRec fd.code d.1:=by
    refine aj (ob f8) λfd' q1 q2=>?_;rw[g1]at q1;obtain rfl:=Jd (q0.symm.trans q1);exact t7 q2
   rw[n1,n2,n3,n4];exact vH a o fd (ref_ j _ a k1 k2) g1 hfd ⟨c1,c2,by rw[c3];exact p1,by rw[c3];exact p2,by rw[c3];exact p3,c4,c5,by rw[c6];exact hcr,by rw[c7];exact p4,by rw[c7],by rw[c7];exact p5,by rw[c7];exact p6,by rw[c7];exact p7,c8,by rw[c3]⟩ c6
set_option tactic.hygienic false
theorem YPs.keeps{w:World}{mg:Str->Option IZ}{h h':Heap}(Y:YPs w mg h)(k:∀b o,h.get? b=aa o->h'.get? b=aa o):YPs w mg h':=by
 have T:Tr (λJ=>False) h (λJ=>False) h':=λb o e J J=>⟨k b o e,id⟩;refine⟨let ⟨o,e⟩:=Y.sys;⟨o,k _ _ e⟩,(let ⟨m,e⟩:=Y.sysns;⟨m,e.keeps k⟩),Y.cf,k _ _ Y.K,let ⟨mN,e,r⟩:=Y.N;(au mN (e.keeps k) r),?_,Y.free,λx v hx hn=>let ⟨val,e,r⟩:=Y.consts x v hx hn;(au val e (r.tr T)),let ⟨val,e,r⟩:=Y.ranks;(au val e (λhC=>(r hC).tr T))⟩
 refine dO Y.I λoI fd c1 c2 c3 D=>?_;exact d8 oI fd (k _ _ c1) c2 c3 (D.keeps k)
theorem x9.keeps{w:World}{mg:Str->Option IZ}{h h':Heap}(Y:x9 w mg h)(k:∀b o,h.get? b=aa o->h'.get? b=aa o):x9 w mg h':=
 { Y.toYPs.keeps k with fns:=λi hi=>qj (Y.fns i hi) λa o fd e1 e2 e3 D q=>(vH a o fd e1 (k _ _ e2) e3 (D.keeps k) q) }
theorem sU{w:World}{s:IY}(e:fs s=eJ w):s.heap.isNs I4=af:=by
 have e1:nM s.heap=af:=congrArg Prod.fst e;unfold nM at e1;simp only[Jn]at e1;exact e1.1.1.1.1.1.1.1
end
section
open PySem PySem.Calls PyProof.Rows PySem.W
theorem sE:(recsOf qv).map (·.name)=[("_law_told" : Str),("law" : Str)]:=by kernel_rfl
theorem xT{x:Str}{i:Nat}(h:eF.lookup x=aa i):iy i=x:=by
 have hm:=I6 h;unfold eF at hm;refine aj (List.mem_map.mp hm) λz0 hk e=>?_;obtain⟨d,k⟩:=z0;clear h hm;cases e;have hk':defs[i]?=aa d:=by
  have:=List.mem_zipIdx hk;refine bM this λh1 h2 h3=>?_;rw[Jt (by omega)];simpa using h3.symm
 unfold iy;rw[hk'];rfl
theorem y3(env:Env):defaultsOf gb env=([],[]):=by
 have h1:gb.defaults.isEmpty=af:=by decide +kernel
 have h2:gb.kw_defaults.isEmpty=af:=by decide +kernel
 generalize gb=a at h1 h2;obtain⟨_,_,_,_,kwd,_,d⟩:=a;simp only[List.isEmpty_iff]at h1 h2;subst h1 h2;rfl
section
variable{w:World}{mean:ExcName->Option IZ}{mg mb:Str->Option IZ}{h:Heap}
theorem GI{loose:List Str}(T:Top qv loose mean mg mb h)(Y:x9 w mg h){pl lc:I1}(F:Eu mg h pl lc)(hC:C=sS w h mg pl lc):iD C mg mb:=by
 refine hC.symm▸(?_:iD (sS w h mg pl lc) mg mb)
 -- told's code and table
 refine aj F λdt ndt z0=>?_;refine oC z0 λat_ ot ft t1 t2 t3 t4 t5 t6=>?_;have hpl:h.get? pl=aa { cls:=.none,data:=.fields #[] }:=t6.2
 -- all but the table stands
 have hid:∀b o,h.get? b=aa o->o.data≠.fields #[]->(hide h λb=>b=pl).get? b=aa o:=λb o e hd=>by
  rw[gc (λq=>by rw[q,hpl]at e;obtain rfl:=Jd e;exact hd rfl)];exact e
 have hns:∀{a:I1}{m:Str->Option IZ},h.Ns a m->(hide h λb=>b=pl).Ns a m:=λx=>by
  refine dz x λo es ep e hd r=>?_;exact iG o es ep (hid _ _ e (by rw[hd];intro q;exact(nomatch q))) hd r
 have hcr:∀{cd:IZ}{q:Str},h.CodeRec cd q->(hide h λb=>b=pl).CodeRec cd q:=λx=>by
  refine oB x λc o vs t e1 e2 e3 e4=>?_;exact vF c o vs t e1 (hid _ _ e2 (by rw[e3];intro q;(injection q with h9;clear e3;subst h9);simp at e4)) e3 e4
 have hrep:∀{v:V}{val:IZ},aq C (λJ=>False) h v val->aq (sS w h mg pl lc) (λJ=>False) (hide h λb=>b=pl) v val:=λr=>hC▸r.tr λb o e hc J=>⟨by
  rw[gc (λq=>by rw[q,hpl]at e;obtain rfl:=Jd e;rcases hc with q|q|q|(q|q)|q<;>exact(nomatch q))];exact e,id⟩
 have hfn:=Y.fns;have hfa:∀{i a},mg (iy i)=aa (.ref a)->ix mg i=a:=λe=>by unfold ix;rw[e]
 refine jH T.bmain λbm ob b1 b2 b3 b4 b5 b6=>?_;refine { W:=?_,Y:=?_,L:=?_,obj:=?_,code:=?_,isDef:=λJ=>rfl,lam:=λf fd cs x=>?_ }
 ·refine { g:=hns T.g,b:=hns T.b,bi:=T.builtins,free:=λx hx=>Y.free x (Jr _ hx),defs:=λx i hx=>?_,fobj:=λx i hx=>?_,consts:=λx v hx=>?_,nolimit:=?_,sys:=?_,cls:=⟨_,rfl⟩ }
  ·refine lA (hfn i (qL hx)) λa o fd e1 zz=>?_;rw[← xT hx];show mg (iy i)=aa (Value.ref (ix mg i));rw[hfa e1];exact e1
  ·refine d9 (hfn i (qL hx)) λa o fd e1 e2 e3 zz=>?_;refine gw o fd ?_ e3;show(hide h _).get? (ix mg i)=_;rw[hfa e1];exact hid _ _ e2 (by rw[e3];intro q;exact(nomatch q))
  ·by_cases q:x=("RANKS" : Str)
   ·subst q;refine aj Y.ranks λval e1 e2=>?_;have:v=jN:=by unfold jN;rw[hx];rfl
    clear hx;subst this;exact au val e1 (hrep (e2 (by rw[hC];rfl)))
   ·refine aj (Y.consts x v hx q) λval e1 e2=>?_;exact au val e1 (hrep e2)
  ·refine aj T.nolimit λmc e1 e2=>?_;exact au mc (hns e1) e2
  ·refine aw Y.sys λo e=>?_;refine⟨o,?_⟩;show(hide h _).get? sysModules=_;have hne:sysModules≠pl:=λq=>by
    refine lz Y.sysns λm o' es ep e' hd zz=>?_;rw[q,hpl]at e';obtain rfl:=Jd e';exact(nomatch hd)
   rw[gc (D:=λb=>b=pl) hne];exact e
 ·refine sf Y.N λmN c4 c5 c6 c7 c8 c9 c10=>?_;refine dO Y.I λoI fd i1 i2 i3 D=>?_;refine⟨⟨31,30,28,_,_,_,_,_,_,_,_,_,_,_,_,_,mN,oI,fd,rfl,Y.cf,hid _ _ Y.K (by intro q;exact(nomatch q)),hns c4,c5,c6,c7,c8,c9,c10,hid _ _ i1 (by rw[i3];intro q;exact(nomatch q)),i2,i3,{ D with cd:=hcr D.cd }⟩,Y.free _ (Js ..)⟩
 ·have HC:=CodeHd.of t5 t6;refine { pl:=lj rfl,hd:=?_,bm:=⟨bm,ob,b1,b2,?_,?_,hid _ _ b3 (by rw[b6];intro q;exact(nomatch q)),b4,b5,b6⟩,pos:=⟨rfl,rfl⟩,lam:=λc cd ct=>⟨rfl,_,_,_,_,rfl,rfl⟩,dflt:=y3 }
  ·refine jG HC λo vs file tf flags tg zq=>?_;refine qj zq λinF text tt e1 e2 e3 e4 r=>?_;exact⟨o,vs,file,tf,flags,tg,inF,text,tt,hid _ _ e1 (by rw[e3];intro q;(injection q with h9;clear zq e3 r;subst h9);simp at e4),e2,e3,e4,r⟩
  ·intro q;refine dz T.g λo es ep e hd zz=>?_;rw[← q,b3]at e;obtain rfl:=Jd e;rw[b6]at hd;exact(nomatch hd)
  ·intro q;have q:bm=pl:=q;rw[q,hpl]at b3;clear b4 b5;obtain rfl:=Jd b3;exact(nomatch b6)
 ·intro i hi;refine qj (hfn i hi) λa o fd e1 e2 e3 D zz=>?_;refine bX o fd ?_ e3 ({ D with cd:=hcr D.cd });show(hide h _).get? (ix mg i)=_;rw[hfa e1];exact hid _ _ e2 (by rw[e3];intro q;exact(nomatch q))
 ·rintro fd ⟨o,e,hd⟩;refine qj (hfn 135 (by decide)) λa o' fd' e1 e2 e3 zz e4=>?_;have hn:iy 135 = "_law_told" := by decide +kernel
  change (hide h _).get? (ix mg 135)=_ at e;rw[hfa e1]at e;have e:=oW e;rw[e2]at e;obtain rfl:=Jd e;rw[e3]at hd;(injection hd with h9;subst h9);rw[hn,← ndt]at e1;rw[t1]at e1;cases e1;rw[t2]at e2;obtain rfl:=Jd e2;rw[t3]at e3;(injection e3 with h9;subst h9);refine⟨t4,?_⟩;rw[e4,hn];show _=y4;decide +kernel
 ·exact x
end
set_option tactic.hygienic true
theorem lay_ints{R:WRecords}{cl:Str->Option I1}{P:Params}{ord:List I2->List I2}{h:Heap}:∀(is:List Int)(s:IY)(vs:List IZ)(s':IY),layAllW R cl P ord (is.map WData.int) s=aa (vs,s')->s'.heap=s.heap/\av C (λJ=>False) h (is.map V.int) vs/\vs.length=is.length
 | [],s,vs,s',e=>by
  simp only[List.map_nil,layAllW]at e;refine ao (bU e) λz0 z1=>?_;subst z0;clear e;subst z1;exact⟨rfl,by simp only[List.map_nil,av],rfl⟩
 | i::is,s,vs,s',e=>by
  simp only[List.map_cons,layAllW,layW]at e
  split at e
  ·rename_i r hr;obtain⟨vs1,s₁⟩:=r;refine ao (bU e) λz0 z1=>?_;subst z0;clear e;subst z1;obtain⟨h1,h2,h3⟩:=(lay_ints is _ vs1 s₁ hr);exact⟨h1,by dsimp only[List.map_cons,av,aq];exact bX _ _ rfl ⟨_,rfl⟩ h2,by simp[h3]⟩
  ·exact nS e
theorem Cu{args:List WData}(hpre:fc.row.toRowW.claim.pre args=af):∃is:List Int,args=[.list (is.map .int)]/\is.length<=63:=by
 refine ao (pre_splitW hpre) λh1 h2=>?_;refine aW (hasAllW_cons (e:=.list .int) (es:=[]) h1) λd r z0 h3 h4=>?_;subst z0;obtain rfl:=hasAllW_nil h4;refine aj (hasW_list h3) λxs z0 h5=>?_;subst z0;refine aw (items_int h5) λis z0=>?_;clear h5 h3 hpre h1;subst z0;refine au is rfl ?_;have e:fc.row.toRowW.pre=.and (.not (.lt (.lit (.int 63)) (.len (.arg 0)))) (.lit (.bool af)):=rfl;rw[e]at h2;by_cases q:is.length<=63
 ·exact q
 ·have h63:decide ((63:Int)<(is.length:Int))=af:=decide_eq_true (by lia);simp only[WTm.holds,WTm.value,List.getElem?_cons_zero,Jv]at h2;rw[show PySem.W.less? (WData.int 63) (WData.int (is.length:Int))=aa (decide ((63:Int)<(is.length:Int))) from rfl,h63]at h2;exact absurd h2 (by simp)
theorem Iv:fc.row.toRowW.prog=pw:=rfl
theorem DB:iy 141 = "law" := by decide +kernel
theorem F7{o:iC}(LF:gV o)(hO:∀mg mb,iD C mg mb->nX C o):yb C:=by
 intro d kwd hdn w ay s₁ mg mb G Y0 a ob pm cd doc dV kV ho hd hcr hdf hmg hgen args vals as L hpre hlay hrd hwl hlow;have Y:fs ay=eJ w:=congrArg Prod.snd Y0;have hw:C.w=w:=(congrArg Prod.fst Y0).mp trivial;refine bY G.X λpl lc F hC0=>?_;have hC:C=sS w s₁.heap mg pl lc:=by rw[← hw];exact hC0
 have hpC:C.pl=pl:=by rw[hC];rfl
 have hprog:C.prog=pw:=by rw[hC];rfl
 have hT:s₁.heap.TableAt lc pl #[]:=aj F λdt J z=>oC z λJ J J J J J J J t6=>t6;refine aj (Cu hpre) λis z0 h63=>?_;clear hpre hlay;subst z0;have hm:ay.heap.nsMap I4=mg:=xw ((Heap.Ns.of_isNs (sU Y)).keeps L.keeps) G.T.g;have Y1:=(CF Y).keeps L.keeps;rw[hm]at Y1;have H:=GI G.T Y1 F hC;clear F hC0 Y0;refine aj L.laid λord zz hl=>?_;dsimp only[layAllW,layW]at hl
 split at hl
 ·rename_i r hr;refine oc (layAllW fc.row.toRowW.records (classAt ay.heap) w.params ord (is.map WData.int) ay) (λhr2=>?_) λq hr2=>?_
  ·rw[hr2]at hr;exact nS hr
  ·
   obtain⟨vs,s₂⟩:=q;rw[hr2]at hr;cases hr;refine ao (bU hl) λz0 z1=>?_;subst z0;clear G ho hcr hdf Y1 L hrd hwl hl;subst z1;refine bM (lay_ints (h:=s₂.heap.push { cls:=.type "list",data:=.seq vs.toArray }) is ay vs s₂ hr2) λe1 e2 e3=>?_;have hbase:Base C (s₂.heap.push { cls:=.type "list",data:=.seq vs.toArray }):=λb o e=>oW (D:=λb=>b=pl) (by rw[hC]at e;exact e);have P:bp C 61 (λJ=>False) (λJ=>False) [] callerA { s₂ with heap:=s₂.heap.push { cls:=.type "list",data:=.seq vs.toArray } }:=
    { room:=⟨rfl,by show 1+claimMargin+61+3<recursionLimit;decide,by show 4+4*61+500<cLine;decide⟩,stk:=au ([]) rfl trivial,aE:=⟨λJ J q=>q.elim,λJ q=>q.elim⟩,pnX:=λJ q=>q,base:=hbase,lt:=λJ q=>q.elim,fresh:=λJ q=>q.elim,tab:=.inl (by rw[hpC];exact hT.2) }
   have hfa:C.fa 141=a:=by
    rw[hC];show ix mg 141=a;unfold ix;rw[DB,← hdn,hmg]
   have hv:aq C (λJ=>False) (s₂.heap.push { cls:=.type "list",data:=.seq vs.toArray }) (.lst (is.map .int)) (.ref s₂.heap.objs.size):=by
    dsimp only[aq];exact d8 _ vs rfl id ⟨by show vs.length<=8000;lia,0,Jh _ rfl⟩ e2
   have fin:=xE (Q:=λv s'=>GoodWG fc.row.toRowW.claim (classAt ay.heap) (ExcName.means ay.heap) [.list (is.map .int)] { s₂ with heap:=s₂.heap.push { cls:=.type "list",data:=.seq vs.toArray } } (.ok (.ret v)) s')
    (E:=λe s'=>GoodWG fc.row.toRowW.claim (classAt ay.heap) (ExcName.means ay.heap) [.list (is.map .int)] { s₂ with heap:=s₂.heap.push { cls:=.type "list",data:=.seq vs.toArray } } (.error e) s') H LF (hO _ _ H) P hv λs' X hb htab hg hos=>?_
   ·rw[hfa,hprog,hw]at fin;exact fin
   ·refine⟨.inl (vH (.bool af) (.bool af) ([]) rfl (λJ=>rfl) (.bool af) ?_ (λJ=>⟨List.nodup_nil,λJ q=>nomatch q⟩)),?_,hos,?_⟩
    ·refine postW_of (X:=af) ?_ ?_ rfl
     ·show WShape.has fc.row.toRowW.records (.bool af) .bool=af
      kernel_rfl
     ·show WTm.value fc.row.toRowW.records (.eq .res (.lit (.bool af))) _=_
      kernel_rfl
    ·have keep:∀b ob',(s₂.heap.push { cls:=.type "list",data:=.seq vs.toArray }).get? b=aa ob'->b≠pl->s'.heap.get? b=aa ob':=λb ob' e hne=>hb b ob' (by
      rw[hC];show(hide _ _).get? b=_;rw[gc (D:=λb=>b=pl) hne];exact e)
     refine⟨λb ob' e=>?_,λb ob' e=>?_⟩
     ·by_cases q:b=pl
      ·clear H e2 hbase P hfa hv hb keep;subst q;have e':=hT.2;rw[e]at e';clear e;obtain rfl:=Jd e';refine .inr (.inl ⟨hT.isCodeTable,rfl,#[],?_⟩);rcases htab with x|⟨c',x,_⟩<;>rw[hpC]at x
       ·exact au (#[]) rfl (by simpa using(show s'.heap.get? b=_ from x))
       ·exact au _ rfl (by simpa using(show s'.heap.get? b=_ from x))
      ·exact .inl (keep b ob' e q)
     ·by_cases q:b=pl
      ·clear H hT e2 hbase P hfa hv hb keep;subst q;rcases htab with x|⟨c',x,_⟩<;>rw[hpC]at x
       ·exact⟨_,x⟩
       ·exact⟨_,x⟩
      ·exact⟨ob',keep b ob' e q⟩
    ·exact .of_eq (hg.trans hgen)
 ·exact nS hl
theorem walk {o:iC} (LF:gV o) (hO:∀mg mb,iD C mg mb->nX C o) {d:DefRec} {kwd:List (Str×Expr)} (hdn:d.name = "law"):WalkX qv cM (λJ J=>True) fs eJ fc.row.toRowW d kwd λf vs=>PySem.call f vs:=by
 intro w ay s₁ mg mb G Y;obtain⟨dt,hdt,ndt⟩:∃d∈recsOf qv,d.name = "_law_told" := by
  have:("_law_told" : Str)∈(recsOf qv).map (·.name):=by rw[sE];exact Js ..
  refine aj (List.mem_map.mp this) λd h1 h2=>?_;exact au d h1 h2
 refine Hr (G.T.tab dt hdt) λa o fd lc pl t1 t2 t3 t4 t5 t6=>?_;exact BK (F7 LF hO) (sS w s₁.heap mg pl lc) d kwd hdn w ay s₁ mg mb { G with X:=(gw pl lc (au dt ndt ⟨a,o,fd,t1,t2,t3,t4,t5,t6⟩) rfl) } (Prod.ext (show True=(w=w) from(eq_self w).symm) Y)
set_option tactic.hygienic false
noncomputable def dL:DefRec×List (Str×Expr):=(defOf qv "law").getD (⟨"law",⟨[],[],ae,[],[],ae,[]⟩,[],⟨.module,[],ag,ag,[]⟩,⟨0,0,0,0⟩⟩,[])
theorem D8:defOf qv "law" = aa dL:=by kernel_rfl
theorem D7:pw.theDef "law" = aa (dL.1.params,dL.1.body,dL.1.scope):=by kernel_rfl
theorem GL:kwWritten? dL.1.params.kwonlyargs dL.1.params.kw_defaults=aa dL.2:=by kernel_rfl
theorem Ck:dL.1.name = "law" := by decide +kernel
theorem IE:(chainsOk qv&&opensWell pw&&(frees fc.row.toRowW&&fc.row.within.isEmpty))=af:=by decide +kernel
theorem CL:pw.tablesWhole=af:=by kernel_rfl
theorem GQ:pw.bare:=⟨rfl,rfl,rfl,rfl,rfl,CL⟩
theorem Hy:fc.row.toRowW.promised:=⟨[.list []],by kernel_rfl,by kernel_rfl⟩
theorem holds{o:iC}{N:Nat}(LF:gV o)(hO:∀mg mb,iD C mg mb->nX C o)(left:LeftO pw qv cM (λJ=>af) fs eJ N)(k1:fc.wellSaid=af):fc.Holds:=by
 have k2:fc.row.wellSaid=af:=by
  unfold OpenLaw.wellSaid at k1;simp only[Jn]at k1;refine ao k1 λk zz=>?_
  repeat (first|exact k|refine ao k λk zz=>?_)
 exact⟨k1,holds_openX (r:=fc.row) (XP:=λJ J=>True) left (λJ J=>trivial) (λJ J J J J=>trivial) D8 D7 GL (λs J=>recFacts_nil rfl) rfl k2 IE GQ Hy (walk LF hO Ck)⟩
noncomputable section
noncomputable def xP:List Obj->BT->Nat->BT
 | [],t,_=>t
 | o::r,t,n=>xP r (t.ins n o) (n+1)
noncomputable def mJ(st:SharedT->Thread->Option (SharedT×Thread))(ok:Thread->Bool)(n:Nat):SharedT->Thread->Option SharedT:=
 @Jy (λJ=>SharedT->Thread->Option SharedT) (λJ J=>ae) (λJ ih s t=>@Jp (λJ=>Option SharedT) (@Jp (λJ=>Option SharedT) ae (@Option.rec (SharedT×Thread) (λJ=>Option SharedT) ae (λr=>@Prod.rec SharedT Thread (λJ=>Option SharedT) (λs t=>ih s t) r) (st s t)) (ok t)) (aa s) (through t)) n
noncomputable def sq(P:Params)(os:OsState):SharedT:=⟨xP (boot_heap P).objs.toList .nil 0,11,(boot_heap P).life,#[],boot_drawn,boot_toks,os⟩
noncomputable def xc(w:World):SharedT->Thread->Option (SharedT×Thread):=Fast.tw10156331382660048174 (Fast.tw11892475500146522536 Fast.tw14364793385576792824) pw w
noncomputable def xv:Thread->Bool:=Fast.tw6613529449190102663 11 ae
noncomputable def tP(w:World)(P:Params)(os:OsState):Option SharedT:=mJ (xc w) xv 10300 (sq P os) (topStub pw)
noncomputable def jk:String := "special-get-raises"
end
theorem sD{tb:String->Option Builtin}{p:Program}{w:World}{n0:Nat}{ann:Option IZ}:∀(n:Nat)(s:SharedT)(t:Thread)(s':SharedT),mJ (stepT (denote tb) p w) (stepOk n0 ae) n s t=aa s'->topRun tb p w n0 ann n s.abs t=aa s'.abs
 | 0,_,_,_,h=>by exact nS h
 | n+1,s,t,s',h=>by
  unfold topRun;change (@Jp (λJ=>Option SharedT) (@Jp (λJ=>Option SharedT) ae (@Option.rec (SharedT×Thread) (λJ=>Option SharedT) ae (λr=>@Prod.rec SharedT Thread (λJ=>Option SharedT) (λs t=>mJ (stepT (denote tb) p w) (stepOk n0 ae) n s t) r) (stepT (denote tb) p w s t)) (stepOk n0 ae t)) (aa s) (through t))=aa s' at h;refine uW (through t) (λht=>?_) λht=>?_
  ·rw[ht]at h ⊢;obtain rfl:=Jd h;rfl
  ·
   rw[ht]at h ⊢;refine kY (stepOk n0 ae t) (λhk=>?_) λhk=>?_
   ·rw[hk]at h;exact nS h
   ·
    rw[hk]at h;have hk':stepOk n0 ann t=af:=by
     unfold stepOk at hk ⊢;rw[Jn]at hk ⊢;refine⟨hk.1,?_⟩;have h2:=hk.2;clear hk h ht;generalize t.cur=c at h2 ⊢;induction c using Sem.casesOn<;>first|exact h2|exact(Bool.or_eq_true _ _).mpr (((Bool.or_eq_true _ _).mp h2).imp id fT)
    rw[hk'];refine oc (stepT (denote tb) p w s t) (λhs=>?_) λr hs=>?_
    ·rw[hs]at h;exact nS h
    ·
     obtain⟨s₂,cY⟩:=r;rw[hs]at h;rw[stepT_spec hs];exact sD n s₂ cY s' h
theorem boot_abs(P:Params)(os:OsState):(sq P os).abs=⟨boot_heap P,#[],boot_drawn,boot_toks,os⟩:=by kernel_rfl
theorem x6(P:Params):((boot_heap P).isNs I4&&(#[]:Array GenState).size==0,(boot_heap P).objs.size)=(af,11):=by kernel_rfl
noncomputable def pI:List Str:=importedModules pw.main.body
noncomputable def vO(P:Params)(s:IY):Bool:=staticsOk pI (boot_heap P) s.heap&&namesBound pw s.heap&&gensDone s&&laidKept (boot_heap P) s.heap
theorem zg{w:World}{P:Params}{os:OsState}{s:SharedT}{ann:Option IZ}(h:tP w P os=aa s):topRun treeTable pw w 11 ann 10300 ⟨boot_heap P,#[],boot_drawn,boot_toks,os⟩ (topStub pw)=aa s.abs:=by
 unfold tP xc xv at h;rw[← Fast.te10156331382660048174,← Fast.te11892475500146522536,← Fast.te14364793385576792824,← Fast.te6613529449190102663]at h;rw[← boot_abs];exact sD _ _ _ _ h
theorem BW{Xt:IY->Bool}{α:Type}{Yf:IY->α}{Ya:World->α}
  (h:∀(w:World)(b:Bool)(os:OsState),∃s,tP (w.withFollow jk b) w.params os=aa s/\vO w.params s.abs=af/\openSeen qv cM pI Xt af s.abs=openGood qv cM/\Yf s.abs=Ya (w.withFollow jk b)):LeftO pw qv cM Xt Yf Ya 10300:=
 LeftO.of_split jk λw=>by
  refine aj (Option.map_eq_some_iff.mp (boot_open (p:=pw) (N:=10300) rfl rfl (λJ=>rfl) w)) λz0 e e'=>?_;obtain⟨hp,gs,d,k,os⟩:=z0;obtain⟨rfl,rfl,rfl,rfl⟩:hp=boot_heap w.params/\gs=#[]/\d=boot_drawn/\k=boot_toks:=by simpa using e'
  rw[e];have one:∀b,(topFrom treeTable pw (w.withFollow jk b) 10300 ⟨boot_heap w.params,#[],boot_drawn,boot_toks,os⟩).map (λs=>(openSeen qv cM (importedModules pw.main.body) Xt af s,Yf s))=aa (openGood qv cM,Ya (w.withFollow jk b)):=λb=>by
   refine de (h w b os) λs h1 h2 h3 h4=>?_;have hz:=x6 w.params;simp only[Prod.mk.injEq]at hz;unfold topFrom;dsimp only;rw[hz.1,hz.2,zg h1];show Option.map _ (match vO w.params s.abs with|true=>aa s.abs|false=>ae)=_
   rw[h2];exact congrArg aa (Prod.ext h3 h4)
  show aa (_,_)=_;rw[one ag,one af]
noncomputable def qJ(s:SharedT)(a:I1):Option Obj:=match Nat.blt a s.n with
 | true=>alive ((s.tree.get a).getD default)
 | false=>ae
theorem u7(s:SharedT)(a:I1):qJ s a=s.abs.heap.get? a:=by
 unfold qJ Heap.get?;show _=(match (absHeap s.tree s.n s.life).objs[a]? with|some ⟨_,_,.freed,_⟩=>ae|x=>x)
 rw[absHeap_at];by_cases h:a<s.n
 ·rw[if_pos h,show Nat.blt a s.n=af by rw[blt_dec];exact decide_eq_true h];dsimp only;generalize (s.tree.get a).getD default=o;obtain⟨c,d,dt,sl⟩:=o;induction dt using Data.casesOn<;>rfl
 ·rw[if_neg h,show Nat.blt a s.n=ag by rw[blt_dec];exact decide_eq_false h]
noncomputable def As(s:SharedT):I1->Option Str:=wM (qJ s)
theorem zw(s:SharedT):As s=wK s.abs.heap:=congrArg wM (funext (u7 s))
noncomputable def sV(s:SharedT):rX:=(nM s.abs.heap,qJ s 31,(qJ s 28).bind tL,mK s.abs.heap (aa (.ref jw)),(eL s.abs.heap).map jV,(eL s.abs.heap).map yk,AD.map (λa=>(qJ s a).bind DU),AD.map (As s))
theorem xC(s:SharedT):sV s=fs s.abs:=by
 have e:=zw s;unfold sV fs;rw[e];simp only[u7]
noncomputable section
noncomputable def yO(P:Params)(s:IY):Bool:=staticsOk pI (boot_heap P) s.heap&&gensDone s&&laidKept (boot_heap P) s.heap&&s.heap.accountedOkI pI&&s.heap.isNs I4&&s.heap.isNs I5&&tablesOk qv s.heap&&s.gens.size==0
noncomputable def obs(P:Params)(s:SharedT):=(yO P s.abs,seen ((recsOf qv).map (·.name)) (ownsOf qv) [] { s.abs with gens:=#[] },s.abs.heap.bltView,tabsOk qv s.abs,pinSeenD qv (drecsOf qv) s.abs,plainSeenE qv (looseW qv cM) s.abs,plainSeenD qv cM s.abs,wideSeen qv s.abs,clsSeenW qv cM s.abs,sV s)
noncomputable def nJ(w:World):=(af,expectedOf qv,bltViewBooted,af,pinGoodD (drecsOf qv),plainGoodE qv (looseW qv cM),plainGoodD qv cM,wideGood qv,clsGoodW qv cM,eJ w)
end
theorem zA:pw.boundNames=("__name__" : Str)::(KA++(("_law_told" : Str)::(KB++[("law" : Str)]))):=by kernel_rfl
theorem ti:(KS.all λx=>startupNames.contains x)=af:=by decide +kernel
theorem uZ{w:World}{s:IY}(e:fs s=eJ w):s.heap.nsKeys I4=KL:=by
 have e5:(eL s.heap).map jV=KL.map aa:=congrArg (λx=>x.2.2.2.2.1) e;have:s.heap.nsKeys I4=(eL s.heap).filterMap jV:=by
  unfold Heap.nsKeys eL;induction s.heap.get? I4 using Option.casesOn with
  | none=>rfl
  | some o=>obtain⟨c,d,dt,sl⟩:=o;induction dt using Data.casesOn<;>rfl
 rw[this];have h2:(eL s.heap).filterMap jV=((eL s.heap).map jV).filterMap id:=by rw[List.filterMap_map];rfl
 rw[h2,e5,List.filterMap_map];show KL.filterMap (λx=>aa x)=KL;exact List.filterMap_some
theorem lP{w:World}{s:IY}(e:fs s=eJ w):namesBound pw s.heap=af:=by
 unfold namesBound;rw[sU e,uZ e,zA,Bool.true_and,List.all_eq_true];intro x hx;unfold KL at hx;rw[Bool.or_eq_true];rcases List.mem_append.mp hx with hx|hx
 ·exact .inl (List.all_eq_true.mp ti x hx)
 ·exact .inr (List.contains_iff_mem.mpr (Jr _ hx))
theorem xH{w:World}{s:IY}(e:fs s=eJ w):s.heap.keysOk (looseW qv cM) ((recsOf qv).map (·.name)) ((litsOf qv).map (·.1)) ((clssOf qv (looseW qv cM)).map (·.name))=af:=by
 unfold Heap.keysOk;rw[uZ e,List.all_eq_true,sE];intro x hx;have hl:∀y,y∈cM->(looseW qv cM).contains y=af:=λy hy=>List.contains_iff_mem.mpr (by
  unfold looseW looseD heldW;exact List.mem_append_left _ (List.mem_append_left _ (List.mem_append_left _ hy)))
 simp only[Bool.or_eq_true];unfold KL at hx;rcases List.mem_append.mp hx with hx|hx
 ·exact .inl (.inl (.inl (.inl (List.all_eq_true.mp ti x hx))))
 rcases List.mem_append.mp hx with hx|hx
 ·exact .inl (.inl (.inl (.inr (hl x (List.mem_append_left _ hx)))))
 rcases Jx.mp hx with rfl|hx
 ·exact .inl (.inl (.inr (List.contains_iff_mem.mpr (Js ..))))
 rcases List.mem_append.mp hx with hx|hx
 ·exact .inl (.inl (.inl (.inr (hl x (List.mem_append_right _ hx)))))
 ·rcases Jx.mp hx with rfl|hx
  ·exact .inl (.inl (.inr (List.contains_iff_mem.mpr (Jr _ (Js ..)))))
  ·nomatch hx
theorem yN{w:World}{P:Params}{t:SharedT}(e:obs P t=nJ w):vO P t.abs=af/\openSeen qv cM pI (λJ=>af) af t.abs=openGood qv cM/\fs t.abs=eJ w:=by
 have e10:fs t.abs=eJ w:=(xC t).symm.trans (congrArg (λx=>x.2.2.2.2.2.2.2.2.2) e);have e1:yO P t.abs=af:=congrArg Prod.fst e;have e2:seen ((recsOf qv).map (·.name)) (ownsOf qv) [] { t.abs with gens:=#[] }=expectedOf qv:=congrArg (λx=>x.2.1) e;have e3:t.abs.heap.bltView=bltViewBooted:=congrArg (λx=>x.2.2.1) e;have e4:tabsOk qv t.abs=af:=congrArg (λx=>x.2.2.2.1) e;have e5:=congrArg (λx=>x.2.2.2.2.1) e;have e6:=congrArg (λx=>x.2.2.2.2.2.1) e;have e7:=congrArg (λx=>x.2.2.2.2.2.2.1) e;have e8:=congrArg (λx=>x.2.2.2.2.2.2.2.1) e;have e9:=congrArg (λx=>x.2.2.2.2.2.2.2.2.1) e;dsimp only[obs,nJ]at e5 e6 e7 e8 e9;generalize t.abs=s at *;unfold yO at e1;simp only[Jn]at e1;refine ao e1 λz0 a8=>?_;refine ao z0 λz0 a7=>?_;obtain⟨⟨⟨⟨⟨a1,a2⟩,a3⟩,a4⟩,a5⟩,a6⟩:=z0;refine⟨?_,?_,e10⟩
 ·unfold vO;rw[a1,lP e10,a2,a3];rfl
 ·unfold openSeen openGood;rw[e2,e3,xH e10,a4,a5,a6,a7,e4,e5,e6,e7,e8,e9];simp[a8]
theorem yX(h:∀(w:World)(b:Bool)(os:OsState),(tP (w.withFollow jk b) w.params os).map (λs=>obs w.params s)=aa (nJ (w.withFollow jk b))):LeftO pw qv cM (λJ=>af) fs eJ 10300:=
 BW λw b os=>by
  refine aj (Option.map_eq_some_iff.mp (h w b os)) λs h1 h2=>?_;refine bM (yN h2) λg1 g2 g3=>?_;exact⟨s,h1,g1,g2,g3⟩
theorem C8:namesResolve pw=af:=by rw[Fast.te8377067652309620493];kernel_rfl
theorem BB:noRoadLSs { strict:=!(importedModules pw.main.body).all cThrough.contains,foot:=ae,bare:=(["vars","dir","locals"]:List Str).filter (readsOut pw pw.main.body) } pw.main.body=af:=by rw[Fast.te8326940854005059898,Fast.te13343964577679436407];kernel_rfl
theorem BC:(namesMeet pw pw.main.body λJ n=>attrL n)=af:=by rw[Fast.te17119622794617984870];kernel_rfl
theorem yz:(fc.bound'.all (λn=>!builtinNamed n||fc.about==[n]||!fc.reads n))=af:=by kernel_rfl
theorem C9:(namesMeet fc.prog fc.above (λJ n=>!fc.own.contains n))=af:=by rw[Fast.te17119622794617984870];kernel_rfl
theorem yy:looksOpen pw=af:=by
 unfold looksOpen;rw[C8,BB,BC,Fast.te11788848310118352699,Fast.te12862048085361865435]
 kernel_rfl
theorem C7:fc.row.wellSaid=af:=by
 unfold OpenRow.wellSaid OpenRow.partSaid;rw[show looksOpen fc.row.prog=af from yy]
 kernel_rfl
theorem Hz:fc.wellSaid=af:=by
 unfold OpenLaw.wellSaid;rw[C7,yz,C9,Fast.te17119622794617984870,Fast.te8326940854005059898,Fast.te9558739934217749035,Fast.te8179353310426384613]
 kernel_rfl
noncomputable def DT(st:SharedT->Thread->Option (SharedT×Thread))(ok:Thread->Bool)(n:Nat):SharedT->Thread->Option (SharedT×Thread):=
 @Jy (λJ=>SharedT->Thread->Option (SharedT×Thread)) (λs t=>aa (s,t)) (λJ ih s t=>@Jp (λJ=>Option (SharedT×Thread)) (@Jp (λJ=>Option (SharedT×Thread)) ae (@Option.rec (SharedT×Thread) (λJ=>Option (SharedT×Thread)) ae (λr=>@Prod.rec SharedT Thread (λJ=>Option (SharedT×Thread)) (λs t=>ih s t) r) (st s t)) (ok t)) ae (through t)) n
noncomputable def u6(w:World)(os:OsState)(b:Bool):Option (SharedT×Thread):=DT (xc (w.withFollow jk b)) xv 1250 (sq w.params os) (topStub pw)
theorem u5{st:SharedT->Thread->Option (SharedT×Thread)}{ok:Thread->Bool}{m:Nat}:∀(n:Nat)(s:SharedT)(t:Thread)(r:SharedT×Thread),DT st ok n s t=aa r->mJ st ok (n+m) s t=mJ st ok m r.1 r.2
 | 0,s,t,r,h=>by cases h;rw[Nat.zero_add]
 | n+1,s,t,r,h=>by
  rw[show n+1+m=n+m+1 by omega];change (@Jp (λJ=>Option (SharedT×Thread)) (@Jp (λJ=>Option (SharedT×Thread)) ae (@Option.rec (SharedT×Thread) (λJ=>Option (SharedT×Thread)) ae (λr=>@Prod.rec SharedT Thread (λJ=>Option (SharedT×Thread)) (λs t=>DT st ok n s t) r) (st s t)) (ok t)) ae (through t))=aa r at h;show(@Jp (λJ=>Option SharedT) (@Jp (λJ=>Option SharedT) ae (@Option.rec (SharedT×Thread) (λJ=>Option SharedT) ae (λr=>@Prod.rec SharedT Thread (λJ=>Option SharedT) (λs t=>mJ st ok (n+m) s t) r) (st s t)) (ok t)) (aa s) (through t))=_;cases ht:through t with
  | true=>rw[ht]at h;cases h
  | false=>
   rw[ht]at h;cases hk:ok t with
   | false=>rw[hk]at h;cases h
   | true=>
    rw[hk]at h;cases hs:st s t with
    | none=>rw[hs]at h;cases h
    | some q=>
     obtain⟨s₂,cY⟩:=q;rw[hs]at h;exact u5 n s₂ cY r h
theorem DE:∀(w:World)(os:OsState),u6 w os af=u6 w os ag:=by intro w os;kernel_rfl
theorem IA:∀(w:World)(b:Bool)(os:OsState),((u6 w os ag).bind λr=>mJ (xc (w.withFollow jk b)) xv 9050 r.1 r.2).map (λs=>obs w.params s)=aa (nJ (w.withFollow jk b)):=by intro w b os;kernel_rfl
theorem Gz:LeftO pw qv cM (λJ=>af) fs eJ 10300:=yX λw b os=>by
 have h:=IA w b os;have e:u6 w os b=u6 w os ag:=by
  cases b
  ·rfl
  ·exact DE w os
 cases hg:u6 w os ag with
 | none=>rw[hg]at h;cases h
 | some r=>
  rw[hg]at h e;have e':tP (w.withFollow jk b) w.params os=mJ (xc (w.withFollow jk b)) xv 9050 r.1 r.2:=u5 (m:=9050) 1250 _ _ r e;rw[e'];exact h
end
section
open PySem
noncomputable def sP:iC:=uM TK 15
noncomputable def IH:Call:=bw TK sP 58
noncomputable def jf:Call:=bw TK sP 59
noncomputable def Ed:Call:=bw TK sP 60
noncomputable def PR:List (Nat×Nat):=[(0,10),(1,10),(2,10),(3,10),(4,10),(5,10),(6,10),(7,10),(8,10),(9,10),(0,0),(0,1),(1,0),(0,2),(2,0),(0,3),(3,0),(0,4),(4,0),(0,5),(5,0),(0,6),(6,0),(0,7),(7,0),(0,8),(8,0),(0,9),(9,0),(1,1),(1,2),(2,1),(1,3),(3,1),(1,4),(4,1),(1,5),(5,1),(1,6),(6,1),(1,7),(7,1),(1,8),(8,1),(1,9),(9,1),(2,2),(2,3),(3,2),(2,4),(4,2),(2,5),(5,2),(2,6),(6,2),(2,7),(7,2),(2,8),(8,2),(2,9),(9,2),(3,3),(3,4),(4,3),(3,5),(5,3),(3,6),(6,3),(3,7),(7,3),(3,8),(8,3),(3,9),(9,3),(4,4),(4,5),(5,4),(4,6),(6,4),(4,7),(7,4),(4,8),(8,4),(4,9),(9,4),(5,5),(5,6),(6,5),(5,7),(7,5),(5,8),(8,5),(5,9),(9,5),(6,6),(6,7),(7,6),(6,8),(8,6),(6,9),(9,6),(7,7),(7,8),(8,7),(7,9),(9,7),(8,8),(8,9),(9,8),(9,9)]
theorem Gj:((List.range 10).all λi=>(List.range 11).all λj=>PR.contains (i,j))=af:=by decide +kernel
theorem xq{i j:Nat}(hi:i<10)(hj:j<11):(i,j)∈PR:=List.contains_iff_mem.mp (List.all_eq_true.mp (List.all_eq_true.mp Gj i (List.mem_range.mpr hi)) j (List.mem_range.mpr hj))
theorem Cb:∀p,(List.range 18).map (λi=>(zJ IH (wz (i / 3) (i % 3)) p).res)=(List.range 18).map (λi=>Res.ok (.tup [(kindOf (tj (i / 3) (i % 3))).1,(kindOf (tj (i / 3) (i % 3))).2]) p):=by intro p;kernel_rfl
theorem D6:∀x0 p,zR Ed (pT x0) p=.next (aO (pT x0) (.val nE)) p:=by intro x0 p;kernel_rfl
theorem D5:∀ρ p,(List.range 12).map (λr=>ui Ed (bR (bz ρ (.val (fK r).1)) (.val (fK r).2)) p)=(List.range 12).map (λr=>ai.next (bR (bz ρ (.val (fK r).1)) (.val (fK r).2)) p):=by intro ρ p;kernel_rfl
theorem D4:∀ρ p,(List.range 20).map (λi=>kH (zH Ed (gx (dc ρ (.val (.int (cQ (.ofNat 1) (.ofNat (i / 5)))))) (.val (.int (eR (.ofNat (i % 5)) (.ofNat 2))))) p))=(List.range 20).map (λJ=>aa p):=by intro ρ p;kernel_rfl
theorem DM:∀p,(List.range 10).map (λk=>kH (nF jf (fY k) p))=(List.range 10).map (λJ=>aa p):=by intro p;kernel_rfl
noncomputable def f1(k i:Nat):Fr:=pU sP k (i / 2) (i % 2)
noncomputable def kj(k:Nat)(p:List V)(x:Nat×Nat):Option (List V):=match Nat.beq x.2 10 with
 | true=>kH (nF jf (f1 k x.1) p)
 | false=>Ad jf (turn (f1 k x.1) 1 (x.2 / 2) (x.2 % 2)) p
theorem HW:∀p,(List.range 10).map (λi=>fk jf (turn (fY 0) 0 (i / 2) (i % 2)) p)=(List.range 10).map (λi=>ai.next (f1 0 i) p):=by intro p;kernel_rfl
theorem HK:(List.range 10).map (λi=>Fr.s0 (f1 0 i))=(List.range 10).map (λJ=>Slot.aE):=by kernel_rfl
theorem Ie:∀p,PR.map (kj 0 p)=PR.map (λJ=>aa p):=by intro p;kernel_rfl
theorem HU:∀p,(List.range 10).map (λi=>fk jf (turn (fY 1) 0 (i / 2) (i % 2)) p)=(List.range 10).map (λi=>ai.next (f1 1 i) p):=by intro p;kernel_rfl
theorem HJ:(List.range 10).map (λi=>Fr.s0 (f1 1 i))=(List.range 10).map (λJ=>Slot.aE):=by kernel_rfl
theorem Ic:∀p,PR.map (kj 1 p)=PR.map (λJ=>aa p):=by intro p;kernel_rfl
theorem HT:∀p,(List.range 10).map (λi=>fk jf (turn (fY 2) 0 (i / 2) (i % 2)) p)=(List.range 10).map (λi=>ai.next (f1 2 i) p):=by intro p;kernel_rfl
theorem HI:(List.range 10).map (λi=>Fr.s0 (f1 2 i))=(List.range 10).map (λJ=>Slot.aE):=by kernel_rfl
theorem Ib:∀p,PR.map (kj 2 p)=PR.map (λJ=>aa p):=by intro p;kernel_rfl
theorem HS:∀p,(List.range 10).map (λi=>fk jf (turn (fY 3) 0 (i / 2) (i % 2)) p)=(List.range 10).map (λi=>ai.next (f1 3 i) p):=by intro p;kernel_rfl
theorem HH:(List.range 10).map (λi=>Fr.s0 (f1 3 i))=(List.range 10).map (λJ=>Slot.aE):=by kernel_rfl
theorem Ia:∀p,PR.map (kj 3 p)=PR.map (λJ=>aa p):=by intro p;kernel_rfl
theorem HR:∀p,(List.range 10).map (λi=>fk jf (turn (fY 4) 0 (i / 2) (i % 2)) p)=(List.range 10).map (λi=>ai.next (f1 4 i) p):=by intro p;kernel_rfl
theorem HG:(List.range 10).map (λi=>Fr.s0 (f1 4 i))=(List.range 10).map (λJ=>Slot.aE):=by kernel_rfl
theorem H9:∀p,PR.map (kj 4 p)=PR.map (λJ=>aa p):=by intro p;kernel_rfl
theorem HQ:∀p,(List.range 10).map (λi=>fk jf (turn (fY 5) 0 (i / 2) (i % 2)) p)=(List.range 10).map (λi=>ai.next (f1 5 i) p):=by intro p;kernel_rfl
theorem HF:(List.range 10).map (λi=>Fr.s0 (f1 5 i))=(List.range 10).map (λJ=>Slot.aE):=by kernel_rfl
theorem H8:∀p,PR.map (kj 5 p)=PR.map (λJ=>aa p):=by intro p;kernel_rfl
theorem HP:∀p,(List.range 10).map (λi=>fk jf (turn (fY 6) 0 (i / 2) (i % 2)) p)=(List.range 10).map (λi=>ai.next (f1 6 i) p):=by intro p;kernel_rfl
theorem HE:(List.range 10).map (λi=>Fr.s0 (f1 6 i))=(List.range 10).map (λJ=>Slot.aE):=by kernel_rfl
theorem H7:∀p,PR.map (kj 6 p)=PR.map (λJ=>aa p):=by intro p;kernel_rfl
theorem HO:∀p,(List.range 10).map (λi=>fk jf (turn (fY 7) 0 (i / 2) (i % 2)) p)=(List.range 10).map (λi=>ai.next (f1 7 i) p):=by intro p;kernel_rfl
theorem HD:(List.range 10).map (λi=>Fr.s0 (f1 7 i))=(List.range 10).map (λJ=>Slot.aE):=by kernel_rfl
theorem H6:∀p,PR.map (kj 7 p)=PR.map (λJ=>aa p):=by intro p;kernel_rfl
theorem HN:∀p,(List.range 10).map (λi=>fk jf (turn (fY 8) 0 (i / 2) (i % 2)) p)=(List.range 10).map (λi=>ai.next (f1 8 i) p):=by intro p;kernel_rfl
theorem HB:(List.range 10).map (λi=>Fr.s0 (f1 8 i))=(List.range 10).map (λJ=>Slot.aE):=by kernel_rfl
theorem H5:∀p,PR.map (kj 8 p)=PR.map (λJ=>aa p):=by intro p;kernel_rfl
theorem HM:∀p,(List.range 10).map (λi=>fk jf (turn (fY 9) 0 (i / 2) (i % 2)) p)=(List.range 10).map (λi=>ai.next (f1 9 i) p):=by intro p;kernel_rfl
theorem HA:(List.range 10).map (λi=>Fr.s0 (f1 9 i))=(List.range 10).map (λJ=>Slot.aE):=by kernel_rfl
theorem H4:∀p,PR.map (kj 9 p)=PR.map (λJ=>aa p):=by intro p;kernel_rfl
theorem DL(k:Nat)(p:List V)(i:Nat):kj k p (i,10)=kH (nF jf (f1 k i) p):=rfl
theorem GD(k:Nat)(p:List V)(i:Nat){j:Nat}(h:Nat.beq j 10=ag):kj k p (i,j)=Ad jf (turn (f1 k i) 1 (j / 2) (j % 2)) p:=by
 unfold kj;show(match Nat.beq j 10 with|true=>_|false=>_)=_
 rw[h]
theorem dm{k t b:Nat}(hb:b<k):(k*t+b) / k=t/\(k*t+b) % k=b:=⟨by rw[Nat.mul_add_div (Nat.zero_lt_of_lt hb),Nat.div_eq_of_lt hb,Nat.add_zero],by rw[Nat.mul_add_mod,Nat.mod_eq_of_lt hb]⟩
theorem i2{t b:Nat}(hb:b<2):(2*t+b) / 2=t/\(2*t+b) % 2=b:=dm hb
theorem Iz{P:Nat->Prop}(h0:P 0)(h1:P 1)(h2:P 2)(h3:P 3)(h4:P 4)(h5:P 5)(h6:P 6)(h7:P 7)(h8:P 8)(h9:P 9)(k:Nat)(hk:k<10):P k:=by
 rcases k with _|_|_|_|_|_|_|_|_|_|k
 ·exact h0
 ·exact h1
 ·exact h2
 ·exact h3
 ·exact h4
 ·exact h5
 ·exact h6
 ·exact h7
 ·exact h8
 ·exact h9
 ·exact absurd hk (Nat.not_lt_of_le (Nat.le_add_left 10 k))
theorem Dg(k:Nat)(hk:k<10):∀p,(List.range 10).map (λi=>fk jf (turn (fY k) 0 (i / 2) (i % 2)) p)=(List.range 10).map (λi=>ai.next (f1 k i) p):=
 Iz (P:=λk=>∀p,(List.range 10).map (λi=>fk jf (turn (fY k) 0 (i / 2) (i % 2)) p)=(List.range 10).map (λi=>ai.next (f1 k i) p)) HW HU HT HS HR HQ HP HO HN HM k hk
theorem Dc(k:Nat)(hk:k<10):(List.range 10).map (λi=>Fr.s0 (f1 k i))=(List.range 10).map (λJ=>Slot.aE):=by
 match k,hk with
 | 0,_=>exact HK
 | 1,_=>exact HJ
 | 2,_=>exact HI
 | 3,_=>exact HH
 | 4,_=>exact HG
 | 5,_=>exact HF
 | 6,_=>exact HE
 | 7,_=>exact HD
 | 8,_=>exact HB
 | 9,_=>exact HA
theorem xF(k:Nat)(hk:k<10):∀p,PR.map (kj k p)=PR.map (λJ=>aa p):=by
 match k,hk with
 | 0,_=>exact Ie
 | 1,_=>exact Ic
 | 2,_=>exact Ib
 | 3,_=>exact Ia
 | 4,_=>exact H9
 | 5,_=>exact H8
 | 6,_=>exact H7
 | 7,_=>exact H6
 | 8,_=>exact H5
 | 9,_=>exact H4
theorem GA:gV sP where
 o133:=by kernel_rfl
 o138:=by kernel_rfl
 o139:=by kernel_rfl
 fac r0 r1 h0 h1 p:=by
  have:=range_all (Cb p) (i:=3*r0+r1) (by lia);rw[(dm h1).1,(dm h1).2]at this;exact this
 l0 k hk p:=range_all (DM p) hk
 q1 k t b hk ht hb p:=by
  have:=range_all (Dg k hk p) (i:=2*t+b) (by lia);unfold f1 at this;rw[(i2 hb).1,(i2 hb).2]at this;exact this
 s0 k t b hk ht hb:=by
  have:=range_all (Dc k hk) (i:=2*t+b) (by lia);unfold f1 at this;rw[(i2 hb).1,(i2 hb).2]at this;exact this
 l1 k t b hk ht hb p:=by
  have key:=(DL k p (2*t+b)).symm.trans (nL (xF k hk p) _ (xq (by lia) (by lia)));unfold f1 at key;rw[(i2 hb).1,(i2 hb).2]at key;exact key
 l2 k t b t' b' hk ht hb ht' hb' p:=by
  have hn:Nat.beq (2*t'+b') 10=ag:=by
   cases q:Nat.beq (2*t'+b') 10 with
   | false=>rfl
   | true=>have:=Nat.eq_of_beq_eq_true q;lia
  have key:=(GD k p (2*t+b) hn).symm.trans (nL (xF k hk p) _ (xq (by lia) (by lia)));unfold f1 at key;rw[(i2 hb).1,(i2 hb).2,(i2 hb').1,(i2 hb').2]at key;exact key
 e1:=D6
 e2 r hr ρ p:=range_all (D5 ρ p) hr
 e3 a b ha hb ρ p:=by
  have:=range_all (D4 ρ p) (i:=5*a+b) (by lia);rw[(dm hb).1,(dm hb).2]at this;exact this
end
section
open PySem PySem.Calls PyProof.Rows PySem.W
theorem final:fc.Holds:=holds GA (λJ J H=>xk H 15) Gz Hz
end
end Mine.Internal
theorem PySem.Challenge.cw_pf0068_01_holds : PySem.Challenge.rw_pf0068_01.Holds := by
 exact Mine.Internal.final
