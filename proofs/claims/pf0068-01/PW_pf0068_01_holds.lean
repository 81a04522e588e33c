import PyProof.Rows.All
import PySem.Syntax
import PySem.Eval
import PyProof.DictItems
import PyProof.EnumStmt
import PyProof.EnumMake
import PyProof.WalksEnum
import PyProof.RangeFor
import KE.KRevIter
import PyProof.MinMaxWalk
import PyProof.ConsumeWalk
import PyProof.ListCopy
import PyProof.TupleOfSeq
import PyProof.Rows.RuleN_isinstance
import PyProof.IsInstanceH
import PyProof.IsiPairs
import PyProof.Rows.MaxTwoN
import PyProof.Rows.SumAny
import PyProof.CallStr
import KE.LcSums
import PyProof.Rows.SortShell
import PyProof.Rows.SortWalk
import PyProof.Rows.SortStr
import PyProof.DictWalks
import PyProof.CollectIter
import KE.KDictOf
import PyProof.AttrMissHeap
import PyProof.RaisesMany
import PyProof.PureInt
import PyProof.AutoIntOps
import PyProof.AutoSeq1
import PyProof.MeetsSeq
import PyProof.AutoListH
import PyProof.MeetsDictList
import PyProof.Cells
import KE.KLam
import PyProof.ExcInit
import PyProof.InstStoreFacts
import PyProof.ExcBaseAll.Exception
import PyProof.AssignAttr
import OpenK.KMore
import PyProof.ExcArgs
import PyProof.RulesDel
import KE.KItemsList
import KE.KSortTup
import OpenK.AllK
import Lean
import PySem.Challenge.RW_pf0068_01
set_option autoImplicit false
set_option maxRecDepth 100000
set_option maxHeartbeats 0
set_option Elab.async false
namespace Mine
open PySem
inductive V where
 | none
 | bool (b:Bool)
 | int (i:Int)
 | str (s:List Nat)
 | tup (l:List V)
 | lst (l:List V)
 | aQ (ks vs:List V)
 | clo (f:Nat) (caps:List V)
 deriving Inhabited
inductive Slot where
 | undef
 | val (v:V)
 | own (v:V)
 | au
 deriving Inhabited
inductive Res where
 | stuck
 | ok (v:V) (p:List V)
 | exc (k:List Nat) (p:List V)
inductive aw where
 | stuck
 | ok (l:List V) (p:List V)
 | exc (k:List Nat) (p:List V)
inductive aH where
 | stuck
 | ok (l:List Slot) (p:List V)
 | exc (k:List Nat) (p:List V)
structure Fr where
 s0:Slot
 s1:Slot
 s2:Slot
 s3:Slot
 s4:Slot
 s5:Slot
 s6:Slot
 s7:Slot
 s8:Slot
 s9:Slot
 s10:Slot
 s11:Slot
 s12:Slot
 s13:Slot
 s14:Slot
 s15:Slot
 deriving Inhabited
inductive af where
 | stuck
 | next (ρ:Fr) (p:List V)
 | brk (ρ:Fr) (p:List V)
 | cont (ρ:Fr) (p:List V)
 | ret (v:V) (ρ:Fr) (p:List V)
 | exc (k:List Nat) (ρ:Fr) (p:List V)
abbrev Call:=Nat→List Slot→List V→Res
abbrev aq:=Call→Fr→List V→Res
abbrev bb:=Call→Fr→List V→af
abbrev G:=Call→Fr→List V→aw
abbrev cZ:=Fr→Slot
abbrev bw:=Fr→Slot→Fr
noncomputable section
def fS:bw:=fun f v=>@Fr.rec (fun _=>Fr) (fun _ s1 s2 s3 s4 s5 s6 s7 s8 s9 s10 s11 s12 s13 s14 s15=>Fr.mk v s1 s2 s3 s4 s5 s6 s7 s8 s9 s10 s11 s12 s13 s14 s15) f
def aK:bw:=fun f v=>@Fr.rec (fun _=>Fr) (fun s0 _ s2 s3 s4 s5 s6 s7 s8 s9 s10 s11 s12 s13 s14 s15=>Fr.mk s0 v s2 s3 s4 s5 s6 s7 s8 s9 s10 s11 s12 s13 s14 s15) f
def aC:bw:=fun f v=>@Fr.rec (fun _=>Fr) (fun s0 s1 _ s3 s4 s5 s6 s7 s8 s9 s10 s11 s12 s13 s14 s15=>Fr.mk s0 s1 v s3 s4 s5 s6 s7 s8 s9 s10 s11 s12 s13 s14 s15) f
def aI:bw:=fun f v=>@Fr.rec (fun _=>Fr) (fun s0 s1 s2 _ s4 s5 s6 s7 s8 s9 s10 s11 s12 s13 s14 s15=>Fr.mk s0 s1 s2 v s4 s5 s6 s7 s8 s9 s10 s11 s12 s13 s14 s15) f
def aX:bw:=fun f v=>@Fr.rec (fun _=>Fr) (fun s0 s1 s2 s3 _ s5 s6 s7 s8 s9 s10 s11 s12 s13 s14 s15=>Fr.mk s0 s1 s2 s3 v s5 s6 s7 s8 s9 s10 s11 s12 s13 s14 s15) f
def bq:bw:=fun f v=>@Fr.rec (fun _=>Fr) (fun s0 s1 s2 s3 s4 _ s6 s7 s8 s9 s10 s11 s12 s13 s14 s15=>Fr.mk s0 s1 s2 s3 s4 v s6 s7 s8 s9 s10 s11 s12 s13 s14 s15) f
def cj:bw:=fun f v=>@Fr.rec (fun _=>Fr) (fun s0 s1 s2 s3 s4 s5 _ s7 s8 s9 s10 s11 s12 s13 s14 s15=>Fr.mk s0 s1 s2 s3 s4 s5 v s7 s8 s9 s10 s11 s12 s13 s14 s15) f
def eT:bw:=fun f v=>@Fr.rec (fun _=>Fr) (fun s0 s1 s2 s3 s4 s5 s6 _ s8 s9 s10 s11 s12 s13 s14 s15=>Fr.mk s0 s1 s2 s3 s4 s5 s6 v s8 s9 s10 s11 s12 s13 s14 s15) f
def iD:bw:=fun f v=>@Fr.rec (fun _=>Fr) (fun s0 s1 s2 s3 s4 s5 s6 s7 _ s9 s10 s11 s12 s13 s14 s15=>Fr.mk s0 s1 s2 s3 s4 s5 s6 s7 v s9 s10 s11 s12 s13 s14 s15) f
def mJ:bw:=fun f v=>@Fr.rec (fun _=>Fr) (fun s0 s1 s2 s3 s4 s5 s6 s7 s8 _ s10 s11 s12 s13 s14 s15=>Fr.mk s0 s1 s2 s3 s4 s5 s6 s7 s8 v s10 s11 s12 s13 s14 s15) f
def n5:bw:=fun f v=>@Fr.rec (fun _=>Fr) (fun s0 s1 s2 s3 s4 s5 s6 s7 s8 s9 _ s11 s12 s13 s14 s15=>Fr.mk s0 s1 s2 s3 s4 s5 s6 s7 s8 s9 v s11 s12 s13 s14 s15) f
def rm:bw:=fun f v=>@Fr.rec (fun _=>Fr) (fun s0 s1 s2 s3 s4 s5 s6 s7 s8 s9 s10 _ s12 s13 s14 s15=>Fr.mk s0 s1 s2 s3 s4 s5 s6 s7 s8 s9 s10 v s12 s13 s14 s15) f
def Ad:bw:=fun f v=>@Fr.rec (fun _=>Fr) (fun s0 s1 s2 s3 s4 s5 s6 s7 s8 s9 s10 s11 _ s13 s14 s15=>Fr.mk s0 s1 s2 s3 s4 s5 s6 s7 s8 s9 s10 s11 v s13 s14 s15) f
def Ac:bw:=fun f v=>@Fr.rec (fun _=>Fr) (fun s0 s1 s2 s3 s4 s5 s6 s7 s8 s9 s10 s11 s12 _ s14 s15=>Fr.mk s0 s1 s2 s3 s4 s5 s6 s7 s8 s9 s10 s11 s12 v s14 s15) f
def Ab:bw:=fun f v=>@Fr.rec (fun _=>Fr) (fun s0 s1 s2 s3 s4 s5 s6 s7 s8 s9 s10 s11 s12 s13 _ s15=>Fr.mk s0 s1 s2 s3 s4 s5 s6 s7 s8 s9 s10 s11 s12 s13 v s15) f
def Aa:bw:=fun f v=>@Fr.rec (fun _=>Fr) (fun s0 s1 s2 s3 s4 s5 s6 s7 s8 s9 s10 s11 s12 s13 s14 _=>Fr.mk s0 s1 s2 s3 s4 s5 s6 s7 s8 s9 s10 s11 s12 s13 s14 v) f
def ay:Nat→cZ
 | 0=>Fr.s0
 | 1=>Fr.s1
 | 2=>Fr.s2
 | 3=>Fr.s3
 | 4=>Fr.s4
 | 5=>Fr.s5
 | 6=>Fr.s6
 | 7=>Fr.s7
 | 8=>Fr.s8
 | 9=>Fr.s9
 | 10=>Fr.s10
 | 11=>Fr.s11
 | 12=>Fr.s12
 | 13=>Fr.s13
 | 14=>Fr.s14
 | 15=>Fr.s15
 | _=>fun _=>.undef
def sets:Nat→bw
 | 0=>fS
 | 1=>aK
 | 2=>aC
 | 3=>aI
 | 4=>aX
 | 5=>bq
 | 6=>cj
 | 7=>eT
 | 8=>iD
 | 9=>mJ
 | 10=>n5
 | 11=>rm
 | 12=>Ad
 | 13=>Ac
 | 14=>Ab
 | 15=>Aa
 | _=>fun ρ _=>ρ
def dM {α:Type} (l:List α):Nat→Option α:=
 @List.rec α (fun _=>Nat→Option α) (fun _=>none) (fun a _ ih=>fun n=>(@Nat.rec (fun _=>Option α) (some a) (fun m _=>ih m) n)) l
def setAt {α:Type} (l:List α):Nat→α→List α:=
 @List.rec α (fun _=>Nat→α→List α) (fun _ _=>[]) (fun a r ih=>fun n x=>(@Nat.rec (fun _=>List α) (x::r) (fun m _=>a::ih m x) n)) l
def cW {α:Type} (l:List α):Nat:=
 @List.rec α (fun _=>Nat) (0) (fun _ _ ih=>Nat.succ ih) l
def app {α:Type} (l m:List α):List α:=
 @List.rec α (fun _=>List α) (m) (fun a _ ih=>a::ih) l
def short {α:Type} (n:Nat) (l:List α):Bool:=
 @List.rec α (fun _=>Nat→Bool) (fun _=>true) (fun _ _ ih=>fun n=>(@Nat.rec (fun _=>Bool) (false) (fun m _=>ih m) n)) l n
abbrev lid:Nat:=3000
def jd (a:Bool):Bool:=
 (@Bool.rec (fun _=>Bool) (true) (false) a)
def fG (l:List Nat):List Nat→Bool:=
 @List.rec Nat (fun _=>List Nat→Bool) (fun m=>(@List.rec Nat (fun _=>Bool) (true) (fun _ _ _=>false) m)) (fun a _ ih=>fun m=>(@List.rec Nat (fun _=>Bool) (false) (fun b r _=>(@Bool.rec (fun _=>Bool) (false) (ih r) (Nat.beq a b))) m)) l
def fF (l:List Nat):List Nat→Bool:=
 @List.rec Nat (fun _=>List Nat→Bool) (fun m=>(@List.rec Nat (fun _=>Bool) (false) (fun _ _ _=>true) m)) (fun a _ ih=>fun m=>(@List.rec Nat (fun _=>Bool) (false) (fun b r _=>(@Bool.rec (fun _=>Bool) ((@Bool.rec (fun _=>Bool) (false) (ih r) (Nat.beq a b))) (true) (Nat.blt a b))) m)) l
def nF (a b:Int):Bool:=
 (@Int.rec (fun _=>Bool) (fun m=>(@Int.rec (fun _=>Bool) (fun n=>Nat.beq m n) (fun _=>false) b)) (fun m=>(@Int.rec (fun _=>Bool) (fun _=>false) (fun n=>Nat.beq m n) b)) a)
def kU (a b:Int):Bool:=
 (@Int.rec (fun _=>Bool) (fun m=>(@Int.rec (fun _=>Bool) (fun n=>Nat.blt m n) (fun _=>false) b)) (fun m=>(@Int.rec (fun _=>Bool) (fun _=>true) (fun n=>Nat.blt n m) b)) a)
def sT (a b:Int):Bool:=
 jd (kU b a)
def rh (m n:Nat):Int:=
 @Bool.rec (fun _=>Int) (.negSucc (Nat.pred (Nat.sub n m))) (.ofNat (Nat.sub m n)) (Nat.ble n m)
def bR (a b:Int):Int:=
 (@Int.rec (fun _=>Int) (fun m=>(@Int.rec (fun _=>Int) (fun n=>.ofNat (Nat.add m n)) (fun n=>rh m (Nat.succ n)) b)) (fun m=>(@Int.rec (fun _=>Int) (fun n=>rh n (Nat.succ m)) (fun n=>.negSucc (Nat.succ (Nat.add m n))) b)) a)
def mR (n:Nat):Int:=
 (@Nat.rec (fun _=>Int) (.ofNat 0) (fun m _=>.negSucc m) n)
def uk (a:Int):Int:=
 (@Int.rec (fun _=>Int) (fun m=>mR m) (fun m=>.ofNat (Nat.succ m)) a)
def dw (a b:Int):Int:=
 bR a (uk b)
def eV (a b:Int):Int:=
 (@Int.rec (fun _=>Int) (fun m=>(@Int.rec (fun _=>Int) (fun n=>.ofNat (Nat.mul m n)) (fun n=>mR (Nat.mul m (Nat.succ n))) b)) (fun m=>(@Int.rec (fun _=>Int) (fun n=>mR (Nat.mul (Nat.succ m) n)) (fun n=>.ofNat (Nat.mul (Nat.succ m) (Nat.succ n))) b)) a)
def mY (a b:Int):Int:=
 (@Int.rec (fun _=>Int) (fun m=>(@Int.rec (fun _=>Int) (fun n=>.ofNat (Nat.div m n)) (fun n=>(@Nat.rec (fun _=>Int) (.ofNat 0) (fun k _=>.negSucc (Nat.div k (Nat.succ n))) m)) b)) (fun m=>(@Int.rec (fun _=>Int) (fun n=>(@Nat.rec (fun _=>Int) (.ofNat 0) (fun k _=>.negSucc (Nat.div m (Nat.succ k))) n)) (fun n=>.ofNat (Nat.div (Nat.succ m) (Nat.succ n))) b)) a)
def mX (a b:Int):Int:=
 (@Int.rec (fun _=>Int) (fun m=>(@Int.rec (fun _=>Int) (fun n=>.ofNat (Nat.mod m n)) (fun n=>(@Nat.rec (fun _=>Int) (.ofNat 0) (fun k _=>bR (.negSucc n) (.ofNat (Nat.succ (Nat.mod k (Nat.succ n))))) m)) b)) (fun m=>(@Int.rec (fun _=>Int) (fun n=>dw (.ofNat n) (.ofNat (Nat.succ (Nat.mod m n)))) (fun n=>mR (Nat.mod (Nat.succ m) (Nat.succ n))) b)) a)
def fb (a:Int):Bool:=
 (@Int.rec (fun _=>Bool) (fun n=>Nat.blt n 18446744073709551616) (fun n=>Nat.blt n 18446744073709551615) a)
def iM (a:Int):Nat:=
 (@Int.rec (fun _=>Nat) (fun n=>n) (fun _=>0) a)
def yA (a:Int):Int:=
 (@Int.rec (fun _=>Int) (fun n=>.ofNat n) (fun n=>.ofNat (Nat.succ n)) a)
def uj (a:Int) (n:Nat):Int:=
 @Nat.rec (fun _=>Int) (.ofNat 1) (fun _ ih=>eV ih a) n
def nI (f:V→V→Option Bool) (l:List V):List V→Option Bool:=
 @List.rec V (fun _=>List V→Option Bool) (fun m=>(@List.rec V (fun _=>Option Bool) (some true) (fun _ _ _=>some false) m)) (fun x _ ih=>fun m=>(@List.rec V (fun _=>Option Bool) (some false) (fun y r _=>(@Option.rec Bool (fun _=>Option Bool) (none) (fun b=>(@Bool.rec (fun _=>Option Bool) (some false) (ih r) b)) (f x y))) m)) l
def cY (n:Nat):V→V→Option Bool:=
 @Nat.rec (fun _=>V→V→Option Bool) (fun _ _=>none) (fun _ ih a b=>(@V.rec (fun _=>Option Bool) (fun _=>Unit) ((@V.rec (fun _=>Option Bool) (fun _=>Unit) (some true) (fun _=>none) (fun _=>none) (fun _=>none) (fun _ _=>some false) (fun _ _=>none) (fun _ _ _ _=>none) (fun _ _ _=>none) () (fun _ _ _ _=>()) b)) (fun x=>(@V.rec (fun _=>Option Bool) (fun _=>Unit) (none) (fun y=>some (@Bool.rec (fun _=>Bool) (jd y) (y) x)) (fun _=>none) (fun _=>none) (fun _ _=>none) (fun _ _=>none) (fun _ _ _ _=>none) (fun _ _ _=>none) () (fun _ _ _ _=>()) b)) (fun x=>(@V.rec (fun _=>Option Bool) (fun _=>Unit) (none) (fun _=>none) (fun y=>some (nF x y)) (fun _=>none) (fun _ _=>none) (fun _ _=>none) (fun _ _ _ _=>none) (fun _ _ _=>none) () (fun _ _ _ _=>()) b)) (fun x=>(@V.rec (fun _=>Option Bool) (fun _=>Unit) (none) (fun _=>none) (fun _=>none) (fun y=>some (fG x y)) (fun _ _=>none) (fun _ _=>none) (fun _ _ _ _=>none) (fun _ _ _=>none) () (fun _ _ _ _=>()) b)) (fun x _=>(@V.rec (fun _=>Option Bool) (fun _=>Unit) (some false) (fun _=>none) (fun _=>none) (fun _=>none) (fun y _=>nI ih x y) (fun _ _=>none) (fun _ _ _ _=>none) (fun _ _ _=>none) () (fun _ _ _ _=>()) b)) (fun x _=>(@V.rec (fun _=>Option Bool) (fun _=>Unit) (none) (fun _=>none) (fun _=>none) (fun _=>none) (fun _ _=>none) (fun y _=>(@Bool.rec (fun _=>Option Bool) (some false) (nI ih x y) (Nat.beq (cW x) (cW y)))) (fun _ _ _ _=>none) (fun _ _ _=>none) () (fun _ _ _ _=>()) b)) (fun _ _ _ _=>none) (fun _ _ _=>none) () (fun _ _ _ _=>()) a)) n
abbrev dc:Nat:=60
def cD (l:List V) (x:V):Nat→Option (Option Nat):=
 @List.rec V (fun _=>Nat→Option (Option Nat)) (fun _=>some none) (fun k _ ih=>fun i=>(@Option.rec Bool (fun _=>Option (Option Nat)) (none) (fun b=>(@Option.rec (Option Nat) (fun _=>Option (Option Nat)) (none) (fun o=>(@Bool.rec (fun _=>Option (Option Nat)) (some o) ((@Option.rec Nat (fun _=>Option (Option Nat)) (some (some i)) (fun _=>none) o)) b)) (ih (Nat.succ i)))) (cY dc k x))) l
def allB (f:V→Bool) (l:List V):Bool:=
 @List.rec V (fun _=>Bool) (true) (fun v _ ih=>(@Bool.rec (fun _=>Bool) (false) (ih) (f v))) l
def keyOk (n:Nat):V→Bool:=
 @Nat.rec (fun _=>V→Bool) (fun _=>false) (fun _ ih v=>(@V.rec (fun _=>Bool) (fun _=>Unit) (false) (fun _=>false) (fun _=>true) (fun _=>true) (fun l _=>allB ih l) (fun _ _=>false) (fun _ _ _ _=>false) (fun _ _ _=>false) () (fun _ _ _ _=>()) v)) n
def ba (a b:V):Option V:=
 (@V.rec (fun _=>Option V) (fun _=>Unit) (none) (fun _=>none) (fun x=>(@V.rec (fun _=>Option V) (fun _=>Unit) (none) (fun _=>none) (fun y=>some (.int (bR x y))) (fun _=>none) (fun _ _=>none) (fun _ _=>none) (fun _ _ _ _=>none) (fun _ _ _=>none) () (fun _ _ _ _=>()) b)) (fun x=>(@V.rec (fun _=>Option V) (fun _=>Unit) (none) (fun _=>none) (fun _=>none) (fun y=>(@Bool.rec (fun _=>Option V) (none) ((@Bool.rec (fun _=>Option V) (none) (some (.str (app x y))) (short lid y))) (short lid x))) (fun _ _=>none) (fun _ _=>none) (fun _ _ _ _=>none) (fun _ _ _=>none) () (fun _ _ _ _=>()) b)) (fun x _=>(@V.rec (fun _=>Option V) (fun _=>Unit) (none) (fun _=>none) (fun _=>none) (fun _=>none) (fun y _=>(@Bool.rec (fun _=>Option V) (none) ((@Bool.rec (fun _=>Option V) (none) (some (.tup (app x y))) (short lid y))) (short lid x))) (fun _ _=>none) (fun _ _ _ _=>none) (fun _ _ _=>none) () (fun _ _ _ _=>()) b)) (fun x _=>(@V.rec (fun _=>Option V) (fun _=>Unit) (none) (fun _=>none) (fun _=>none) (fun _=>none) (fun _ _=>none) (fun y _=>(@Bool.rec (fun _=>Option V) (none) ((@Bool.rec (fun _=>Option V) (none) (some (.lst (app x y))) (short lid y))) (short lid x))) (fun _ _ _ _=>none) (fun _ _ _=>none) () (fun _ _ _ _=>()) b)) (fun _ _ _ _=>none) (fun _ _ _=>none) () (fun _ _ _ _=>()) a)
def yy (x y:Bool):Int:=
 (@Bool.rec (fun _=>Int) ((@Bool.rec (fun _=>Int) (.ofNat 0) (.negSucc 0) y)) ((@Bool.rec (fun _=>Int) (.ofNat 1) (.ofNat 0) y)) x)
def bj (a b:V):Option V:=
 (@V.rec (fun _=>Option V) (fun _=>Unit) (none) (fun x=>(@V.rec (fun _=>Option V) (fun _=>Unit) (none) (fun y=>some (.int (yy x y))) (fun _=>none) (fun _=>none) (fun _ _=>none) (fun _ _=>none) (fun _ _ _ _=>none) (fun _ _ _=>none) () (fun _ _ _ _=>()) b)) (fun x=>(@V.rec (fun _=>Option V) (fun _=>Unit) (none) (fun _=>none) (fun y=>some (.int (dw x y))) (fun _=>none) (fun _ _=>none) (fun _ _=>none) (fun _ _ _ _=>none) (fun _ _ _=>none) () (fun _ _ _ _=>()) b)) (fun _=>none) (fun _ _=>none) (fun _ _=>none) (fun _ _ _ _=>none) (fun _ _ _=>none) () (fun _ _ _ _=>()) a)
def rep {α:Type} (n:Nat) (l:List α):List α:=
 @Nat.rec (fun _=>List α) [] (fun _ ih=>app l ih) n
def bg (a b:V):Option V:=
 (@V.rec (fun _=>Option V) (fun _=>Unit) (none) (fun _=>none) (fun x=>(@V.rec (fun _=>Option V) (fun _=>Unit) (none) (fun _=>none) (fun y=>(@Bool.rec (fun _=>Option V) ((@Bool.rec (fun _=>Option V) (none) (some (.int (eV x y))) (fb y))) (some (.int (eV x y))) (fb x))) (fun _=>none) (fun _ _=>none) (fun _ _=>none) (fun _ _ _ _=>none) (fun _ _ _=>none) () (fun _ _ _ _=>()) b)) (fun _=>none) (fun _ _=>none) (fun x _=>(@V.rec (fun _=>Option V) (fun _=>Unit) (none) (fun _=>none) (fun y=>(@Bool.rec (fun _=>Option V) (none) ((@Int.rec (fun _=>Option V) (fun n=>(@Bool.rec (fun _=>Option V) (none) (some (.lst (rep n x))) (Nat.blt n 300))) (fun _=>none) y)) (short 8 x))) (fun _=>none) (fun _ _=>none) (fun _ _=>none) (fun _ _ _ _=>none) (fun _ _ _=>none) () (fun _ _ _ _=>()) b)) (fun _ _ _ _=>none) (fun _ _ _=>none) () (fun _ _ _ _=>()) a)
def eY (f:Int→Int→Int) (a b:V):Option V:=
 (@V.rec (fun _=>Option V) (fun _=>Unit) (none) (fun _=>none) (fun x=>(@V.rec (fun _=>Option V) (fun _=>Unit) (none) (fun _=>none) (fun y=>some (.int (f x y))) (fun _=>none) (fun _ _=>none) (fun _ _=>none) (fun _ _ _ _=>none) (fun _ _ _=>none) () (fun _ _ _ _=>()) b)) (fun _=>none) (fun _ _=>none) (fun _ _=>none) (fun _ _ _ _=>none) (fun _ _ _=>none) () (fun _ _ _ _=>()) a)
def ko (op:Operator):V→V→Option V:=match op with
 | .Add=>eY bR
 | .Sub=>eY dw
 | _=>fun _ _=>none
def dS (a b:V):Option V:=
 (@V.rec (fun _=>Option V) (fun _=>Unit) (none) (fun _=>none) (fun x=>(@V.rec (fun _=>Option V) (fun _=>Unit) (none) (fun _=>none) (fun y=>(@Bool.rec (fun _=>Option V) ((@Bool.rec (fun _=>Option V) (none) (some (.int (mY x y))) (fb y))) (none) (nF y (.ofNat 0)))) (fun _=>none) (fun _ _=>none) (fun _ _=>none) (fun _ _ _ _=>none) (fun _ _ _=>none) () (fun _ _ _ _=>()) b)) (fun _=>none) (fun _ _=>none) (fun _ _=>none) (fun _ _ _ _=>none) (fun _ _ _=>none) () (fun _ _ _ _=>()) a)
def eC (a b:V):Option V:=
 (@V.rec (fun _=>Option V) (fun _=>Unit) (none) (fun _=>none) (fun x=>(@V.rec (fun _=>Option V) (fun _=>Unit) (none) (fun _=>none) (fun y=>(@Bool.rec (fun _=>Option V) (some (.int (mX x y))) (none) (nF y (.ofNat 0)))) (fun _=>none) (fun _ _=>none) (fun _ _=>none) (fun _ _ _ _=>none) (fun _ _ _=>none) () (fun _ _ _ _=>()) b)) (fun _=>none) (fun _ _=>none) (fun _ _=>none) (fun _ _ _ _=>none) (fun _ _ _=>none) () (fun _ _ _ _=>()) a)
def iF (a b:V):Option V:=
 (@V.rec (fun _=>Option V) (fun _=>Unit) (none) (fun _=>none) (fun x=>(@V.rec (fun _=>Option V) (fun _=>Unit) (none) (fun _=>none) (fun y=>(@Int.rec (fun _=>Option V) (fun n=>(@Bool.rec (fun _=>Option V) (none) ((@Bool.rec (fun _=>Option V) (none) (some (.int (uj x n))) (Nat.blt n 1000))) (fb x))) (fun _=>none) y)) (fun _=>none) (fun _ _=>none) (fun _ _=>none) (fun _ _ _ _=>none) (fun _ _ _=>none) () (fun _ _ _ _=>()) b)) (fun _=>none) (fun _ _=>none) (fun _ _=>none) (fun _ _ _ _=>none) (fun _ _ _=>none) () (fun _ _ _ _=>()) a)
def yt (op:Operator):V→V→Option V:=match op with
 | .Add=>ba
 | .Sub=>bj
 | .Mult=>bg
 | .FloorDiv=>dS
 | .Mod=>eC
 | .Pow=>iF
 | _=>fun _ _=>none
def kJ (o:Option Bool):Option V:=
 (@Option.rec Bool (fun _=>Option V) (none) (fun b=>some (.bool b)) o)
def tX (o:Option Bool):Option Bool:=
 (@Option.rec Bool (fun _=>Option Bool) (none) (fun b=>some (jd b)) o)
def sS (x:V) (l:List V):Option Bool:=
 @List.rec V (fun _=>Option Bool) (some false) (fun y _ ih=>(@Option.rec Bool (fun _=>Option Bool) (none) (fun b=>(@Bool.rec (fun _=>Option Bool) (ih) (some true) b)) (cY dc y x))) l
def u0 (x c:V):Option Bool:=
 (@V.rec (fun _=>Option Bool) (fun _=>Unit) (none) (fun _=>none) (fun _=>none) (fun _=>none) (fun l _=>sS x l) (fun l _=>sS x l) (fun ks vs _ _=>(@Bool.rec (fun _=>Option Bool) (none) ((@Option.rec (Option Nat) (fun _=>Option Bool) (none) (fun o=>(@Option.rec Nat (fun _=>Option Bool) (some false) (fun _=>some true) o)) (cD ks x 0))) (keyOk 8 x))) (fun _ _ _=>none) () (fun _ _ _ _=>()) c)
def isNone (v:V):Bool:=
 (@V.rec (fun _=>Bool) (fun _=>Unit) (true) (fun _=>false) (fun _=>false) (fun _=>false) (fun _ _=>false) (fun _ _=>false) (fun _ _ _ _=>false) (fun _ _ _=>false) () (fun _ _ _ _=>()) v)
def aF (a b:V):Option V:=
 kJ (cY dc a b)
def cF (a b:V):Option V:=
 kJ (tX (cY dc a b))
def dq (a b:V):Option V:=
 (@V.rec (fun _=>Option V) (fun _=>Unit) (none) (fun _=>none) (fun x=>(@V.rec (fun _=>Option V) (fun _=>Unit) (none) (fun _=>none) (fun y=>some (.bool (kU x y))) (fun _=>none) (fun _ _=>none) (fun _ _=>none) (fun _ _ _ _=>none) (fun _ _ _=>none) () (fun _ _ _ _=>()) b)) (fun x=>(@V.rec (fun _=>Option V) (fun _=>Unit) (none) (fun _=>none) (fun _=>none) (fun y=>some (.bool (fF x y))) (fun _ _=>none) (fun _ _=>none) (fun _ _ _ _=>none) (fun _ _ _=>none) () (fun _ _ _ _=>()) b)) (fun _ _=>none) (fun _ _=>none) (fun _ _ _ _=>none) (fun _ _ _=>none) () (fun _ _ _ _=>()) a)
def nC (a b:V):Option V:=
 (@V.rec (fun _=>Option V) (fun _=>Unit) (none) (fun _=>none) (fun x=>(@V.rec (fun _=>Option V) (fun _=>Unit) (none) (fun _=>none) (fun y=>some (.bool (sT x y))) (fun _=>none) (fun _ _=>none) (fun _ _=>none) (fun _ _ _ _=>none) (fun _ _ _=>none) () (fun _ _ _ _=>()) b)) (fun _=>none) (fun _ _=>none) (fun _ _=>none) (fun _ _ _ _=>none) (fun _ _ _=>none) () (fun _ _ _ _=>()) a)
def bU (a b:V):Option V:=
 (@V.rec (fun _=>Option V) (fun _=>Unit) (none) (fun _=>none) (fun x=>(@V.rec (fun _=>Option V) (fun _=>Unit) (none) (fun _=>none) (fun y=>some (.bool (kU y x))) (fun _=>none) (fun _ _=>none) (fun _ _=>none) (fun _ _ _ _=>none) (fun _ _ _=>none) () (fun _ _ _ _=>()) b)) (fun _=>none) (fun _ _=>none) (fun _ _=>none) (fun _ _ _ _=>none) (fun _ _ _=>none) () (fun _ _ _ _=>()) a)
def pq (a b:V):Option V:=
 (@V.rec (fun _=>Option V) (fun _=>Unit) (none) (fun _=>none) (fun x=>(@V.rec (fun _=>Option V) (fun _=>Unit) (none) (fun _=>none) (fun y=>some (.bool (sT y x))) (fun _=>none) (fun _ _=>none) (fun _ _=>none) (fun _ _ _ _=>none) (fun _ _ _=>none) () (fun _ _ _ _=>()) b)) (fun _=>none) (fun _ _=>none) (fun _ _=>none) (fun _ _ _ _=>none) (fun _ _ _=>none) () (fun _ _ _ _=>()) a)
def kR (a b:V):Option V:=
 (@V.rec (fun _=>Option V) (fun _=>Unit) (some (.bool (isNone a))) (fun _=>none) (fun _=>none) (fun _=>none) (fun _ _=>none) (fun _ _=>none) (fun _ _ _ _=>none) (fun _ _ _=>none) () (fun _ _ _ _=>()) b)
def n9 (a b:V):Option V:=
 (@V.rec (fun _=>Option V) (fun _=>Unit) (some (.bool (jd (isNone a)))) (fun _=>none) (fun _=>none) (fun _=>none) (fun _ _=>none) (fun _ _=>none) (fun _ _ _ _=>none) (fun _ _ _=>none) () (fun _ _ _ _=>()) b)
def kc (a b:V):Option V:=
 kJ (u0 a b)
def tY (a b:V):Option V:=
 kJ (tX (u0 a b))
def yn (op:CmpOp):V→V→Option V:=match op with
 | .Eq=>aF
 | .NotEq=>cF
 | .Lt=>dq
 | .LtE=>nC
 | .Gt=>bU
 | .GtE=>pq
 | .Is=>kR
 | .IsNot=>n9
 | .In=>kc
 | .NotIn=>tY
def rE (l:List V) (i:Int):Option V:=
 (@Int.rec (fun _=>Option V) (fun n=>dM l n) (fun n=>(@Bool.rec (fun _=>Option V) (none) (dM l (Nat.pred (Nat.sub (cW l) n))) (Nat.blt n (cW l)))) i)
def ah (o i:V):Option V:=
 (@V.rec (fun _=>Option V) (fun _=>Unit) (none) (fun _=>none) (fun _=>none) (fun _=>none) (fun l _=>(@V.rec (fun _=>Option V) (fun _=>Unit) (none) (fun _=>none) (fun i=>rE l i) (fun _=>none) (fun _ _=>none) (fun _ _=>none) (fun _ _ _ _=>none) (fun _ _ _=>none) () (fun _ _ _ _=>()) i)) (fun l _=>(@V.rec (fun _=>Option V) (fun _=>Unit) (none) (fun _=>none) (fun i=>rE l i) (fun _=>none) (fun _ _=>none) (fun _ _=>none) (fun _ _ _ _=>none) (fun _ _ _=>none) () (fun _ _ _ _=>()) i)) (fun ks vs _ _=>(@Bool.rec (fun _=>Option V) (none) ((@Option.rec (Option Nat) (fun _=>Option V) (none) (fun o=>(@Option.rec Nat (fun _=>Option V) (none) (fun n=>dM vs n) o)) (cD ks i 0))) (keyOk 8 i))) (fun _ _ _=>none) () (fun _ _ _ _=>()) o)
def lW {α:Type} (l:List α):Nat→List α:=
 @List.rec α (fun _=>Nat→List α) (fun _=>[]) (fun a _ ih=>fun n=>(@Nat.rec (fun _=>List α) ([]) (fun m _=>a::ih m) n)) l
def kG {α:Type} (l:List α):Nat→List α:=
 @List.rec α (fun _=>Nat→List α) (fun _=>[]) (fun a r ih=>fun n=>(@Nat.rec (fun _=>List α) (a::r) (fun m _=>ih m) n)) l
def h9 (n:Nat) (i:Int):Nat:=
 (@Int.rec (fun _=>Nat) (fun k=>@Bool.rec (fun _=>Nat) n k (Nat.ble k n)) (fun k=>Nat.sub n (Nat.succ k)) i)
def jW (l:List V) (lo hi:Option Int):List V:=
 kG (lW l (@Option.rec Int (fun _=>Nat) (cW l) (fun i=>h9 (cW l) i) hi)) (@Option.rec Int (fun _=>Nat) (0) (fun i=>h9 (cW l) i) lo)
def xn (l:List V) (lo hi:Option Int):Option V:=
 (@Option.rec Int (fun _=>Option V) ((@Option.rec Int (fun _=>Option V) (none) (fun i=>(@Int.rec (fun _=>Option V) (fun n=>(@Bool.rec (fun _=>Option V) (none) ((@Bool.rec (fun _=>Option V) (none) (some (.tup (kG l n))) (Nat.ble n (cW l)))) (Nat.ble 1 n))) (fun _=>none) i)) lo)) (fun _=>none) hi)
def jV (o:V) (lo hi:Option Int):Option V:=
 (@V.rec (fun _=>Option V) (fun _=>Unit) (none) (fun _=>none) (fun _=>none) (fun _=>none) (fun l _=>xn l lo hi) (fun l _=>some (.lst (jW l lo hi))) (fun _ _ _ _=>none) (fun _ _ _=>none) () (fun _ _ _ _=>()) o)
def aD (o:V):Option V:=
 (@V.rec (fun _=>Option V) (fun _=>Unit) (none) (fun _=>none) (fun _=>none) (fun _=>none) (fun l _=>some (.int (.ofNat (cW l)))) (fun l _=>some (.int (.ofNat (cW l)))) (fun ks vs _ _=>some (.int (.ofNat (cW ks)))) (fun _ _ _=>none) () (fun _ _ _ _=>()) o)
def fX (a b:Int):Int:=
 (@Bool.rec (fun _=>Int) (a) (b) (kU a b))
def xT (a b:Int):Int:=
 (@Bool.rec (fun _=>Int) (a) (b) (kU b a))
def allInts:List V→Option (List Int)
 | []=>some []
 | .int i::r=>match allInts r with
  | some l=>some (i::l)
  | none=>none
 | _=>none
def maxL:List Int→Int→Int
 | [],m=>m
 | i::r,m=>maxL r (fX m i)
def iY:List Int→Int→Int
 | [],m=>m
 | i::r,m=>iY r (bR m i)
def insI (x:Int):List Int→List Int
 | []=>[x]
 | y::r=>match kU x y with
  | true=>x::y::r
  | false=>y::insI x r
def jb:List Int→List Int
 | []=>[]
 | x::r=>insI x (jb r)
def allStrs:List V→Option (List (List Nat))
 | []=>some []
 | .str i::r=>match allStrs r with
  | some l=>some (i::l)
  | none=>none
 | _=>none
def insS (x:List Nat):List (List Nat)→List (List Nat)
 | []=>[x]
 | y::r=>match fF x y with
  | true=>x::y::r
  | false=>y::insS x r
def i0:List (List Nat)→List (List Nat)
 | []=>[]
 | x::r=>insS x (i0 r)
def sortL (l:List V):Option (List V):=match short 60 l with
 | false=>none
 | true=>match allInts l with
  | some is=>some ((jb is).map .int)
  | none=>match allStrs l with
   | some ss=>some ((i0 ss).map .str)
   | none=>none
def sort2:List V→List V→Option (List V)
 | [],_=>some []
 | [.int a],[v]=>some [.tup [.int a,v]]
 | [.int a,.int b],[v,w]=>match kU a b with
  | true=>some [.tup [.int a,v],.tup [.int b,w]]
  | false=>match kU b a with
   | true=>some [.tup [.int b,w],.tup [.int a,v]]
   | false=>none
 | _,_=>none
def qU (ks:List V):List V→List V:=
 @List.rec V (fun _=>List V→List V) (fun _=>[]) (fun k _ ih=>fun m=>(@List.rec V (fun _=>List V) ([]) (fun v r _=>.tup [k,v]::ih r) m)) ks
def lJ (l:List V):Nat→List V:=
 @List.rec V (fun _=>Nat→List V) (fun _=>[]) (fun v _ ih=>fun n=>.tup [.int (.ofNat n),v]::ih (Nat.succ n)) l
def bN (n:Nat):Int→List V:=
 @Nat.rec (fun _=>Int→List V) (fun _=>[]) (fun _ ih i=>.int i::ih (bR i (.ofNat 1))) n
def dJ (ks vs:List V) (k v:V):Option (List V×List V):=
 (@Bool.rec (fun _=>Option (List V×List V)) (none) ((@Option.rec (Option Nat) (fun _=>Option (List V×List V)) (none) (fun o=>(@Option.rec Nat (fun _=>Option (List V×List V)) ((@Bool.rec (fun _=>Option (List V×List V)) (none) (some (app ks [k],app vs [v])) (short lid ks))) (fun n=>some (ks,setAt vs n v)) o)) (cD ks k 0))) (keyOk 8 k))
def d6 {α:Type} (l:List α):Nat→List α:=
 @List.rec α (fun _=>Nat→List α) (fun _=>[]) (fun a r ih=>fun n=>(@Nat.rec (fun _=>List α) (r) (fun m _=>a::ih m) n)) l
def jm {α:Type} (l:List α):Nat→α→List α:=
 @List.rec α (fun _=>Nat→α→List α) (fun _ x=>[x]) (fun a r ih=>fun n x=>(@Nat.rec (fun _=>List α) (x::a::r) (fun m _=>a::ih m x) n)) l
def dictOf:List V→List V→List V→Option V
 | [],ks,vs=>some (.aQ ks vs)
 | .tup [k,v]::r,ks,vs=>match dJ ks vs k v with
  | some (ks,vs)=>dictOf r ks vs
  | none=>none
 | _,_,_=>none
def anyL:List V→Option Bool
 | []=>some false
 | .bool b::r=>match anyL r with
  | some c=>some (match b with
   | true=>true
   | false=>c)
  | none=>none
 | _=>none
def digits:Nat→Nat→List Nat→List Nat
 | 0,_,acc=>acc
 | f + 1,n,acc=>match Nat.blt n 10 with
  | true=>(48 + n)::acc
  | false=>digits f (n / 10) ((48 + n % 10)::acc)
def itemsOf (v:V):Option (List V):=
 (@V.rec (fun _=>Option (List V)) (fun _=>Unit) (none) (fun _=>none) (fun _=>none) (fun _=>none) (fun l _=>some l) (fun l _=>some l) (fun _ _ _ _=>none) (fun _ _ _=>none) () (fun _ _ _ _=>()) v)
inductive F1 where
 | len | abs | any | dict | list | tuple | sorted | str | sum | max
 | range | enumerate | reversed | items
 deriving DecidableEq
def gB (a:V):Option V:=
 (@V.rec (fun _=>Option V) (fun _=>Unit) (none) (fun _=>none) (fun i=>some (.int (yA i))) (fun _=>none) (fun _ _=>none) (fun _ _=>none) (fun _ _ _ _=>none) (fun _ _ _=>none) () (fun _ _ _ _=>()) a)
def cV (a:V):Option V:=
 (@Option.rec (List V) (fun _=>Option V) (none) (fun l=>some (.lst l)) (itemsOf a))
def d0 (a:V):Option V:=
 (@V.rec (fun _=>Option V) (fun _=>Unit) (none) (fun _=>none) (fun _=>none) (fun _=>none) (fun _ _=>none) (fun l _=>some (.tup l)) (fun _ _ _ _=>none) (fun _ _ _=>none) () (fun _ _ _ _=>()) a)
def gn (a:Int):Bool:=
 (@Int.rec (fun _=>Bool) (fun n=>Nat.blt n lid) (fun n=>Nat.blt n lid) a)
def eA (a:V):Option V:=
 (@V.rec (fun _=>Option V) (fun _=>Unit) (none) (fun _=>none) (fun i=>(@Bool.rec (fun _=>Option V) (none) (some (.lst (bN (iM i) (.ofNat 0)))) (gn i))) (fun _=>none) (fun _ _=>none) (fun _ _=>none) (fun _ _ _ _=>none) (fun _ _ _=>none) () (fun _ _ _ _=>()) a)
def gM (a:V):Option V:=
 (@V.rec (fun _=>Option V) (fun _=>Unit) (none) (fun _=>none) (fun _=>none) (fun _=>none) (fun _ _=>none) (fun l _=>some (.lst (lJ l 0))) (fun _ _ _ _=>none) (fun _ _ _=>none) () (fun _ _ _ _=>()) a)
def tO {α:Type} (l:List α):List α→List α:=
 @List.rec α (fun _=>List α→List α) (fun m=>m) (fun a _ ih=>fun m=>ih (a::m)) l
def iE (a:V):Option V:=
 (@V.rec (fun _=>Option V) (fun _=>Unit) (none) (fun _=>none) (fun _=>none) (fun _=>none) (fun _ _=>none) (fun l _=>some (.lst (tO l []))) (fun _ _ _ _=>none) (fun _ _ _=>none) () (fun _ _ _ _=>()) a)
def fH (a:V):Option V:=
 (@V.rec (fun _=>Option V) (fun _=>Unit) (none) (fun _=>none) (fun _=>none) (fun _=>none) (fun _ _=>none) (fun _ _=>none) (fun ks vs _ _=>some (.lst (qU ks vs))) (fun _ _ _=>none) () (fun _ _ _ _=>()) a)
def anyF (a:V):Option V:=match a with
 | .lst l=>kJ (anyL l)
 | _=>none
def jA (a:V):Option V:=match a with
 | .lst l=>dictOf l [] []
 | _=>none
def sortedF (a:V):Option V:=match a with
 | .lst l=>match sortL l with
  | some r=>some (.lst r)
  | none=>none
 | .aQ ks _=>match sortL ks with
  | some r=>some (.lst r)
  | none=>none
 | _=>none
def strF (a:V):Option V:=match a with
 | .int (.ofNat n)=>match Nat.blt n 1000 with
  | true=>some (.str (digits 5 n []))
  | false=>none
 | _=>none
def sortItemsF (a:V):Option V:=match a with
 | .aQ ks vs=>match sort2 ks vs with
  | some r=>some (.lst r)
  | none=>none
 | _=>none
def sumF (a:V):Option V:=match a with
 | .lst l=>match allInts l with
  | some is=>some (.int (iY is (.ofNat 0)))
  | none=>none
 | _=>none
def maxF (a:V):Option V:=match a with
 | .lst l=>match allInts l with
  | some (i::r)=>some (.int (maxL r i))
  | _=>none
 | .aQ l _=>match allInts l with
  | some (i::r)=>some (.int (maxL r i))
  | _=>none
 | _=>none
def AU (f:F1):V→Option V:=match f with
 | .len=>aD
 | .abs=>gB
 | .any=>anyF
 | .dict=>jA
 | .list=>cV
 | .tuple=>d0
 | .sorted=>sortedF
 | .str=>strF
 | .sum=>sumF
 | .max=>maxF
 | .range=>eA
 | .enumerate=>gM
 | .reversed=>iE
 | .items=>fH
inductive F2 where
 | max | min | range
 deriving DecidableEq
def gK (a b:V):Option V:=
 (@V.rec (fun _=>Option V) (fun _=>Unit) (none) (fun _=>none) (fun x=>(@V.rec (fun _=>Option V) (fun _=>Unit) (none) (fun _=>none) (fun y=>some (.int (fX x y))) (fun _=>none) (fun _ _=>none) (fun _ _=>none) (fun _ _ _ _=>none) (fun _ _ _=>none) () (fun _ _ _ _=>()) b)) (fun _=>none) (fun _ _=>none) (fun _ _=>none) (fun _ _ _ _=>none) (fun _ _ _=>none) () (fun _ _ _ _=>()) a)
def n8 (a b:V):Option V:=
 (@V.rec (fun _=>Option V) (fun _=>Unit) (none) (fun _=>none) (fun x=>(@V.rec (fun _=>Option V) (fun _=>Unit) (none) (fun _=>none) (fun y=>some (.int (xT x y))) (fun _=>none) (fun _ _=>none) (fun _ _=>none) (fun _ _ _ _=>none) (fun _ _ _=>none) () (fun _ _ _ _=>()) b)) (fun _=>none) (fun _ _=>none) (fun _ _=>none) (fun _ _ _ _=>none) (fun _ _ _=>none) () (fun _ _ _ _=>()) a)
def dO (a b:V):Option V:=
 (@V.rec (fun _=>Option V) (fun _=>Unit) (none) (fun _=>none) (fun x=>(@V.rec (fun _=>Option V) (fun _=>Unit) (none) (fun _=>none) (fun y=>(@Bool.rec (fun _=>Option V) (none) ((@Bool.rec (fun _=>Option V) (none) (some (.lst (bN (iM (dw y x)) x))) (gn y))) (gn x))) (fun _=>none) (fun _ _=>none) (fun _ _=>none) (fun _ _ _ _=>none) (fun _ _ _=>none) () (fun _ _ _ _=>()) b)) (fun _=>none) (fun _ _=>none) (fun _ _=>none) (fun _ _ _ _=>none) (fun _ _ _=>none) () (fun _ _ _ _=>()) a)
def B0 (f:F2):V→V→Option V:=match f with
 | .max=>gK
 | .min=>n8
 | .range=>dO
def cK (v:V):aq:=
 fun _ _ p=>.ok v p
def ao (g:cZ):aq:=
 fun _ ρ p=>(@Slot.rec (fun _=>Res) (Res.stuck) (fun v=>Res.ok v p) (fun _=>Res.stuck) (Res.stuck) (g ρ))
def aa (g:cZ):aq:=
 fun _ ρ p=>(@Slot.rec (fun _=>Res) (Res.stuck) (fun v=>Res.ok v p) (fun v=>Res.ok v p) (Res.stuck) (g ρ))
def c1 (f:V→Option V) (x:aq):aq:=
 fun c ρ p=>(@Res.rec (fun _=>Res) Res.stuck (fun a p=>(@Option.rec V (fun _=>Res) (Res.stuck) (fun v=>Res.ok v p) (f a))) Res.exc (x c ρ p))
def c2 (f:V→V→Option V) (x y:aq):aq:=
 fun c ρ p=>(@Res.rec (fun _=>Res) Res.stuck (fun a p=>(@Res.rec (fun _=>Res) Res.stuck (fun b p=>(@Option.rec V (fun _=>Res) (Res.stuck) (fun v=>Res.ok v p) (f a b))) Res.exc (y c ρ p))) Res.exc (x c ρ p))
def dZ (g:cZ) (x:aq):aq:=
 fun c ρ p=>(@Slot.rec (fun _=>Res) (Res.stuck) (fun _=>Res.stuck) (fun _=>Res.stuck) ((@Res.rec (fun _=>Res) Res.stuck (fun i p=>(@Option.rec V (fun _=>Res) (Res.stuck) (fun v=>Res.ok v p) (ah (V.lst p) i))) Res.exc (x c ρ p))) (g ρ))
def bJ (a:V):Option V:=
 (@V.rec (fun _=>Option V) (fun _=>Unit) (none) (fun _=>none) (fun i=>some (.int (uk i))) (fun _=>none) (fun _ _=>none) (fun _ _=>none) (fun _ _ _ _=>none) (fun _ _ _=>none) () (fun _ _ _ _=>()) a)
def hJ (a:V):Option V:=
 (@V.rec (fun _=>Option V) (fun _=>Unit) (none) (fun b=>some (.bool (jd b))) (fun _=>none) (fun _=>none) (fun _ _=>none) (fun _ _=>none) (fun _ _ _ _=>none) (fun _ _ _=>none) () (fun _ _ _ _=>()) a)
def aR (t x y:aq):aq:=
 fun c ρ p=>(@Res.rec (fun _=>Res) Res.stuck (fun v p=>(@V.rec (fun _=>Res) (fun _=>Unit) (Res.stuck) (fun q=>(@Bool.rec (fun _=>Res) (y c ρ p) (x c ρ p) q)) (fun _=>Res.stuck) (fun _=>Res.stuck) (fun _ _=>Res.stuck) (fun _ _=>Res.stuck) (fun _ _ _ _=>Res.stuck) (fun _ _ _=>Res.stuck) () (fun _ _ _ _=>()) v)) Res.exc (t c ρ p))
def bL (x y:aq):aq:=
 fun c ρ p=>(@Res.rec (fun _=>Res) Res.stuck (fun v p=>(@V.rec (fun _=>Res) (fun _=>Unit) (Res.stuck) (fun q=>(@Bool.rec (fun _=>Res) (Res.ok (V.bool false) p) (y c ρ p) q)) (fun _=>Res.stuck) (fun _=>Res.stuck) (fun _ _=>Res.stuck) (fun _ _=>Res.stuck) (fun _ _ _ _=>Res.stuck) (fun _ _ _=>Res.stuck) () (fun _ _ _ _=>()) v)) Res.exc (x c ρ p))
def gw (x y:aq):aq:=
 fun c ρ p=>(@Res.rec (fun _=>Res) Res.stuck (fun v p=>(@V.rec (fun _=>Res) (fun _=>Unit) (Res.stuck) (fun q=>(@Bool.rec (fun _=>Res) (y c ρ p) (Res.ok (V.bool true) p) q)) (fun _=>Res.stuck) (fun _=>Res.stuck) (fun _ _=>Res.stuck) (fun _ _=>Res.stuck) (fun _ _ _ _=>Res.stuck) (fun _ _ _=>Res.stuck) () (fun _ _ _ _=>()) v)) Res.exc (x c ρ p))
def a0 (xs:List aq):G:=
 @List.rec aq (fun _=>G) (fun _ _ p=>aw.ok [] p) (fun x _ ih=>fun c ρ p=>(@Res.rec (fun _=>aw) aw.stuck (fun v p=>(@aw.rec (fun _=>aw) aw.stuck (fun l p=>aw.ok (v::l) p) aw.exc (ih c ρ p))) aw.exc (x c ρ p))) xs
def av (xs:List aq):aq:=
 fun c ρ p=>(@aw.rec (fun _=>Res) Res.stuck (fun l p=>Res.ok (V.tup l) p) Res.exc (a0 xs c ρ p))
def ax (xs:List aq):aq:=
 fun c ρ p=>(@aw.rec (fun _=>Res) Res.stuck (fun l p=>Res.ok (V.lst l) p) Res.exc (a0 xs c ρ p))
def oR (e:Option aq) (c:Call) (ρ:Fr) (p:List V) (k:Option Int→List V→Res):Res:=
 (@Option.rec aq (fun _=>Res) (k none p) (fun d=>(@Res.rec (fun _=>Res) Res.stuck (fun a p=>(@V.rec (fun _=>Res) (fun _=>Unit) (Res.stuck) (fun _=>Res.stuck) (fun i=>k (some i) p) (fun _=>Res.stuck) (fun _ _=>Res.stuck) (fun _ _=>Res.stuck) (fun _ _ _ _=>Res.stuck) (fun _ _ _=>Res.stuck) () (fun _ _ _ _=>()) a)) Res.exc (d c ρ p))) e)
def cz (x:aq) (lo hi:Option aq):aq:=
 fun c ρ p=>(@Res.rec (fun _=>Res) Res.stuck (fun o p=>oR lo c ρ p (fun j p=>oR hi c ρ p (fun i p=>(@Option.rec V (fun _=>Res) (Res.stuck) (fun v=>Res.ok v p) (jV o j i))))) Res.exc (x c ρ p))
def kg (o a b:V):Option V:=
 (@V.rec (fun _=>Option V) (fun _=>Unit) (none) (fun _=>none) (fun _=>none) (fun _=>none) (fun _ _=>none) (fun _ _=>none) (fun ks vs _ _=>(@Bool.rec (fun _=>Option V) (none) ((@Option.rec (Option Nat) (fun _=>Option V) (none) (fun q=>(@Option.rec Nat (fun _=>Option V) (some b) (fun n=>dM vs n) q)) (cD ks a 0))) (keyOk 8 a))) (fun _ _ _=>none) () (fun _ _ _ _=>()) o)
def iK (x k d:aq):aq:=
 fun c ρ p=>(@Res.rec (fun _=>Res) Res.stuck (fun o p=>(@V.rec (fun _=>Res) (fun _=>Unit) (Res.stuck) (fun _=>Res.stuck) (fun _=>Res.stuck) (fun _=>Res.stuck) (fun _ _=>Res.stuck) (fun _ _=>Res.stuck) (fun ks vs _ _=>(@Res.rec (fun _=>Res) Res.stuck (fun a p=>(@Res.rec (fun _=>Res) Res.stuck (fun b p=>(@Option.rec V (fun _=>Res) (Res.stuck) (fun v=>Res.ok v p) (kg (V.aQ ks vs) a b))) Res.exc (d c ρ p))) Res.exc (k c ρ p))) (fun _ _ _=>Res.stuck) () (fun _ _ _ _=>()) o)) Res.exc (x c ρ p))
def ff (a:V):Option V:=
 (@V.rec (fun _=>Option V) (fun _=>Unit) (none) (fun _=>none) (fun _=>none) (fun _=>some (.bool true)) (fun _ _=>some (.bool false)) (fun _ _=>some (.bool false)) (fun _ _ _ _=>none) (fun _ _ _=>none) () (fun _ _ _ _=>()) a)
inductive d8 where
 | one (s:bw)
 | two (s t:bw)
def cM (t:d8) (v:V) (ρ:Fr):Option Fr:=
 @d8.rec (fun _=>Option Fr) (fun s=>some (s ρ (.val v))) (fun s t=>(@V.rec (fun _=>Option Fr) (fun _=>Unit) (none) (fun _=>none) (fun _=>none) (fun _=>none) (fun l _=>(@List.rec V (fun _=>Option Fr) (none) (fun a r _=>(@List.rec V (fun _=>Option Fr) (none) (fun b r _=>(@List.rec V (fun _=>Option Fr) (some (t (s ρ (.val a)) (.val b))) (fun _ _ _=>none) r)) r)) l)) (fun _ _=>none) (fun _ _ _ _=>none) (fun _ _ _=>none) () (fun _ _ _ _=>()) v)) t
def tests (ts:List aq):aq:=
 @List.rec aq (fun _=>aq) (fun _ _ p=>Res.ok (V.bool true) p) (fun t _ ih=>fun c ρ p=>(@Res.rec (fun _=>Res) Res.stuck (fun v p=>(@V.rec (fun _=>Res) (fun _=>Unit) (Res.stuck) (fun q=>(@Bool.rec (fun _=>Res) (Res.ok (V.bool false) p) (ih c ρ p) q)) (fun _=>Res.stuck) (fun _=>Res.stuck) (fun _ _=>Res.stuck) (fun _ _=>Res.stuck) (fun _ _ _ _=>Res.stuck) (fun _ _ _=>Res.stuck) () (fun _ _ _ _=>()) v)) Res.exc (t c ρ p))) ts
def clause (t:d8) (conds:List aq) (inner:G) (c:Call) (ρ:Fr) (l:List V):List V→aw:=
 @List.rec V (fun _=>List V→aw) (fun p=>aw.ok [] p) (fun v _ ih=>fun p=>(@Option.rec Fr (fun _=>aw) (aw.stuck) (fun ρ'=>(@Res.rec (fun _=>aw) aw.stuck (fun b p=>(@V.rec (fun _=>aw) (fun _=>Unit) (aw.stuck) (fun q=>(@Bool.rec (fun _=>aw) (ih p) ((@aw.rec (fun _=>aw) aw.stuck (fun l p=>(@aw.rec (fun _=>aw) aw.stuck (fun m p=>aw.ok (app l m) p) aw.exc (ih p))) aw.exc (inner c ρ' p))) q)) (fun _=>aw.stuck) (fun _=>aw.stuck) (fun _ _=>aw.stuck) (fun _ _=>aw.stuck) (fun _ _ _ _=>aw.stuck) (fun _ _ _=>aw.stuck) () (fun _ _ _ _=>()) b)) aw.exc (tests conds c ρ' p))) (cM t v ρ))) l
def bF (x:aq):G:=
 fun c ρ p=>(@Res.rec (fun _=>aw) aw.stuck (fun v p=>aw.ok [v] p) aw.exc (x c ρ p))
def bB (t:d8) (src:aq) (conds:List aq) (inner:G):G:=
 fun c ρ p=>(@Res.rec (fun _=>aw) aw.stuck (fun v p=>(@Option.rec (List V) (fun _=>aw) (aw.stuck) (fun l=>clause t conds inner c ρ l p) (itemsOf v))) aw.exc (src c ρ p))
def bt (g:G):aq:=
 fun c ρ p=>(@aw.rec (fun _=>Res) Res.stuck (fun l p=>(@Bool.rec (fun _=>Res) (Res.stuck) (Res.ok (V.lst l) p) (short lid l))) (fun _ _=>Res.stuck) (g c ρ p))
def keysD:List V→V→List V→List V→Option V
 | [],_,ks,vs=>some (.aQ ks vs)
 | k::r,v,ks,vs=>match dJ ks vs k v with
  | some (ks,vs)=>keysD r v ks vs
  | none=>none
def pO (g:G) (v:V):aq:=
 fun c ρ p=>(@aw.rec (fun _=>Res) Res.stuck (fun l p=>(@Bool.rec (fun _=>Res) (Res.stuck) ((@Option.rec V (fun _=>Res) (Res.stuck) (fun v=>Res.ok v p) (keysD l v [] []))) (short lid l))) (fun _ _=>Res.stuck) (g c ρ p))
def eH (gs:List cZ) (x:aq):aq:=
 @List.rec cZ (fun _=>aq) (x) (fun g _ ih=>fun c ρ p=>(@Slot.rec (fun _=>Res) (ih c ρ p) (fun _=>ih c ρ p) (fun _=>Res.stuck) (ih c ρ p) (g ρ))) gs
inductive aS where
 | slot (g:cZ)
 | exp (x:aq)
def bZ (xs:List aS):Call→Fr→List V→aH:=
 @List.rec aS (fun _=>Call→Fr→List V→aH) (fun _ _ p=>aH.ok [] p) (fun x _ ih=>fun c ρ p=>@aS.rec (fun _=>aH) (fun g=>(@Slot.rec (fun _=>aH) (aH.stuck) (fun v=>(@aH.rec (fun _=>aH) aH.stuck (fun l p=>aH.ok (Slot.val v::l) p) aH.exc (ih c ρ p))) (fun _=>aH.stuck) ((@aH.rec (fun _=>aH) aH.stuck (fun l p=>aH.ok (Slot.au::l) p) aH.exc (ih c ρ p))) (g ρ))) (fun x=>(@Res.rec (fun _=>aH) aH.stuck (fun v p=>(@aH.rec (fun _=>aH) aH.stuck (fun l p=>aH.ok (Slot.val v::l) p) aH.exc (ih c ρ p))) aH.exc (x c ρ p))) x) xs
def gT (r:Res) (p:List V):Res:=
 @Res.rec (fun _=>Res) Res.stuck (fun v _=>Res.ok v p) (fun k _=>Res.exc k p) r
def mq (l:List Slot):Bool:=
 @List.rec Slot (fun _=>Bool) (false) (fun s _ ih=>(@Slot.rec (fun _=>Bool) (ih) (fun _=>ih) (fun _=>ih) (true) s)) l
def jB (c:Call) (f:Nat) (l:List Slot) (p:List V):Res:=
 (@Bool.rec (fun _=>Res) (gT (c f l []) p) (c f l p) (mq l))
def fN {α:Type} (n:Nat) (k:Nat→α):α:=
 @Nat.rec (fun _=>α) (k 0) (fun m _=>k (Nat.succ m)) n
def fI {α:Type} (i:Int) (k:Int→α):α:=
 @Int.rec (fun _=>α) (fun n=>fN n fun n=>k (.ofNat n)) (fun n=>fN n fun n=>k (.negSucc n)) i
def u7 {α:Type} (l:List Nat):(List Nat→α)→α:=
 @List.rec Nat (fun _=>(List Nat→α)→α) (fun k=>k []) (fun a _ ih=>fun k=>fN a fun a=>ih fun r=>k (a::r)) l
def fB {α:Type} (b:Bool) (k:Bool→α):α:=
 @Bool.rec (fun _=>α) (k false) (k true) b
def fV (v:V):(V→Res)→Res:=
 @V.rec (fun _=>(V→Res)→Res) (fun _=>(List V→Res)→Res) (fun k=>k V.none) (fun b k=>fB b fun b=>k (V.bool b)) (fun i k=>fI i fun i=>k (V.int i)) (fun s k=>u7 s fun s=>k (V.str s)) (fun _ ih k=>ih fun l=>k (V.tup l)) (fun _ ih k=>ih fun l=>k (V.lst l)) (fun _ _ ih jh k=>ih fun l=>jh fun m=>k (V.aQ l m)) (fun f _ ih k=>fN f fun f=>ih fun l=>k (V.clo f l)) (fun k=>k []) (fun _ _ ih jh k=>ih fun v=>jh fun l=>k (v::l)) v
def u4 (l:List V):(List V→Res)→Res:=
 @V.rec_1 (fun _=>(V→Res)→Res) (fun _=>(List V→Res)→Res) (fun k=>k V.none) (fun b k=>fB b fun b=>k (V.bool b)) (fun i k=>fI i fun i=>k (V.int i)) (fun s k=>u7 s fun s=>k (V.str s)) (fun _ ih k=>ih fun l=>k (V.tup l)) (fun _ ih k=>ih fun l=>k (V.lst l)) (fun _ _ ih jh k=>ih fun l=>jh fun m=>k (V.aQ l m)) (fun f _ ih k=>fN f fun f=>ih fun l=>k (V.clo f l)) (fun k=>k []) (fun _ _ ih jh k=>ih fun v=>jh fun l=>k (v::l)) l
def yf (s:Slot) (k:Slot→Res):Res:=
 @Slot.rec (fun _=>Res) (k Slot.undef) (fun v=>fV v fun v=>k (Slot.val v)) (fun v=>k (Slot.own v)) (k Slot.au) s
def u6 (l:List Slot):(List Slot→Res)→Res:=
 @List.rec Slot (fun _=>(List Slot→Res)→Res) (fun k=>k []) (fun a _ ih=>fun k=>yf a fun a=>ih fun r=>k (a::r)) l
def ae (f:Nat) (xs:List aS):aq:=
 fun c ρ p=>(@aH.rec (fun _=>Res) Res.stuck (fun l p=>u6 l fun l=>jB c f l p) Res.exc (bZ xs c ρ p))
def capsOf:List cZ→Fr→Option (List V)
 | [],_=>some []
 | g::gs,ρ=>match g ρ with
  | .val v=>match capsOf gs ρ with
   | some l=>some (v::l)
   | none=>none
  | _=>none
def pP (f:Nat) (gs:List cZ):aq:=fun _ ρ p=>match capsOf gs ρ with
 | some l=>.ok (.clo f l) p
 | none=>.stuck
def cApp (g:cZ) (x:aq):aq:=fun c ρ p=>match g ρ with
 | .val (.clo f caps)=>match x c ρ p with
  | .ok v p=>gT (c f (.val v::caps.map .val) []) p
  | .stuck=>.stuck
  | .exc e p=>.exc e p
 | _=>.stuck
def aB:bb:=
 fun _ ρ p=>.next ρ p
def ag (a b:bb):bb:=
 fun c ρ p=>(@af.rec (fun _=>af) af.stuck (b c) af.brk af.cont af.ret af.exc (a c ρ p))
def rn (x:aq):bb:=
 fun c ρ p=>(@Res.rec (fun _=>af) af.stuck (fun _ p=>af.next ρ p) (fun e p=>af.exc e ρ p) (x c ρ p))
def aA (s:bw) (x:aq):bb:=
 fun c ρ p=>(@Res.rec (fun _=>af) af.stuck (fun v p=>af.next (s ρ (Slot.val v)) p) (fun e p=>af.exc e ρ p) (x c ρ p))
def fT (s:bw) (x:aq):bb:=
 fun c ρ p=>(@Res.rec (fun _=>af) af.stuck (fun v p=>af.next (s ρ (Slot.own v)) p) (fun e p=>af.exc e ρ p) (x c ρ p))
def bV (g:cZ) (s:bw):bb:=
 fun _ ρ p=>(@Slot.rec (fun _=>af) (af.next ρ p) (fun _=>af.next ρ p) (fun v=>af.next (s ρ (Slot.val v)) p) (af.next ρ p) (g ρ))
def gS (own:Bool) (v:V):Slot:=
 (@Bool.rec (fun _=>Slot) (Slot.val v) (Slot.own v) own)
def storeAll (ts:List (bw×Bool)):List V→Fr→Option Fr:=
 @List.rec (bw×Bool) (fun _=>List V→Fr→Option Fr) (fun l ρ=>(@List.rec V (fun _=>Option Fr) (some ρ) (fun _ _ _=>none) l)) (fun t _ ih=>fun l ρ=>(@List.rec V (fun _=>Option Fr) (none) (fun v r _=>ih r (t.1 ρ (gS t.2 v))) l)) ts
def br (ts:List (bw×Bool)) (xs:List aq):bb:=
 fun c ρ p=>(@aw.rec (fun _=>af) af.stuck (fun l p=>(@Option.rec Fr (fun _=>af) (af.stuck) (fun ρ=>af.next ρ p) (storeAll ts l ρ))) (fun e p=>af.exc e ρ p) (a0 xs c ρ p))
def vals (ss:List bw):List (bw×Bool):=
 @List.rec bw (fun _=>List (bw×Bool)) ([]) (fun s _ ih=>(s,false)::ih) ss
def eU (js:List bw) (x:aq):bb:=
 fun c ρ p=>(@Res.rec (fun _=>af) af.stuck (fun v p=>(@Option.rec (List V) (fun _=>af) (af.stuck) (fun l=>(@Option.rec Fr (fun _=>af) (af.stuck) (fun ρ=>af.next ρ p) (storeAll (vals js) l ρ))) (itemsOf v))) (fun e p=>af.exc e ρ p) (x c ρ p))
def putAt (l:List V) (i:Int) (v:V):Option (List V):=
 (@Int.rec (fun _=>Option (List V)) (fun n=>(@Bool.rec (fun _=>Option (List V)) (none) (some (setAt l n v)) (Nat.blt n (cW l)))) (fun _=>none) i)
def lC (o i v:V):Option V:=
 (@V.rec (fun _=>Option V) (fun _=>Unit) (none) (fun _=>none) (fun _=>none) (fun _=>none) (fun _ _=>none) (fun l _=>(@V.rec (fun _=>Option V) (fun _=>Unit) (none) (fun _=>none) (fun i=>(@Option.rec (List V) (fun _=>Option V) (none) (fun l=>some (.lst l)) (putAt l i v))) (fun _=>none) (fun _ _=>none) (fun _ _=>none) (fun _ _ _ _=>none) (fun _ _ _=>none) () (fun _ _ _ _=>()) i)) (fun ks vs _ _=>(@Option.rec (List V×List V) (fun _=>Option V) (none) (fun q=>some (.aQ q.1 q.2)) (dJ ks vs i v))) (fun _ _ _=>none) () (fun _ _ _ _=>()) o)
def gW (g:cZ) (s:bw) (ρ:Fr) (p:List V) (f:V→Option V):af:=
 (@Slot.rec (fun _=>af) (af.stuck) (fun _=>af.stuck) (fun o=>(@Option.rec V (fun _=>af) (af.stuck) (fun o=>af.next (s ρ (Slot.own o)) p) (f o))) ((@Option.rec V (fun _=>af) (af.stuck) (fun o=>(@V.rec (fun _=>af) (fun _=>Unit) (af.stuck) (fun _=>af.stuck) (fun _=>af.stuck) (fun _=>af.stuck) (fun _ _=>af.stuck) (fun p _=>af.next ρ p) (fun _ _ _ _=>af.stuck) (fun _ _ _=>af.stuck) () (fun _ _ _ _=>()) o)) (f (V.lst p)))) (g ρ))
def fu (g:cZ) (s:bw) (ρ:Fr) (p:List V) (f:V→Option V):af:=
 (@Slot.rec (fun _=>af) (af.stuck) (fun _=>af.stuck) (fun o=>(@Option.rec V (fun _=>af) (af.stuck) (fun o=>af.next (s ρ (Slot.own o)) p) (f o))) (af.stuck) (g ρ))
def dW (g:cZ) (s:bw) (i x:aq):bb:=
 fun c ρ p=>(@Res.rec (fun _=>af) af.stuck (fun v p=>(@Slot.rec (fun _=>af) (af.stuck) (fun _=>af.stuck) (fun _=>(@Res.rec (fun _=>af) af.stuck (fun i p=>gW g s ρ p fun o=>lC o i v) (fun e p=>af.exc e ρ p) (i c ρ p))) ((@Res.rec (fun _=>af) af.stuck (fun i p=>gW g s ρ p fun o=>lC o i v) (fun e p=>af.exc e ρ p) (i c ρ p))) (g ρ))) (fun e p=>af.exc e ρ p) (x c ρ p))
def uL (v o:V):Option V:=
 (@V.rec (fun _=>Option V) (fun _=>Unit) (none) (fun _=>none) (fun _=>none) (fun _=>none) (fun _ _=>none) (fun l _=>(@Bool.rec (fun _=>Option V) (none) (some (.lst (app l [v]))) (short lid l))) (fun _ _ _ _=>none) (fun _ _ _=>none) () (fun _ _ _ _=>()) o)
def rJ (v o:V):Option V:=
 (@V.rec (fun _=>Option V) (fun _=>Unit) (none) (fun _=>none) (fun _=>none) (fun _=>none) (fun _ _=>none) (fun l _=>(@V.rec (fun _=>Option V) (fun _=>Unit) (none) (fun _=>none) (fun _=>none) (fun _=>none) (fun _ _=>none) (fun m _=>(@Bool.rec (fun _=>Option V) (none) ((@Bool.rec (fun _=>Option V) (none) (some (.lst (app l m))) (short lid m))) (short lid l))) (fun _ _ _ _=>none) (fun _ _ _=>none) () (fun _ _ _ _=>()) v)) (fun _ _ _ _=>none) (fun _ _ _=>none) () (fun _ _ _ _=>()) o)
def rF (i v o:V):Option V:=
 (@V.rec (fun _=>Option V) (fun _=>Unit) (none) (fun _=>none) (fun _=>none) (fun _=>none) (fun _ _=>none) (fun l _=>(@V.rec (fun _=>Option V) (fun _=>Unit) (none) (fun _=>none) (fun i=>(@Int.rec (fun _=>Option V) (fun n=>(@Bool.rec (fun _=>Option V) (none) ((@Bool.rec (fun _=>Option V) (none) (some (.lst (jm l n v))) (short lid l))) (Nat.blt n 4000))) (fun _=>none) i)) (fun _=>none) (fun _ _=>none) (fun _ _=>none) (fun _ _ _ _=>none) (fun _ _ _=>none) () (fun _ _ _ _=>()) i)) (fun _ _ _ _=>none) (fun _ _ _=>none) () (fun _ _ _ _=>()) o)
def df (g:cZ) (s:bw) (x:aq):bb:=
 fun c ρ p=>(@Slot.rec (fun _=>af) (af.stuck) (fun _=>af.stuck) (fun o=>(@V.rec (fun _=>af) (fun _=>Unit) (af.stuck) (fun _=>af.stuck) (fun _=>af.stuck) (fun _=>af.stuck) (fun _ _=>af.stuck) (fun _ _=>(@Res.rec (fun _=>af) af.stuck (fun v p=>fu g s ρ p (uL v)) (fun e p=>af.exc e ρ p) (x c ρ p))) (fun _ _ _ _=>af.stuck) (fun _ _ _=>af.stuck) () (fun _ _ _ _=>()) o)) (af.stuck) (g ρ))
def mM (g:cZ) (s:bw) (x:aq):bb:=
 fun c ρ p=>(@Slot.rec (fun _=>af) (af.stuck) (fun _=>af.stuck) (fun o=>(@V.rec (fun _=>af) (fun _=>Unit) (af.stuck) (fun _=>af.stuck) (fun _=>af.stuck) (fun _=>af.stuck) (fun _ _=>af.stuck) (fun _ _=>(@Res.rec (fun _=>af) af.stuck (fun v p=>fu g s ρ p (rJ v)) (fun e p=>af.exc e ρ p) (x c ρ p))) (fun _ _ _ _=>af.stuck) (fun _ _ _=>af.stuck) () (fun _ _ _ _=>()) o)) (af.stuck) (g ρ))
def oE (g:cZ) (s:bw) (i x:aq):bb:=
 fun c ρ p=>(@Slot.rec (fun _=>af) (af.stuck) (fun _=>af.stuck) (fun o=>(@V.rec (fun _=>af) (fun _=>Unit) (af.stuck) (fun _=>af.stuck) (fun _=>af.stuck) (fun _=>af.stuck) (fun _ _=>af.stuck) (fun _ _=>(@Res.rec (fun _=>af) af.stuck (fun i p=>(@Res.rec (fun _=>af) af.stuck (fun v p=>fu g s ρ p (rF i v)) (fun e p=>af.exc e ρ p) (x c ρ p))) (fun e p=>af.exc e ρ p) (i c ρ p))) (fun _ _ _ _=>af.stuck) (fun _ _ _=>af.stuck) () (fun _ _ _ _=>()) o)) (af.stuck) (g ρ))
def lastInit:List V→Option (List V×V)
 | []=>none
 | [v]=>some ([],v)
 | v::w::r=>match lastInit (w::r) with
  | some (l,x)=>some (v::l,x)
  | none=>none
def sPop (ts:List bw) (g:cZ) (s:bw):bb:=fun _ ρ p=>match g ρ with
 | .own (.lst l)=>match lastInit l with
  | some (l,v)=>match ts with
   | [t]=>.next (t (s ρ (.own (.lst l))) (.val v)) p
   | _=>match itemsOf v with
    | some m=>match storeAll (vals ts) m (s ρ (.own (.lst l))) with
     | some ρ=>.next ρ p
     | none=>.stuck
    | none=>.stuck
  | none=>.stuck
 | _=>.stuck
def sPopD (t:bw) (g:cZ) (s:bw) (k d:aq):bb:=fun c ρ p=>match g ρ with
 | .own (.aQ ks vs)=>match k c ρ p with
  | .ok k p=>match d c ρ p with
   | .ok d p=>match keyOk 8 k with
    | true=>match cD ks k 0 with
     | some (some n)=>match dM vs n with
      | some v=>.next (t (s ρ (.own (.aQ (d6 ks n) (d6 vs n)))) (.val v)) p
      | none=>.stuck
     | some none=>.next (t ρ (.val d)) p
     | none=>.stuck
    | false=>.stuck
   | .stuck=>.stuck
   | .exc e p=>.exc e ρ p
  | .stuck=>.stuck
  | .exc e p=>.exc e ρ p
 | _=>.stuck
def aE (t:aq) (a b:bb):bb:=
 fun c ρ p=>(@Res.rec (fun _=>af) af.stuck (fun v p=>(@V.rec (fun _=>af) (fun _=>Unit) (af.stuck) (fun q=>(@Bool.rec (fun _=>af) (b c ρ p) (a c ρ p) q)) (fun _=>af.stuck) (fun _=>af.stuck) (fun _ _=>af.stuck) (fun _ _=>af.stuck) (fun _ _ _ _=>af.stuck) (fun _ _ _=>af.stuck) () (fun _ _ _ _=>()) v)) (fun e p=>af.exc e ρ p) (t c ρ p))
def forL (t:d8) (body:bb) (c:Call) (l:List V):Fr→List V→af:=
 @List.rec V (fun _=>Fr→List V→af) (fun ρ p=>af.next ρ p) (fun v _ ih=>fun ρ p=>(@Option.rec Fr (fun _=>af) (af.stuck) (fun ρ=>(@af.rec (fun _=>af) af.stuck ih af.next ih af.ret af.exc (body c ρ p))) (cM t v ρ))) l
def bI (t:d8) (x:aq) (body:bb):bb:=
 fun c ρ p=>(@Res.rec (fun _=>af) af.stuck (fun v p=>(@Option.rec (List V) (fun _=>af) (af.stuck) (fun l=>forL t body c l ρ p) (itemsOf v))) (fun e p=>af.exc e ρ p) (x c ρ p))
def fz (t:aq) (body:bb) (c:Call) (n:Nat):Fr→List V→af:=
 @Nat.rec (fun _=>Fr→List V→af) (fun _ _=>af.stuck) (fun _ ih ρ p=>(@Res.rec (fun _=>af) af.stuck (fun v p=>(@V.rec (fun _=>af) (fun _=>Unit) (af.stuck) (fun q=>(@Bool.rec (fun _=>af) (af.next ρ p) ((@af.rec (fun _=>af) af.stuck ih af.next ih af.ret af.exc (body c ρ p))) q)) (fun _=>af.stuck) (fun _=>af.stuck) (fun _ _=>af.stuck) (fun _ _=>af.stuck) (fun _ _ _ _=>af.stuck) (fun _ _ _=>af.stuck) () (fun _ _ _ _=>()) v)) (fun e p=>af.exc e ρ p) (t c ρ p))) n
abbrev turns:Nat:=1000
def bC (t:aq) (body:bb):bb:=
 fun c ρ p=>fz t body c turns ρ p
def ai (x:aq):bb:=
 fun c ρ p=>(@Res.rec (fun _=>af) af.stuck (fun v p=>af.ret v ρ p) (fun e p=>af.exc e ρ p) (x c ρ p))
def rq:bb:=
 fun _ ρ p=>.cont ρ p
def cS (k x:aq):bb:=fun c ρ p=>match k c ρ p with
 | .ok k p=>match x c ρ p with
  | .ok t p=>match k with
   | .str k=>match t with
    | .str t=>match short lid k with
     | true=>match short lid t with
      | true=>.exc k ρ p
      | false=>.stuck
     | false=>.stuck
    | _=>.stuck
   | _=>.stuck
  | .stuck=>.stuck
  | .exc e p=>.exc e ρ p
 | .stuck=>.stuck
 | .exc e p=>.exc e ρ p
def j5:Fr:=
 (Fr.mk Slot.undef Slot.undef Slot.undef Slot.undef Slot.undef Slot.undef Slot.undef Slot.undef Slot.undef Slot.undef Slot.undef Slot.undef Slot.undef Slot.undef Slot.undef Slot.undef)
def n6 (x:aq):bb:=
 fun c ρ p=>(@Res.rec (fun _=>af) af.stuck (fun v p=>af.ret v ρ p) (fun k p=>af.ret (V.str k) j5 p) (x c ρ p))
structure ak where
 np:Nat
 body:bb
inductive Tab where
 | nil
 | leaf (d:ak)
 | node (k:Nat) (l r:Tab)
def Tab.get (t:Tab):Nat→Option ak:=
 @Tab.rec (fun _=>Nat→Option ak) (fun _=>none) (fun d _=>some d) (fun k _ _ l r n=>(@Bool.rec (fun _=>Option ak) (r n) (l n) (Nat.blt n k))) t
def fill (l:List Slot):Fr:=
 (@List.rec Slot (fun _=>Fr) ((Fr.mk Slot.undef Slot.undef Slot.undef Slot.undef Slot.undef Slot.undef Slot.undef Slot.undef Slot.undef Slot.undef Slot.undef Slot.undef Slot.undef Slot.undef Slot.undef Slot.undef)) (fun a4 r4 _=>(@List.rec Slot (fun _=>Fr) ((Fr.mk a4 Slot.undef Slot.undef Slot.undef Slot.undef Slot.undef Slot.undef Slot.undef Slot.undef Slot.undef Slot.undef Slot.undef Slot.undef Slot.undef Slot.undef Slot.undef)) (fun a3 r3 _=>(@List.rec Slot (fun _=>Fr) ((Fr.mk a4 a3 Slot.undef Slot.undef Slot.undef Slot.undef Slot.undef Slot.undef Slot.undef Slot.undef Slot.undef Slot.undef Slot.undef Slot.undef Slot.undef Slot.undef)) (fun a2 r2 _=>(@List.rec Slot (fun _=>Fr) ((Fr.mk a4 a3 a2 Slot.undef Slot.undef Slot.undef Slot.undef Slot.undef Slot.undef Slot.undef Slot.undef Slot.undef Slot.undef Slot.undef Slot.undef Slot.undef)) (fun a1 r1 _=>(Fr.mk a4 a3 a2 a1 Slot.undef Slot.undef Slot.undef Slot.undef Slot.undef Slot.undef Slot.undef Slot.undef Slot.undef Slot.undef Slot.undef Slot.undef)) r2)) r3)) r4)) l)
def eL (d:ak) (c:Call) (args:List Slot) (p:List V):Res:=
 (@Bool.rec (fun _=>Res) (Res.stuck) (@af.rec (fun _=>Res) Res.stuck (fun _ p=>Res.ok V.none p) (fun _ _=>Res.stuck) (fun _ _=>Res.stuck) (fun v _ p=>Res.ok v p) (fun k _ p=>Res.exc k p) (d.body c (fill args) p)) (Nat.beq (cW args) d.np))
abbrev ic:=Nat→Option (Nat→List Slot→Option V)
def aU (T:Tab) (o:ic) (n:Nat):Call:=
 @Nat.rec (fun _=>Call) (fun _ _ _=>Res.stuck) (fun n ih f args p=>(@Option.rec (Nat→List Slot→Option V) (fun _=>Res) ((@Option.rec ak (fun _=>Res) (Res.stuck) (fun d=>eL d ih args p) (T.get f))) (fun g=>(@Option.rec V (fun _=>Res) ((@Option.rec ak (fun _=>Res) (Res.stuck) (fun d=>eL d ih args p) (T.get f))) (fun v=>Res.ok v p) (g n args))) (o f))) n
end
noncomputable section
structure Cx where
 sc:List (Str×NameKind)
 vars:List (Str×Nat)
 muts:List Str
 fns:List (Str×Nat)
 glb:List (Str×V)
 next:Nat
 lam:Nat
 caps:List Str
def Cx.du (cx:Cx) (x:Str):Bool:=cx.sc.lookup x==some .globalImplicit
def aM (x:Str):Bool:=x !=("__debug__" : Str)&&x !=("__classdict__" : Str)
abbrev CE:=Option (aq×List Nat)
def qP:List (Str×F1):=[("len",.len),("abs",.abs),("any",.any),("dict",.dict),("list",.list),("tuple",.tuple),("sorted",.sorted),("str",.str),("sum",.sum),("max",.max)]
def qO:List (Str×F2):=[("max",.max),("min",.min)]
def qF:List (Str×F1):=[("range",.range),("enumerate",.enumerate),("reversed",.reversed)]
def okBase:Expr→Bool
 | .Call (.Name _ _) [] _ _=>false
 | _=>true
def gY (o:Expr) (apos pos:Pos):Bool:=okBase o&&apos.endLine==pos.line
def constV:Const→Option V
 | .none=>some .none
 | .bool b=>some (.bool b)
 | .int i=>some (.int i)
 | .str s=>some (.str s.cps.toList)
 | _=>none
def tgtOf (vars:List (Str×Nat)):Expr→Option d8
 | .Name x _=>match vars.lookup x with
  | some j=>some (.one (sets j))
  | none=>none
 | .Tuple [.Name x _,.Name y _] _ _=>match vars.lookup x,vars.lookup y with
  | some j,some k=>some (.two (sets j) (sets k))
  | _,_=>none
 | _=>none
def dC (cx:Cx) (sc:Scope):Cx:={ cx with sc:=sc.names,caps:=[],vars:=cx.vars.filter fun x=>sc.names.lookup x.1==some .free }
def fl (cx:Cx) (sc:Scope):List Nat:=(cx.muts.filter fun x=>sc.names.lookup x==some .free).filterMap fun x=>cx.vars.lookup x
def fh (js:List Nat) (d:aq):aq:=match js with
 | []=>d
 | js=>eH (js.map ay) d
def cP (cx:Cx) (x:Str):Bool:=(cx.vars.lookup x).isNone&&cx.sc.lookup x==some .local&&aM x
def bindC (cx:Cx):Expr→Option Cx
 | .Name x _=>match cP cx x with
  | true=>some { cx with vars:=(x,cx.next)::cx.vars,next:=cx.next + 1 }
  | false=>none
 | .Tuple [.Name x _,.Name y _] _ _=>match cP cx x&&cP cx y&&x !=y with
  | true=>some { cx with vars:=(y,cx.next + 1)::(x,cx.next)::cx.vars,next:=cx.next + 2 }
  | false=>none
 | _=>none
def rz:Expr→Bool
 | .Call (.Attribute _ m _) [] [] _=>m==("items" : Str)
 | .Call (.Name f _) [_] [] _=>f==("enumerate" : Str)
 | _=>false
def mH:Expr→Bool→Bool
 | .Name _ _,o=>!o
 | .Tuple _ _ _,_=>true
 | _,_=>false
def freeOf (sc:Scope):List Str:=(sc.names.filter fun x=>x.2==.free).map (·.1)
def ml (cx:Cx) (x:Str):Bool:=cx.sc.lookup x==some .cell||cx.sc.lookup x==some .free
def dP (cx:Cx) (sc:Scope):Bool:=sc.kind==.function&&(sc.names.all fun x=>x.2 !=.cell&&(x.2 !=.local||sc.names.lookup x.1==some .local)&&(x.2 !=.free||ml cx x.1))
def slotsOf (cx:Cx):List Str→Option (List Nat)
 | []=>some []
 | x::r=>match cx.vars.lookup x,slotsOf cx r with
  | some j,some l=>some (j::l)
  | _,_=>none
def penName (cx:Cx):Expr→Option Nat
 | .Name x _=>match x==("pen" : Str)&&aM x with
  | true=>cx.vars.lookup x
  | false=>none
 | _=>none
mutual
def compE:Nat→Cx→Bool→Expr→CE
 | 0,_,_,_=>none
 | n + 1,cx,b,e=>match e with
 | .Constant c _ _=>match constV c with
  | some v=>some (cK v,[])
  | none=>none
 | .Name x _=>match aM x with
  | false=>none
  | true=>match cx.vars.lookup x with
   | some j=>match b with
    | true=>some (aa (ay j),[])
    | false=>some (ao (ay j),[j])
   | none=>match cx.du x,cx.glb.lookup x with
    | true,some v=>some (cK v,[])
    | _,_=>none
 | .BoolOp op xs _=>compBool n cx op xs
 | .BinOp l op r _=>match compE n cx true l,compE n cx true r with
  | some (x,a),some (y,c)=>some (c2 (yt op) x y,a++c)
  | _,_=>none
 | .UnaryOp op x _=>match compE n cx true x with
  | some (x,a)=>match op with
   | .USub=>some (c1 bJ x,a)
   | .Not=>some (c1 hJ x,a)
   | _=>none
  | none=>none
 | .IfExp t x y _=>match compE n cx false t,compE n cx false x,compE n cx false y with
  | some (t,a),some (x,c),some (y,d)=>some (aR t x y,a++c++d)
  | _,_,_=>none
 | .Compare l [op] [r] _=>match compE n cx true l,compE n cx true r with
  | some (x,a),some (y,c)=>some (c2 (yn op) x y,a++c)
  | _,_=>none
 | .Tuple xs _ _=>match compEs n cx xs,Nat.ble xs.length 100 with
  | some (ds,a),true=>some (av ds,a)
  | _,_=>none
 | .List xs _=>match compEs n cx xs,Nat.ble xs.length 100 with
  | some (ds,a),true=>some (ax ds,a)
  | _,_=>none
 | .Dict [] [] _=>some (cK (.aQ [] []),[])
 | .Subscript o (.Slice lo hi none _) _=>match compE n cx true o,compO n cx lo,compO n cx hi with
  | some (x,a),some (lo,c),some (hi,d)=>some (cz x lo hi,a++c++d)
  | _,_,_=>none
 | .Subscript o (.Slice none none (some (.UnaryOp .USub (.Constant (.int 1) _ _) _)) _) _=>match compE n cx true o with
  | some (x,a)=>some (c1 iE x,a)
  | none=>none
 | .Subscript o i _=>match penName cx o with
  | some j=>match compE n cx true i with
   | some (y,c)=>some (dZ (ay j) y,c)
   | none=>none
  | none=>match compE n cx true o,compE n cx true i with
   | some (x,a),some (y,c)=>some (c2 ah x y,a++c)
   | _,_=>none
 | .ListComp e gs sc _=>match dP cx sc,compG n true cx (dC cx sc) e gs with
  | true,some (g,a)=>some (fh (fl cx sc) (bt g),a++fl cx sc)
  | _,_=>none
 | .DictComp k (.Constant (.bool v) _ _) gs sc _=>match dP cx sc,compG n true cx (dC cx sc) k gs with
  | true,some (g,a)=>some (fh (fl cx sc) (pO g (.bool v)),a++fl cx sc)
  | _,_=>none
 | .Lambda _ _ sc _=>match freeOf sc,slotsOf cx (freeOf sc) with
  | [x],some [j]=>match cx.caps.contains x&&cx.sc.lookup x==some .cell with
   | true=>some (pP cx.lam [ay j],[j])
   | false=>none
  | _,_=>none
 | .Call (.Attribute o m ap) [k,d] [] cp=>match m==("get" : Str)&&gY o ap cp,compE n cx true o,compE n cx false k,compE n cx false d with
  | true,some (x,a),some (y,c),some (z,e)=>some (iK x y z,a++c++e)
  | _,_,_,_=>none
 | .Call (.Name f _) [.Call (.Attribute o m ap) [] [] cp] [] _=>match f==("sorted" : Str)&&m==("items" : Str)&&gY o ap cp&&aM f&&cx.du f&&(cx.vars.lookup f).isNone&&(cx.fns.lookup f).isNone,compE n cx true o with
  | true,some (x,a)=>some (c1 sortItemsF x,a)
  | _,_=>none
 | .Call (.Name f _) args [] _=>match cx.vars.lookup f with
  | some j=>match aM f,args with
   | true,[x]=>match compE n cx false x with
    | some (d,a)=>some (cApp (ay j) d,a)
    | none=>none
   | _,_=>none
  | none=>match aM f&&cx.du f with
   | false=>none
   | true=>match cx.fns.lookup f with
   | some i=>match compArgs n cx args with
    | some (ds,a)=>some (ae i ds,a)
    | none=>none
   | none=>match args with
    | [x]=>match qP.lookup f,compE n cx true x with
     | some g,some (d,a)=>some (c1 (AU g) d,a)
     | _,_=>none
    | [x,y]=>match f==("isinstance" : Str),y with
     | true,.Name t _=>match t==("str" : Str)&&cx.du t&&(cx.vars.lookup t).isNone,compE n cx true x with
      | true,some (d,a)=>some (c1 ff d,a)
      | _,_=>none
     | _,_=>match qO.lookup f,compE n cx true x,compE n cx true y with
      | some g,some (d,a),some (e,c)=>some (c2 (B0 g) d e,a++c)
      | _,_,_=>none
    | _=>none
 | _=>none
def compI:Nat→Cx→Bool→Expr→CE
 | 0,_,_,_=>none
 | n + 1,cx,b,e=>match e with
 | .Call (.Attribute o m ap) [] [] cp=>match m==("items" : Str)&&gY o ap cp,compE n cx b o with
  | true,some (x,a)=>some (c1 fH x,a)
  | _,_=>none
 | .Call (.Name f p) [x] [] cp=>match qF.lookup f with
  | some g=>match aM f&&cx.du f&&(cx.vars.lookup f).isNone&&(cx.fns.lookup f).isNone,compE n cx b x with
   | true,some (d,a)=>some (c1 (AU g) d,a)
   | _,_=>none
  | none=>compE n cx b (.Call (.Name f p) [x] [] cp)
 | .Call (.Name f p) [x,y] [] cp=>match f==("range" : Str) with
  | true=>match aM f&&cx.du f&&(cx.vars.lookup f).isNone&&(cx.fns.lookup f).isNone,compE n cx b x,compE n cx b y with
   | true,some (d,a),some (e,c)=>some (c2 dO d e,a++c)
   | _,_,_=>none
  | false=>compE n cx b (.Call (.Name f p) [x,y] [] cp)
 | e=>compE n cx b e
def compO:Nat→Cx→Option Expr→Option (Option aq×List Nat)
 | 0,_,_=>none
 | n + 1,cx,e=>match e with
 | none=>some (none,[])
 | some e=>match compE n cx true e with
  | some (d,a)=>some (some d,a)
  | none=>none
def compBool:Nat→Cx→BoolOp→List Expr→CE
 | 0,_,_,_=>none
 | n + 1,cx,op,xs=>match xs with
 | []=>none
 | x::xs=>match compE n cx false x,xs with
  | some r,[]=>some r
  | some (x,a),y::ys=>match compBool n cx op (y::ys) with
   | some (r,c)=>match op with
    | .And=>some (bL x r,a++c)
    | .Or=>some (gw x r,a++c)
   | none=>none
  | none,_=>none
def compEs:Nat→Cx→List Expr→Option (List aq×List Nat)
 | 0,_,_=>none
 | n + 1,cx,xs=>match xs with
 | []=>some ([],[])
 | x::xs=>match compE n cx false x,compEs n cx xs with
  | some (d,a),some (ds,c)=>some (d::ds,a++c)
  | _,_=>none
def compArgs:Nat→Cx→List Expr→Option (List aS×List Nat)
 | 0,_,_=>none
 | n + 1,cx,xs=>match xs with
 | []=>some ([],[])
 | .Name x p::xs=>match compArgs n cx xs with
  | some (ds,c)=>match cx.vars.lookup x with
   | some j=>some (.slot (ay j)::ds,j::c)
   | none=>match compE n cx false (.Name x p) with
    | some (d,a)=>some (.exp d::ds,a++c)
    | none=>none
  | none=>none
 | x::xs=>match compE n cx false x,compArgs n cx xs with
  | some (d,a),some (ds,c)=>some (.exp d::ds,a++c)
  | _,_=>none
def compG:Nat→Bool→Cx→Cx→Expr→List Comprehension→Option (G×List Nat)
 | 0,_,_,_,_,_=>none
 | n + 1,b,cx,ci,elt,gs=>match gs with
 | []=>match b,compE n ci false elt with
  | false,some (d,a)=>some (bF d,a)
  | _,_=>none
 | ⟨t,src,ifs,as⟩::gs=>match compI n cx b src,bindC ci t,as==0&&mH t (rz src) with
  | some (s,a),some cx',true=>match tgtOf cx'.vars t,compEs n cx' ifs,compG n false cx' cx' elt gs with
   | some tg,some (cs,c),some (g,d)=>some (bB tg s cs g,a++c++d)
   | _,_,_=>none
  | _,_,_=>none
end
abbrev cC:Nat:=60
abbrev gi:Nat:=60
def Aq:Stmt→List Str
 | .Expr (.Call (.Attribute (.Name x _) m _) _ _ _) _=>match m==("append" : Str)||m==("extend" : Str)||m==("insert" : Str) with
  | true=>[x]
  | false=>[]
 | .Assign [.Subscript (.Name x _) _ _] _ _=>[x]
 | .Assign _ (.Call (.Attribute (.Name x _) m _) _ _ _) _=>match m==("pop" : Str) with
  | true=>[x]
  | false=>[]
 | _=>[]
mutual
def Ap:Nat→Stmt→List Str
 | 0,_=>[]
 | n + 1,s=>match s with
 | .For _ _ body _ _=>mutsB n body
 | .While _ body _ _=>mutsB n body
 | .If _ a b _=>mutsB n a++mutsB n b
 | s=>Aq s
def mutsB:Nat→List Stmt→List Str
 | 0,_=>[]
 | n + 1,l=>match l with
 | []=>[]
 | s::r=>Ap n s++mutsB n r
end
def freshE:Expr→Bool
 | .List _ _=>true
 | .Dict _ _ _=>true
 | .BinOp (.List _ _) .Mult _ _=>true
 | _=>false
def bP (cx:Cx) (js:List Nat) (d:bb):bb:=
 (js.eraseDups.filter fun j=>cx.muts.any fun x=>cx.vars.lookup x==some j).foldr (fun j d=>ag (bV (ay j) (sets j)) d) d
def namesOf:List Expr→Option (List Str)
 | []=>some []
 | .Name x _::r=>match namesOf r with
  | some l=>some (x::l)
  | none=>none
 | _=>none
def owns (cx:Cx):List Str→List Expr→List Bool
 | x::xs,e::es=>(cx.muts.contains x&&freshE e)::owns cx xs es
 | _,_=>[]
def cq (cx:Cx) (x:Str):Option Nat:=match (cx.sc.lookup x==some .local||cx.sc.lookup x==some .cell)&&!cx.caps.contains x&&aM x with
 | true=>cx.vars.lookup x
 | false=>none
def fA (cx:Cx):List Str→Option (List Nat)
 | []=>some []
 | x::r=>match cq cx x,fA cx r with
  | some j,some l=>some (j::l)
  | _,_=>none
def q9 (cx:Cx):Expr→Option d8
 | .Name x _=>match cq cx x with
  | some j=>some (.one (sets j))
  | none=>none
 | .Tuple [.Name x _,.Name y _] _ _=>match cq cx x,cq cx y,x !=y with
  | some j,some k,true=>some (.two (sets j) (sets k))
  | _,_,_=>none
 | _=>none
def distinct:List Str→Bool
 | []=>true
 | x::r=>!r.contains x&&distinct r
def rg (es:List Expr):Bool:=es.all (foldedForSure 8)||!(es.all (constantsAlone 8))
def notComp:Expr→Bool
 | .ListComp .. | .SetComp .. | .DictComp ..=>false
 | _=>true
def popOf:Expr→Option (Str×List Expr)
 | .Call (.Attribute (.Name x _) m ap) args [] cp=>match m==("pop" : Str)&&ap.endLine==cp.line&&aM x with
  | true=>some (x,args)
  | false=>none
 | _=>none
def compAssign (cx:Cx) (targets:List Expr) (value:Expr):Option bb:=match targets with
 | [.Name x _]=>match cq cx x with
  | none=>none
  | some j=>match popOf value with
   | some (y,args)=>match cx.vars.lookup y,args,x !=y with
    | some k,[],true=>some (sPop [sets j] (ay k) (sets k))
    | some k,[a,b],true=>match compE cC cx false a,compE cC cx false b with
     | some (a,r),some (b,r')=>some (bP cx (r++r') (sPopD (sets j) (ay k) (sets k) a b))
     | _,_=>none
    | _,_,_=>none
   | none=>match compE cC cx false value with
    | some (d,r)=>match cx.muts.contains x&&freshE value with
     | true=>some (bP cx r (fT (sets j) d))
     | false=>some (bP cx r (aA (sets j) d))
    | none=>none
 | [.Tuple ts _ _]=>match namesOf ts with
  | none=>none
  | some ns=>match (match distinct ns with | true=>fA cx ns | false=>none) with
   | none=>none
   | some js=>match popOf value with
    | some (y,[])=>match cx.vars.lookup y,!ns.contains y&&ns.length !=1 with
     | some k,true=>some (sPop (js.map sets) (ay k) (sets k))
     | _,_=>none
    | some _=>none
    | none=>match value with
     | .Tuple es _ _=>match compEs cC cx es,rg es&&Nat.ble es.length 100&&es.length==ns.length with
      | some (ds,r),true=>some (bP cx r (br ((js.map sets).zip (owns cx ns es)) ds))
      | _,_=>none
     | _=>match compE cC cx false value with
      | some (d,r)=>some (bP cx r (eU (js.map sets) d))
      | none=>none
 | [.Subscript (.Name x _) i _]=>match cx.vars.lookup x,compE cC cx false value,compE cC cx true i,aM x&&notComp value with
  | some j,some (d,r),some (i,r'),true=>some (bP cx (r++r') (dW (ay j) (sets j) i d))
  | _,_,_,_=>none
 | _=>none
def compExprS (cx:Cx):Expr→Option bb
 | .Call (.Attribute (.Name x _) m ap) [a] [] cp=>match cx.vars.lookup x,ap.endLine==cp.line&&aM x with
  | none,_=>none
  | _,false=>none
  | some j,true=>match m==("append" : Str),m==("extend" : Str) with
   | true,_=>match compE cC cx false a with
    | some (d,r)=>some (bP cx r (df (ay j) (sets j) d))
    | none=>none
   | _,true=>match compE cC cx true a with
    | some (d,r)=>some (bP cx r (mM (ay j) (sets j) d))
    | none=>none
   | _,_=>none
 | .Call (.Attribute (.Name x _) m ap) [i,a] [] cp=>match cx.vars.lookup x,m==("insert" : Str)&&ap.endLine==cp.line&&aM x,compE cC cx true i,compE cC cx false a with
  | some j,true,some (i,r),some (d,r')=>some (bP cx (r++r') (oE (ay j) (sets j) i d))
  | _,_,_,_=>none
 | .Call (.Name f p) args [] q=>match compE cC cx false (.Call (.Name f p) args [] q) with
  | some (d,r)=>some (bP cx r (rn d))
  | none=>none
 | _=>none
mutual
def compS:Nat→Cx→Stmt→Option bb
 | 0,_,_=>none
 | n + 1,cx,s=>match s with
 | .Expr e _=>compExprS cx e
 | .Assign ts v _=>compAssign cx ts v
 | .AugAssign (.Name x _) op e _=>match cq cx x,compE cC cx true e,cx.muts.contains x with
  | some j,some (d,r),false=>some (bP cx r (aA (sets j) (c2 (ko op) (ao (ay j)) d)))
  | _,_,_=>none
 | .For t src body [] _=>match mH t (rz src),q9 cx t,compI cC cx false src,compB n cx body with
  | true,some tg,some (s,r),some b=>some (bP cx r (bI tg s b))
  | _,_,_,_=>none
 | .While t body [] _=>match compE cC cx true t,compB n cx body with
  | some (t,[]),some b=>some (bC t b)
  | some (t,r),some b=>match (r.all fun j=>cx.muts.all fun x=>cx.vars.lookup x !=some j) with
   | true=>some (bC t b)
   | false=>none
  | _,_=>none
 | .If t a b _=>match compE cC cx false t,compB n cx a,compB n cx b with
  | some (t,r),some a,some b=>some (bP cx r (aE t a b))
  | _,_,_=>none
 | .Return (some e) _=>match compE cC cx false e with
  | some (d,r)=>some (bP cx r (ai d))
  | none=>none
 | .Raise (some (.Call (.Name c _) [k,x] [] _)) none _=>match c==("CasFail" : Str)&&cx.du c&&(cx.vars.lookup c).isNone,compE cC cx false k,compE cC cx false x with
  | true,some (k,r),some (x,r')=>some (bP cx (r++r') (cS k x))
  | _,_,_=>none
 | .Try [.Return (some x) _] [.ExceptHandler (some (.Name c _)) (some n) [.Return (some (.Attribute (.Name n' _) a _)) _] _] [] [] _=>
  match c==("CasFail" : Str)&&cx.du c&&n==n'&&a==("kind" : Str)&&(cq cx n).isSome&&cx.sc.lookup n==some .local,compE cC cx false x with
  | true,some (d,r)=>some (bP cx r (n6 d))
  | _,_=>none
 | .Continue _=>some rq
 | _=>none
def compB:Nat→Cx→List Stmt→Option bb
 | 0,_,_=>none
 | n + 1,cx,l=>match l with
 | []=>some aB
 | s::r=>match compS n cx s,r with
  | some d,[]=>some d
  | some d,s'::r'=>match compB n cx (s'::r') with
   | some e=>some (ag d e)
   | none=>none
  | none,_=>none
end
def x9:NameKind→Bool
 | .local | .cell | .free=>true
 | _=>false
def numbered (n:Nat):List Str→List (Str×Nat)
 | []=>[]
 | x::r=>(x,n)::numbered (n + 1) r
def de (params:List Str) (sc:Scope):List Str:=params++((sc.names.filter fun x=>x9 x.2&&!params.contains x.1).map (·.1))
def kH (fns:List (Str×Nat)) (glb:List (Str×V)) (lam:Nat) (caps:List Str) (params:List Str) (sc:Scope) (body:List Stmt):Option ak:=
 let vs:=de params sc
 match compB gi { sc:=sc.names,vars:=numbered 0 vs,muts:=(mutsB gi body).eraseDups,fns,glb,next:=vs.length,lam,caps } body with
 | some d=>some { np:=params.length,body:=d }
 | none=>none
end
end Mine
namespace Mine
theorem qE (a b:Int):nF a b=true↔a=b:=by
 cases a <;> cases b <;> simp only [nF,Nat.beq_eq,Int.ofNat.injEq,Int.negSucc.injEq,Bool.false_eq_true,false_iff,reduceCtorEq,not_false_eq_true]
theorem kd (a b:Int):nF a b=(a==b):=by
 rw [Bool.eq_iff_iff,qE];simp
theorem blt_dec (m n:Nat):Nat.blt m n=decide (m < n):=by
 rw [Bool.eq_iff_iff];simp [Nat.blt,Nat.ble_eq];omega
theorem d5 (a b:Int):kU a b=decide (a < b):=by
 cases a <;> cases b <;> simp only [kU,blt_dec]
 ·rename_i m n;rw [decide_eq_decide];simp
 ·rename_i m n;symm;exact decide_eq_false (by simp only [Int.ofNat_eq_natCast];omega)
 ·rename_i m n;symm;exact decide_eq_true (by have:=Int.negSucc_lt_zero ‹Nat›;simp only [Int.ofNat_eq_natCast];omega)
 ·rename_i m n;rw [decide_eq_decide];omega
theorem iQ (b:Bool):jd b=!b:=by cases b <;> rfl
theorem ph (a b:Int):sT a b=decide (a≤b):=by
 unfold sT;rw [d5,iQ,← decide_not,decide_eq_decide];omega
theorem v9 (m n:Nat):rh m n=(m:Int) - n:=by
 unfold rh
 cases h:Nat.ble n m with
 | true=>have:=Nat.le_of_ble_eq_true h;show Int.ofNat (m - n)=_;simp only [Int.ofNat_eq_natCast];omega
 | false=>
  have:¬n≤m:=fun q=>by rw [Nat.ble_eq_true_of_le q] at h;cases h
  show Int.negSucc (Nat.pred (n - m))=_
  rw [Int.negSucc_eq];simp only [Nat.pred_eq_sub_one];omega
theorem gP (a b:Int):bR a b=a + b:=by
 cases a <;> cases b <;> simp only [bR,v9,Nat.add_eq,Int.ofNat_eq_natCast,Int.negSucc_eq] <;> omega
theorem mQ (n:Nat):mR n=-(n:Int):=by cases n <;> rfl
theorem qC (a:Int):uk a=-a:=by
 cases a with
 | ofNat m=>exact mQ m
 | negSucc m=>rfl
theorem iT (a b:Int):dw a b=a - b:=by unfold dw;rw [gP,qC];rfl
theorem mW (a b:Int):eV a b=a * b:=by
 cases a <;> cases b <;> simp only [eV,mQ,Nat.mul_eq,Int.ofNat_eq_natCast,Int.negSucc_eq,Int.natCast_mul,Int.natCast_succ]
 ·rw [Int.mul_neg]
 ·rw [Int.neg_mul]
 ·rw [Int.neg_mul_neg]
theorem wN (a b:Int):mY a b=Int.fdiv a b:=by
 cases a with
 | ofNat m=>cases b with
  | ofNat n=>cases m with
   | zero=>show Int.ofNat (0 / n)=0;rw [Nat.zero_div];rfl
   | succ m=>rfl
  | negSucc n=>cases m <;> rfl
 | negSucc m=>cases b with
  | ofNat n=>cases n <;> rfl
  | negSucc n=>rfl
theorem qD (a b:Int):mX a b=Int.fmod a b:=by
 cases a with
 | ofNat m=>cases b with
  | ofNat n=>cases m with
   | zero=>show Int.ofNat (0 % n)=0;rw [Nat.zero_mod];rfl
   | succ m=>rfl
  | negSucc n=>cases m with
   | zero=>rfl
   | succ k=>
    show bR (.negSucc n) (.ofNat (Nat.succ (k % Nat.succ n)))=Int.subNatNat (k % Nat.succ n) n
    rw [gP,Int.subNatNat_eq_coe,Int.negSucc_eq]
    simp only [Int.ofNat_eq_natCast]
    omega
 | negSucc m=>cases b with
  | ofNat n=>
   show dw (.ofNat n) (.ofNat (Nat.succ (m % n)))=Int.subNatNat n (Nat.succ (m % n))
   rw [iT,Int.subNatNat_eq_coe];rfl
  | negSucc n=>
   show mR (Nat.succ m % Nat.succ n)=_
   rw [mQ];rfl
theorem wM (a:Int) (n:Nat):uj a n=a ^ n:=by
 induction n with
 | zero=>exact (Int.pow_zero a).symm
 | succ n ih=>show eV (uj a n) a=_;rw [mW,ih,Int.pow_succ]
theorem gf {a:Int} (h:fb a=true):a.natAbs < 2 ^ 64:=by
 cases a with
 | ofNat n=>simp only [fb,blt_dec,decide_eq_true_eq] at h;simpa using h
 | negSucc n=>simp only [fb,blt_dec,decide_eq_true_eq] at h;simp only [Int.natAbs_negSucc];omega
theorem jf:∀ (a b:List Nat),fG a b=true↔a=b
 | [],[]=>by simp [fG]
 | [],_::_=>by simp [fG]
 | _::_,[]=>by simp [fG]
 | a::as,b::bs=>by
  have e:fG (a::as) (b::bs)=@Bool.rec (fun _=>Bool) false (fG as bs) (Nat.beq a b):=rfl
  rw [e]
  cases h:Nat.beq a b with
  | true=>simp only [jf as bs,List.cons.injEq,Nat.eq_of_beq_eq_true h,true_and]
  | false=>simp only [Bool.false_eq_true,List.cons.injEq,Nat.ne_of_beq_eq_false h,false_and]
theorem nB (a b:List Nat):fG a b=(a==b):=by rw [Bool.eq_iff_iff,jf];simp
theorem ik:∀ (a b:List Nat),fF a b=decide (a < b)
 | [],[]=>by simp [fF]
 | [],_::_=>by simp [fF]
 | _::_,[]=>by simp [fF]
 | a::as,b::bs=>by
  have e:fF (a::as) (b::bs)=@Bool.rec (fun _=>Bool) (@Bool.rec (fun _=>Bool) false (fF as bs) (Nat.beq a b)) true (Nat.blt a b):=rfl
  rw [e,blt_dec]
  by_cases h:a < b
  ·rw [decide_eq_true h]
   symm;exact decide_eq_true (List.cons_lt_cons_iff.mpr (.inl h))
  ·rw [decide_eq_false h]
   cases q:Nat.beq a b with
   | true=>
    have:=Nat.eq_of_beq_eq_true q
    subst this
    show fF as bs=_
    rw [ik as bs,decide_eq_decide,List.cons_lt_cons_iff]
    simp
   | false=>
    have:=Nat.ne_of_beq_eq_false q
    show false=_
    symm;exact decide_eq_false fun x=>by
     rcases List.cons_lt_cons_iff.mp x with y | ⟨y,_⟩
     ·exact h y
     ·exact this y
theorem eJ {α:Type} (l m:List α):app l m=l++m:=by
 induction l with
 | nil=>rfl
 | cons a l ih=>show a::app l m=_;rw [ih];rfl
theorem bD {α:Type} (l:List α):cW l=l.length:=by
 induction l with
 | nil=>rfl
 | cons a l ih=>show Nat.succ (cW l)=_;rw [ih];rfl
theorem cu {α:Type}:∀ {n:Nat} {l:List α},short n l=true→l.length≤n
 | _,[],_=>Nat.zero_le _
 | 0,_::_,h=>by cases h
 | n + 1,_::l,h=>Nat.succ_le_succ (cu (n:=n) (l:=l) h)
theorem fq {α:Type}:∀ (l:List α) (n:Nat),dM l n=l[n]?
 | [],_=>by simp [dM]
 | a::l,0=>rfl
 | a::l,n + 1=>by
  have:=fq l n
  show dM l n=_
  rw [this];simp
theorem lz {α:Type}:∀ (l:List α) (n:Nat) (x:α),setAt l n x=l.set n x
 | [],_,_=>by simp [setAt]
 | a::l,0,x=>rfl
 | a::l,n + 1,x=>by show a::setAt l n x=_;rw [lz l n x];simp
theorem lx {α:Type}:∀ (l:List α) (n:Nat),lW l n=l.take n
 | [],_=>by simp [lW]
 | a::l,0=>rfl
 | a::l,n + 1=>by show a::lW l n=_;rw [lx l n];simp
theorem jy {α:Type}:∀ (l:List α) (n:Nat),kG l n=l.drop n
 | [],_=>by simp [kG]
 | a::l,0=>rfl
 | a::l,n + 1=>by show kG l n=_;rw [jy l n];simp
theorem qo {α:Type} (l m:List α):tO l m=l.reverse++m:=by
 induction l generalizing m with
 | nil=>rfl
 | cons a l ih=>show tO l (a::m)=_;rw [ih];simp
end Mine
namespace Mine
open PySem
theorem oj {α:Type} (n:Nat) (k:Nat→α):fN n k=k n:=by cases n <;> rfl
theorem AF {α:Type} (i:Int) (k:Int→α):fI i k=k i:=by
 cases i with
 | ofNat n=>exact oj n fun n=>k (.ofNat n)
 | negSucc n=>exact oj n fun n=>k (.negSucc n)
theorem AG {α:Type} (b:Bool) (k:Bool→α):fB b k=k b:=by cases b <;> rfl
theorem sX {α:Type}:∀ (l:List Nat) (k:List Nat→α),u7 l k=k l
 | [],k=>rfl
 | a::l,k=>by
  show fN a (fun a=>u7 l fun r=>k (a::r))=_
  rw [oj,sX l]
mutual
theorem u5:∀ (v:V) (k:V→Res),fV v k=k v
 | .none,k=>rfl
 | .bool b,k=>AG b fun b=>k (.bool b)
 | .int i,k=>AF i fun i=>k (.int i)
 | .str s,k=>sX s fun s=>k (.str s)
 | .tup l,k=>iV l fun l=>k (.tup l)
 | .lst l,k=>iV l fun l=>k (.lst l)
 | .aQ l m,k=>(iV l fun l=>u4 m fun m=>k (V.aQ l m)).trans (iV m fun m=>k (.aQ l m))
 | .clo f l,k=>(oj f fun f=>u4 l fun l=>k (V.clo f l)).trans (iV l fun l=>k (.clo f l))
theorem iV:∀ (l:List V) (k:List V→Res),u4 l k=k l
 | [],k=>rfl
 | v::l,k=>(u5 v fun v=>u4 l fun l=>k (v::l)).trans (iV l fun l=>k (v::l))
end
theorem ye (s:Slot) (k:Slot→Res):yf s k=k s:=by
 cases s with
 | val v=>exact u5 v fun v=>k (.val v)
 | _=>rfl
theorem sW:∀ (l:List Slot) (k:List Slot→Res),u6 l k=k l
 | [],k=>rfl
 | a::l,k=>by
  show yf a (fun a=>u6 l fun r=>k (a::r))=_
  rw [ye,sW l]
theorem pQ (f:Nat) (xs:List aS) (c:Call) (ρ:Fr) (p:List V):ae f xs c ρ p=(@aH.rec (fun _=>Res) Res.stuck (fun l p=>jB c f l p) Res.exc (bZ xs c ρ p)):=by
 show (@aH.rec (fun _=>Res) Res.stuck (fun l p=>u6 l fun l=>jB c f l p) Res.exc (bZ xs c ρ p))=_
 cases bZ xs c ρ p with
 | ok l p=>exact sW l _
 | _=>rfl
end Mine
namespace Mine
open PySem PySem.Calls PyProof.Rows
abbrev AP:=Addr→Prop
structure Cfg where
 prog:Program
 w:World
 h₀:Heap
 fa:Nat→Addr
 lam:Nat→FuncData→List Addr→Prop
 cls:Value
 pl:Addr
 lpos:Pos
 lqual:Str
 isDef:Nat→Bool
 lc:Addr
def aL:Value:=.type "frame"
def Kc (o:Obj):Prop:=o.cls≠aL∧o.cls≠.none
def lq (vs:List Value) (n:Nat):Obj:={ cls:=.type "tuple",dict:=none,data:=.seq vs.toArray n,slots:=#[] }
def cy (vs:List Value) (n:Nat):Obj:={ cls:=.type "list",dict:=none,data:=.seq vs.toArray n,slots:=#[] }
def cH (es:List DictEntry) (n:Nat):Obj:={ cls:=.type "dict",dict:=none,data:=.dict es.toArray n,slots:=#[] }
abbrev most:Nat:=8000
def TupAt (h:Heap) (a:Addr) (vs:List Value):Prop:=vs.length≤most∧∃ n,h.get? a=some (lq vs n)
def LstAt (h:Heap) (a:Addr) (vs:List Value):Prop:=vs.length≤most∧∃ n,h.get? a=some (cy vs n)
def dE (h:Heap) (a:Addr) (es:List DictEntry):Prop:=((a==sysModules)=false∧es.length≤most)∧∃ n,h.get? a=some (cH es n)
def fj (C:Cfg) (X:AP) (h:Heap) (c:Addr):Prop:=¬X c∧∃ o vs t,h.get? c=some o∧o.cls=.type "code" ∧ o.data=.fields vs∧vs[1]?=some (.str C.lqual t)
def om (C:Cfg) (X:AP) (h:Heap) (f:Nat) (a:Addr) (cs:List Addr):Prop:=∃ o fd c,h.get? a=some o∧o.cls=.type "function" ∧ o.data=.func fd∧C.lam f fd cs∧fd.code=.ref c∧fj C X h c
def cA (h:Heap) (c:Addr) (v:Value):Prop:=∃ o,h.get? c=some o∧o.cls=.type "cell" ∧ o.data=.cell (some v)
def CellsAre (h:Heap):List Addr→List Value→Prop
 | [],vs=>vs=[]
 | c::cs,vs=>∃ v r,vs=v::r∧cA h c v∧CellsAre h cs r
noncomputable def jR (w:World) (s:List Nat):Int:=hashStr w ⟨s.toArray⟩
def gy (ks:List V):Prop:=∀ k∈ks,keyOk 8 k=true
mutual
noncomputable def hashV (w:World):V→Int
 | .int i=>hashInt i
 | .str s=>jR w s
 | .tup l=>reduceHash (Builtin.Tuple.tupleHashOf (hashVs w l))
 | _=>0
noncomputable def hashVs (w:World):List V→List Int
 | []=>[]
 | v::r=>hashV w v::hashVs w r
end
mutual
def RepV (C:Cfg) (X:AP) (h:Heap):V→Value→Prop
 | .none,v=>v=.none
 | .bool b,v=>v=.bool b
 | .int i,v=>∃ t,v=.int i t
 | .str s,v=>∃ x t,v=.str x t∧x.cps.toList=s
 | .tup l,v=>∃ a vs,v=.ref a∧¬X a∧TupAt h a vs∧RepVs C X h l vs
 | .lst l,v=>∃ a vs,v=.ref a∧¬X a∧LstAt h a vs∧RepVs C X h l vs
 | .aQ ks xs,v=>∃ a es,v=.ref a∧¬X a∧dE h a es∧RepVs C X h ks (es.map (·.key))∧RepVs C X h xs (es.map (·.val))∧es.map (·.hash)=hashVs C.w ks∧gy ks
 | .clo f caps,v=>∃ a cs vs,v=.ref a∧¬X a∧om C X h f a cs∧(∀ c∈cs,¬X c)∧CellsAre h cs vs∧RepVs C X h caps vs
def RepVs (C:Cfg) (X:AP) (h:Heap):List V→List Value→Prop
 | [],vs=>vs=[]
 | x::xs,vs=>∃ v r,vs=v::r∧RepV C X h x v∧RepVs C X h xs r
end
variable {C:Cfg} {X X':AP} {h h':Heap}
def bG (c:Value):Prop:=c=.type "tuple" ∨ c=.type "list" ∨ c=.type "dict" ∨ (c=.type "function" ∨ c=.type "code")∨c=.type "cell"
def Tr (X:AP) (h:Heap) (X':AP) (h':Heap):Prop:=∀ a o,h.get? a=some o→bG o.cls→¬X a→h'.get? a=some o∧¬X' a
theorem aW {o:Obj} {n:String} (hc:o.cls=.type n) (hn:n ≠ "frame"):Kc o:=by
 unfold Kc;rw [hc];exact ⟨fun e=>by cases e;exact hn rfl,fun e=>by cases e⟩
theorem bG.ne {o:Obj} (h:bG o.cls):Kc o:=by
 unfold Kc
 rcases h with h | h | h | (h | h) | h <;> rw [h] <;> simp [aL]
theorem TupAt.tr {a:Addr} {vs:List Value} (x:TupAt h a vs) (t:Tr X h X' h') (hx:¬X a):TupAt h' a vs∧¬X' a:=
 let ⟨q,n,ho⟩:=x;⟨⟨q,n,(t a _ ho (.inl rfl) hx).1⟩,(t a _ ho (.inl rfl) hx).2⟩
theorem LstAt.tr {a:Addr} {vs:List Value} (x:LstAt h a vs) (t:Tr X h X' h') (hx:¬X a):LstAt h' a vs∧¬X' a:=
 let ⟨q,n,ho⟩:=x;⟨⟨q,n,(t a _ ho (.inr (.inl rfl)) hx).1⟩,(t a _ ho (.inr (.inl rfl)) hx).2⟩
theorem dE.tr {a:Addr} {es:List DictEntry} (x:dE h a es) (t:Tr X h X' h') (hx:¬X a):dE h' a es∧¬X' a:=
 let ⟨q,n,ho⟩:=x;⟨⟨q,n,(t a _ ho (.inr (.inr (.inl rfl))) hx).1⟩,(t a _ ho (.inr (.inr (.inl rfl))) hx).2⟩
theorem fj.tr {c:Addr} (x:fj C X h c) (t:Tr X h X' h'):fj C X' h' c:=
 let ⟨hx,o,vs,tk,ho,hc,r⟩:=x;let q:=t c o ho (.inr (.inr (.inr (.inl (.inr hc))))) hx;⟨q.2,o,vs,tk,q.1,hc,r⟩
theorem om.tr {f:Nat} {a:Addr} {cs:List Addr} (x:om C X h f a cs) (t:Tr X h X' h') (hx:¬X a):om C X' h' f a cs∧¬X' a:=
 let ⟨o,fd,c,ho,hc,hd,hl,he,r⟩:=x;let q:=t a o ho (.inr (.inr (.inr (.inl (.inl hc))))) hx;⟨⟨o,fd,c,q.1,hc,hd,hl,he,r.tr t⟩,q.2⟩
theorem CellsAre.tr (t:Tr X h X' h'):∀ {cs:List Addr} {vs:List Value},CellsAre h cs vs→(∀ c∈cs,¬X c)→CellsAre h' cs vs∧∀ c∈cs,¬X' c
 | [],_,x,_=>⟨x,fun _ hc=>nomatch hc⟩
 | c::cs,_,⟨v,r,e,⟨o,ho,hc,hd⟩,y⟩,hx=>by
  obtain ⟨y',z⟩:=CellsAre.tr t y fun c' hc'=>hx c' (List.mem_cons_of_mem _ hc')
  have q:=t c o ho (.inr (.inr (.inr (.inr hc)))) (hx c List.mem_cons_self)
  exact ⟨⟨v,r,e,⟨o,q.1,hc,hd⟩,y'⟩,fun c' hc'=>by
   rcases List.mem_cons.mp hc' with rfl | hc'
   ·exact q.2
   ·exact z c' hc'⟩
mutual
theorem RepV.tr (t:Tr X h X' h'):∀ {v:V} {x:Value},RepV C X h v x→RepV C X' h' v x
 | .none,_,r=>by simpa [RepV] using r
 | .bool _,_,r=>by simpa [RepV] using r
 | .int _,_,r=>by simpa [RepV] using r
 | .str _,_,r=>by simpa [RepV] using r
 | .tup l,_,r=>by
  simp only [RepV] at r ⊢
  obtain ⟨a,vs,e,hx,ht,q⟩:=r
  obtain ⟨y,z⟩:=ht.tr t hx
  exact ⟨a,vs,e,z,y,RepVs.tr t q⟩
 | .lst l,_,r=>by
  simp only [RepV] at r ⊢
  obtain ⟨a,vs,e,hx,ht,q⟩:=r
  obtain ⟨y,z⟩:=ht.tr t hx
  exact ⟨a,vs,e,z,y,RepVs.tr t q⟩
 | .aQ ks xs,_,r=>by
  simp only [RepV] at r ⊢
  obtain ⟨a,es,e,hx,ht,q1,q2,q3⟩:=r
  obtain ⟨y,z⟩:=ht.tr t hx
  exact ⟨a,es,e,z,y,RepVs.tr t q1,RepVs.tr t q2,q3⟩
 | .clo f caps,_,r=>by
  simp only [RepV] at r ⊢
  obtain ⟨a,cs,vs,e,hx,ht,hc,q1,q2⟩:=r
  obtain ⟨y,z⟩:=ht.tr t hx
  obtain ⟨y',z'⟩:=CellsAre.tr t q1 hc
  exact ⟨a,cs,vs,e,z,y,z',y',RepVs.tr t q2⟩
theorem RepVs.tr (t:Tr X h X' h'):∀ {l:List V} {vs:List Value},RepVs C X h l vs→RepVs C X' h' l vs
 | [],_,r=>by simpa [RepVs] using r
 | x::xs,_,r=>by
  simp only [RepVs] at r ⊢
  obtain ⟨v,rr,e,q1,q2⟩:=r
  exact ⟨v,rr,e,RepV.tr t q1,RepVs.tr t q2⟩
end
theorem RepVs.length:∀ {l:List V} {vs:List Value},RepVs C X h l vs→vs.length=l.length
 | [],_,r=>by simp only [RepVs] at r;subst r;rfl
 | x::xs,_,r=>by
  simp only [RepVs] at r
  obtain ⟨v,rr,rfl,_,q2⟩:=r
  simp [RepVs.length q2]
theorem RepVs.nil:RepVs C X h [] []:=by simp [RepVs]
theorem RepVs.cons {x:V} {v:Value} {xs:List V} {vs:List Value} (a:RepV C X h x v) (b:RepVs C X h xs vs):RepVs C X h (x::xs) (v::vs):=by
 simp only [RepVs];exact ⟨v,vs,rfl,a,b⟩
theorem RepVs.dY {x:V} {v:Value} {xs:List V} {vs:List Value}:RepVs C X h (x::xs) (v::vs)↔RepV C X h x v∧RepVs C X h xs vs:=by
 simp only [RepVs]
 constructor
 ·rintro ⟨_,_,e,a,b⟩;cases e;exact ⟨a,b⟩
 ·rintro ⟨a,b⟩;exact ⟨v,vs,rfl,a,b⟩
theorem RepVs.append:∀ {l m:List V} {vs ws:List Value},RepVs C X h l vs→RepVs C X h m ws→RepVs C X h (l++m) (vs++ws)
 | [],_,_,_,a,b=>by simp only [RepVs] at a;subst a;simpa using b
 | x::xs,_,_,_,a,b=>by
  simp only [RepVs] at a
  obtain ⟨v,r,rfl,q1,q2⟩:=a
  exact .cons q1 (RepVs.append q2 b)
theorem RepVs.get:∀ {l:List V} {vs:List Value} {n:Nat} {x:V},RepVs C X h l vs→l[n]?=some x→∃ v,vs[n]?=some v∧RepV C X h x v
 | [],_,_,_,_,e=>by simp at e
 | y::ys,_,0,_,a,e=>by
  simp only [RepVs] at a
  obtain ⟨v,r,rfl,q1,q2⟩:=a
  simp at e;subst e
  exact ⟨v,by simp,q1⟩
 | y::ys,_,n + 1,_,a,e=>by
  simp only [RepVs] at a
  obtain ⟨v,r,rfl,q1,q2⟩:=a
  simp at e
  obtain ⟨v',e',q'⟩:=RepVs.get q2 e
  exact ⟨v',by simpa using e',q'⟩
def Base (C:Cfg) (h:Heap):Prop:=∀ b o,C.h₀.get? b=some o→h.get? b=some o
def dm (C:Cfg) (X:AP) (h:Heap):Prop:=h.get? C.pl=some { cls:=.none,data:=.fields #[] }∨
 ∃ c',h.get? C.pl=some { cls:=.none,data:=.fields #[rawInt C.lpos.line,rawInt C.lpos.col,.ref c'] }∧fj C X h c'
def NC (h:Heap) (b:Addr):Prop:=∀ o,h.get? b=some o→(o.cls≠.type "code" ∧ o.cls≠.none)∨∀ ps,o.data≠.fields ps
theorem NC.code {C:Cfg} {X:AP} {h:Heap} {b:Addr} (x:NC h b) (y:fj C X h b):False:=by
 obtain ⟨_,o,vs,t,h1,h2,h3,_⟩:=y
 rcases x o h1 with ⟨e,_⟩ | e
 ·exact e h2
 ·exact e _ h3
theorem dm.but {C:Cfg} {X X':AP} {h h':Heap} {W:AP} (x:dm C X h) (k:∀ b o,h.get? b=some o→¬W b→h'.get? b=some o) (hw:∀ b,W b→NC h b) (hX:∀ b,X' b→X b∨NC h b:=by exact fun _ q=>.inl q):dm C X' h':=by
 rcases x with x | ⟨c',x,y⟩
 ·refine .inl (k _ _ x fun w=>?_)
  rcases hw _ w _ x with ⟨_,e⟩ | e
  ·exact e rfl
  ·exact e _ rfl
 ·refine .inr ⟨c',k _ _ x fun w=>?_,fun q=>?_,?_⟩
  ·rcases hw _ w _ x with ⟨_,e⟩ | e
   ·exact e rfl
   ·exact e _ rfl
  ·exact (hX c' q).elim y.1 fun n=>n.code y
  ·have hnw:¬W c':=fun w=>(hw c' w).code y
   obtain ⟨_,o,vs,t,h1,h2⟩:=y
   exact ⟨o,vs,t,k _ _ h1 hnw,h2⟩
theorem dm.keeps {C:Cfg} {X X':AP} {h h':Heap} (x:dm C X h) (k:∀ b o,h.get? b=some o→h'.get? b=some o) (hX:∀ b,X' b→X b∨NC h b:=by exact fun _ q=>.inl q):dm C X' h':=x.but (W:=fun _=>False) (fun b o e _=>k b o e) (fun _ q=>q.elim) hX
theorem dm.mono {C:Cfg} {X X':AP} {h:Heap} (x:dm C X h) (hX:∀ b,X' b→fj C X h b→X b):dm C X' h:=
 x.imp id fun ⟨c',a,b⟩=>⟨c',a,fun q=>b.1 (hX c' q b),b.2⟩
theorem NC.none {h:Heap} {b:Addr} (e:h.get? b=none):NC h b:=fun o q=>by rw [e] at q;cases q
theorem NC.gZ {h:Heap} {b:Addr} {o:Obj} {n:String} (ho:h.get? b=some o) (hc:o.cls=.type n) (hn:n ≠ "code"):NC h b:=fun o' e=>by rw [ho] at e;cases e;exact .inl ⟨by rw [hc];exact fun q=>by cases q;exact hn rfl,by rw [hc];simp⟩
theorem NC.ij {h:Heap} {b:Addr} {m:Str→Option Value} (x:h.Ns b m):NC h b:=fun o' e=>by
 obtain ⟨o,es,ep,ho,hd,_⟩:=x
 rw [ho] at e;cases e
 exact .inr fun ps q=>by rw [hd] at q;cases q
def AS (o:Obj):Prop:=o.cls=.none∧∃ ps,o.data=.fields ps
structure Ext (C:Cfg) (Pn:AP) (h h':Heap):Prop where
 base:Base C h'
 keep:∀ b o,h.get? b=some o→¬Pn b→Kc o→h'.get? b=some o
 data:∀ b o,h.get? b=some o→¬Pn b→∃ o',h'.get? b=some o'∧o'.cls=o.cls∧(AS o∨o'.data=o.data)
 tab:∀ X,dm C X h→dm C (fun b=>X b∧¬Pn b∧∃ o,h.get? b=some o) h'
section
variable {C:Cfg} {Pn:AP} {h h' h'':Heap}
theorem Ext.of_keeps (hb:Base C h) (k:∀ b o,h.get? b=some o→h'.get? b=some o):Ext C Pn h h':=
 ⟨fun b o e=>k b o (hb b o e),fun b o e _ _=>k b o e,fun b o e _=>⟨o,k b o e,rfl,.inr rfl⟩,fun X x=>x.keeps k fun b q=>.inl q.1⟩
theorem Ext.refl (hb:Base C h):Ext C Pn h h:=.of_keeps hb (fun _ _ e=>e)
theorem Ext.trans (a:Ext C Pn h h') (b:Ext C Pn h' h''):Ext C Pn h h'':=by
 refine ⟨b.base,fun x o e hp hc=>b.keep x o (a.keep x o e hp hc) hp hc,fun x o e hp=>?_,fun X x=>(b.tab _ (a.tab X x)).mono fun c q _=>⟨q,q.2.1,let ⟨o,e⟩:=q.2.2;let ⟨o',e',_⟩:=a.data c o e q.2.1;⟨o',e'⟩⟩⟩
 obtain ⟨o',e',c1,d1⟩:=a.data x o e hp
 obtain ⟨o'',e'',c2,d2⟩:=b.data x o' e' hp
 refine ⟨o'',e'',c2.trans c1,?_⟩
 rcases d1 with d1 | d1
 ·exact .inl d1
 ·rcases d2 with ⟨q,ps,r⟩ | d2
  ·exact .inl ⟨c1.symm.trans q,ps,d1.symm.trans r⟩
  ·exact .inr (d2.trans d1)
theorem Ext.push (hb:Base C h) (o:Obj):Ext C Pn h (h.push o):=.of_keeps hb (fun _ _ e=>Heap.get?_push_of_some o e)
end
structure Nx (C:Cfg) (Pn:AP) (s s':Shared):Prop where
 ext:Ext C Pn s.heap s'.heap
 gens:s'.gens=s.gens
 os:s'.os=s.os
theorem Nx.trans {C:Cfg} {Pn:AP} {s s' s'':Shared} (a:Nx C Pn s s') (b:Nx C Pn s' s''):Nx C Pn s s'':=⟨a.ext.trans b.ext,b.gens.trans a.gens,b.os.trans a.os⟩
theorem Nx.toks {C:Cfg} {Pn:AP} {s:Shared} (hb:Base C s.heap) (t:Tok):Nx C Pn s { s with toks:=t }:=⟨.refl hb,rfl,rfl⟩
theorem Nx.refl {C:Cfg} {Pn:AP} {s:Shared} (hb:Base C s.heap):Nx C Pn s s:=⟨.refl hb,rfl,rfl⟩
def OwnR (C:Cfg) (X:AP) (h:Heap):V→Addr→Prop
 | .lst l,a=>∃ vs,LstAt h a vs∧RepVs C X h l vs
 | .aQ ks xs,a=>∃ es,dE h a es∧RepVs C X h ks (es.map (·.key))∧RepVs C X h xs (es.map (·.val))∧es.map (·.hash)=hashVs C.w ks∧gy ks
 | _,_=>False
def bx (C:Cfg) (X Pn:AP) (h:Heap) (v:V) (x:Value):Prop:=RepV C X h v x∨∃ a,x=.ref a∧¬Pn a∧OwnR C X h v a
def gE (b:Bool) (C:Cfg) (X Pn:AP) (h:Heap) (v:V) (x:Value):Prop:=match b with
 | true=>bx C X Pn h v x
 | false=>RepV C X h v x
theorem gE.b {b:Bool} {C:Cfg} {X Pn:AP} {h:Heap} {v:V} {x:Value} (r:gE b C X Pn h v x):bx C X Pn h v x:=by
 cases b with
 | true=>exact r
 | false=>exact .inl r
theorem gE.of {b:Bool} {C:Cfg} {X Pn:AP} {h:Heap} {v:V} {x:Value} (r:RepV C X h v x):gE b C X Pn h v x:=by
 cases b with
 | true=>exact .inl r
 | false=>exact r
structure aY (C:Cfg) (X Pn:AP) (h:Heap) (p:List V):Prop where
 one:∀ P P',Pn P→Pn P'→P=P'
 at_:∀ P,Pn P→∃ vs,LstAt h P vs∧RepVs C X h p vs
def Reads (env:Env) (h:Heap) (x:Str) (val:Value):Prop:=match env.kindOf x with
 | some .local=>∃ m,h.Ns env.locals m∧m x=some val
 | some .cell | some .free=>∃ c,env.cells.lookup x=some c∧cA h c val
 | _=>False
def cE (C:Cfg) (X Pn:AP) (h:Heap):Slot→Value→Prop
 | .undef,_=>True
 | .val v,x=>RepV C X h v x
 | .own v,x=>∃ a,x=.ref a∧X a∧¬Pn a∧OwnR C X h v a
 | .au,x=>∃ P,x=.ref P∧Pn P
structure Vw (C:Cfg) (cx:Cx) (X Pn:AP) (env:Env) (ρ:Fr) (p:List V) (h:Heap):Prop where
 kind:env.scope.kind=.function
 globals:env.globals=mainGlobals
 builtins:env.builtins=builtinsNs
 kinds:∀ x k,cx.sc.lookup x=some k→(k≠.free→env.kindOf x=some k)∧(k=.free→env.kindOf x=some .free∨env.kindOf x=some .cell)
 cells:∀ x,env.kindOf x=some .cell∨env.kindOf x=some .free→∃ c,env.cells.lookup x=some c
 vars:∀ x j,cx.vars.lookup x=some j→ay j ρ≠.undef→∃ val,Reads env h x val∧cE C X Pn h (ay j ρ) val∧val≠.ref env.locals
 own:∀ x j v,cx.vars.lookup x=some j→ay j ρ=.own v→cx.muts.contains x=true
 caps:∀ x c,cx.caps.contains x=true→env.cells.lookup x=some c→¬X c
 code:cx.caps=[]∨env.code=.ref C.lc∧env.qual++("<lambda>" : Str)=C.lqual
 tab:dm C X h
 au:aY C X Pn h p
 pnX:∀ b,Pn b→X b
 base:Base C h
 lt:∀ b,X b→∃ o,h.get? b=some o
 fresh:∀ b,X b→C.h₀.get? b=none
def Frames (C:Cfg) (h:Heap):List Env→Prop
 | []=>True
 | env::r=>env.scope.kind≠.module∧(∃ L o es ep,env.frame=some L∧C.h₀.get? L=none∧h.get? L=some o∧o.cls=aL∧o.data=.dict es ep)∧Frames C h r
def aN (C:Cfg) (A:Around) (h:Heap):Prop:=∃ l,A.frames=some l∧Frames C h l
structure cR (A:Around) (n:Nat):Prop where
 handled:A.handled=none
 depth:A.depth + n + 3 < recursionLimit
 units:A.units + 4 * n + 500 < cLine
def ExcAt (C:Cfg) (hs:Heap) (fresh:Bool) (L:Option Addr) (k:List Nat) (h:Heap) (e:Value):Prop:=∃ a oe d m x t vs,e=.ref a∧h.get? a=some oe∧oe.cls=C.cls∧oe.dict=some d∧h.Ns d m∧m "kind" = some (.str x t)∧x.cps.toList=k∧
 (hs.get? a=none∧hs.get? d=none)∧oe.data=.fields vs∧((fresh=true∧vs[1]?=some .none)∨∃ T oT ts,vs[1]?=some (.ref T)∧hs.get? T=none∧T≠a∧h.get? T=some oT∧oT.cls=.type "traceback" ∧ oT.data=.fields ts∧(ts[3]?=some .none∨∃ l,L=some l∧ts[3]?=some (rawInt l)))
def fQ (C:Cfg) (hs:Heap) (k:List Nat) (h:Heap) (e:Value):Prop:=ExcAt C hs false none k h e
theorem ExcAt.back {C:Cfg} {hs hs':Heap} {fr:Bool} {L:Option Addr} {k:List Nat} {h:Heap} {e:Value} (x:ExcAt C hs' fr L k h e) (q:∀ b o,hs.get? b=some o→∃ o',hs'.get? b=some o'):ExcAt C hs fr L k h e:=by
 have n:∀ {b},hs'.get? b=none→hs.get? b=none:=fun {b} e=>by
  cases r:hs.get? b with
  | none=>rfl
  | some o=>obtain ⟨o',r'⟩:=q b o r;rw [e] at r';cases r'
 obtain ⟨a,oe,d,m,x,t,vs,e1,e2,e3,e4,e5,e6,e7,e8,e9,e10⟩:=x
 refine ⟨a,oe,d,m,x,t,vs,e1,e2,e3,e4,e5,e6,e7,⟨n e8.1,n e8.2⟩,e9,e10.imp id ?_⟩
 rintro ⟨T,oT,ts,f1,f2,f3⟩
 exact ⟨T,oT,ts,f1,n f2,f3⟩
section
variable {C:Cfg} {X Pn:AP} {h h':Heap}
theorem dQ {P:Addr} {o:Obj} {n:String} {p:List V} (R:aY C X Pn h p) (ho:h.get? P=some o) (hc:o.cls=.type n) (hn:n ≠ "list"):¬Pn P:=fun hp=>by
 obtain ⟨vs,⟨_,n',ho'⟩,_⟩:=R.at_ P hp
 rw [ho] at ho';cases ho'
 cases hc;exact hn rfl
theorem aY.nc {p:List V} {P:Addr} {Y:AP} (R:aY C X Pn h p) (hP:Pn P) (y:fj C Y h P):False:=by
 obtain ⟨vs,⟨_,n,e⟩,_⟩:=R.at_ P hP
 obtain ⟨_,o,_,_,h1,h2,_⟩:=y
 rw [e] at h1;cases h1;simp [cy] at h2
theorem Ext.tr (e:Ext C Pn h h') (hp:∀ b,Pn b→X b):Tr X h X h':=fun a o ho hc hx=>⟨e.keep a o ho (fun q=>hx (hp a q)) hc.ne,hx⟩
theorem RepV.ext (e:Ext C Pn h h') (hp:∀ b,Pn b→X b) {v:V} {x:Value} (r:RepV C X h v x):RepV C X h' v x:=
 RepV.tr (e.tr hp) r
theorem RepVs.ext (e:Ext C Pn h h') (hp:∀ b,Pn b→X b) {v:List V} {x:List Value} (r:RepVs C X h v x):RepVs C X h' v x:=
 RepVs.tr (e.tr hp) r
theorem LstAt.ext {a:Addr} {vs:List Value} (e:Ext C Pn h h') (hp:¬Pn a) (x:LstAt h a vs):LstAt h' a vs:=
 let ⟨q,n,ho⟩:=x;⟨q,n,e.keep a _ ho hp (aW rfl (by decide))⟩
theorem dE.ext {a:Addr} {es:List DictEntry} (e:Ext C Pn h h') (hp:¬Pn a) (x:dE h a es):dE h' a es:=
 let ⟨q,n,ho⟩:=x;⟨q,n,e.keep a _ ho hp (aW rfl (by decide))⟩
theorem OwnR.ext (e:Ext C Pn h h') (hp:∀ b,Pn b→X b) {v:V} {a:Addr} (ha:¬Pn a) (r:OwnR C X h v a):OwnR C X h' v a:=by
 cases v <;> simp only [OwnR] at r ⊢
 case lst l=>obtain ⟨vs,x,y⟩:=r;exact ⟨vs,x.ext e ha,y.ext e hp⟩
 case aQ ks xs=>obtain ⟨es,x,y,z,q⟩:=r;exact ⟨es,x.ext e ha,y.ext e hp,z.ext e hp,q⟩
theorem bx.ext (e:Ext C Pn h h') (hp:∀ b,Pn b→X b) {v:V} {x:Value} (r:bx C X Pn h v x):bx C X Pn h' v x:=
 r.elim (fun a=>.inl (RepV.ext e hp a)) fun ⟨a,q,hn,ho⟩=>.inr ⟨a,q,hn,ho.ext e hp hn⟩
theorem mE {a:Addr} {m:Str→Option Value} (e:Ext C Pn h h') (hp:¬Pn a) (x:h.Ns a m):h'.Ns a m:=by
 obtain ⟨o,es,ep,ho,hd,hk,hm⟩:=x
 obtain ⟨o',ho',_,hd'⟩:=e.data a o ho hp
 rcases hd' with ⟨_,ps,q⟩ | hd'
 ·rw [hd] at q;cases q
 ·exact ⟨o',es,ep,ho',hd'.trans hd,hk,hm⟩
theorem jJ {c:Addr} {v:Value} (e:Ext C Pn h h') (hp:¬Pn c) (x:cA h c v):cA h' c v:=
 let ⟨o,ho,hc,r⟩:=x;⟨o,e.keep c o ho hp (aW hc (by decide)),hc,r⟩
theorem gJ {p:List V} {a:Addr} {m:Str→Option Value} (R:aY C X Pn h p) (x:h.Ns a m):¬Pn a:=fun hp=>by
 obtain ⟨o,es,ep,ho,hd,_⟩:=x
 obtain ⟨vs,⟨_,n,ho'⟩,_⟩:=R.at_ a hp
 rw [ho] at ho';cases ho'
 cases hd
theorem Reads.ext {env:Env} {x:Str} {val:Value} {p:List V} (e:Ext C Pn h h') (R:aY C X Pn h p) (r:Reads env h x val):Reads env h' x val:=by
 unfold Reads at r ⊢
 split at r
 ·obtain ⟨m,hn,hm⟩:=r;exact ⟨m,mE e (gJ R hn) hn,hm⟩
 ·obtain ⟨c,hc,hv⟩:=r
  refine ⟨c,hc,jJ e ?_ hv⟩
  obtain ⟨o,ho,hcl,_⟩:=hv
  exact dQ R ho hcl (by decide)
 ·obtain ⟨c,hc,hv⟩:=r
  refine ⟨c,hc,jJ e ?_ hv⟩
  obtain ⟨o,ho,hcl,_⟩:=hv
  exact dQ R ho hcl (by decide)
 ·exact r.elim
theorem cE.ext (e:Ext C Pn h h') (hp:∀ b,Pn b→X b) {sl:Slot} {val:Value} (r:cE C X Pn h sl val):cE C X Pn h' sl val:=by
 cases sl with
 | undef=>trivial
 | val v=>exact RepV.ext e hp r
 | own v=>obtain ⟨a,q,hx,hn,ho⟩:=r;exact ⟨a,q,hx,hn,ho.ext e hp hn⟩
 | au=>exact r
theorem Ext.lt {p':List V} (e:Ext C Pn h h') (R:aY C X Pn h' p') (b:Addr) (hb:∃ o,h.get? b=some o):∃ o,h'.get? b=some o:=by
 obtain ⟨o,ho⟩:=hb
 by_cases hp:Pn b
 ·obtain ⟨vs,⟨_,n,ho'⟩,_⟩:=R.at_ b hp;exact ⟨_,ho'⟩
 ·obtain ⟨o',ho',_⟩:=e.data b o ho hp;exact ⟨o',ho'⟩
theorem bS (h:Heap):h.get? h.objs.size=none:=by
 cases e:h.get? h.objs.size with
 | none=>rfl
 | some o=>exact absurd (Heap.lt_size e) (Nat.lt_irrefl _)
theorem Vw.glob {cx:Cx} {env:Env} {ρ:Fr} {p:List V} (v:Vw C cx X Pn env ρ p h) (x:Str) (hx:cx.du x=true):env.kindOf x=some .globalImplicit:=
 (v.kinds x .globalImplicit (by simpa [Cx.du] using hx)).1 (by simp)
theorem Vw.next {cx:Cx} {env:Env} {ρ:Fr} {p p':List V} (v:Vw C cx X Pn env ρ p h) (e:Ext C Pn h h') (R:aY C X Pn h' p'):Vw C cx X Pn env ρ p' h' where
 kind:=v.kind
 globals:=v.globals
 builtins:=v.builtins
 kinds:=v.kinds
 cells:=v.cells
 vars x j hx hu:=by
  obtain ⟨val,a,b,c⟩:=v.vars x j hx hu
  exact ⟨val,a.ext e v.au,b.ext e v.pnX,c⟩
 own:=v.own
 caps:=v.caps
 code:=v.code
 tab:=(e.tab X v.tab).mono fun c q y=>⟨q,fun hp=>R.nc hp y,v.lt c q⟩
 au:=R
 pnX:=v.pnX
 base:=e.base
 lt b hb:=Ext.lt e R b (v.lt b hb)
 fresh:=v.fresh
theorem Frames.ext' (e:Ext C Pn h h') (hF:∀ b o,h.get? b=some o→o.cls=aL→¬Pn b):∀ {l:List Env},Frames C h l→Frames C h' l
 | [],_=>trivial
 | env::r,⟨hk,⟨L,o,es,ep,hf,hn,ho,hc,hd⟩,hr⟩=>by
  obtain ⟨o',ho',hc',hd'⟩:=e.data L o ho (hF L o ho hc)
  have hd':o'.data=o.data:=hd'.elim (fun ⟨q,_⟩=>by rw [hc] at q;cases q) id
  exact ⟨hk,⟨L,o',es,ep,hf,hn,ho',hc'.trans hc,hd'.trans hd⟩,Frames.ext' e hF hr⟩
theorem aN.ext' {A:Around} (e:Ext C Pn h h') (hF:∀ b o,h.get? b=some o→o.cls=aL→¬Pn b) (k:aN C A h):aN C A h':=let ⟨l,a,b⟩:=k;⟨l,a,b.ext' e hF⟩
theorem aY.frame {p:List V} (R:aY C X Pn h p) (b:Addr) (o:Obj) (ho:h.get? b=some o) (hc:o.cls=aL):¬Pn b:=dQ R ho hc (by decide)
theorem aN.ext {A:Around} {p:List V} (e:Ext C Pn h h') (R:aY C X Pn h p) (k:aN C A h):aN C A h':=k.ext' e R.frame
end
def uU (C:Cfg) (X Pn:AP) (h:Heap):Slot→Value→Prop
 | .val v,x=>RepV C X h v x
 | .au,x=>∃ P,x=.ref P∧Pn P
 | _,_=>False
def dF (C:Cfg) (X Pn:AP) (h:Heap):List Slot→List Value→Prop
 | [],vs=>vs=[]
 | a::r,vs=>∃ v t,vs=v::t∧uU C X Pn h a v∧dF C X Pn h r t
def Ends (C:Cfg) (b:Bool) (X Pn:AP) (r:Res) (Q:Value→Shared→Prop) (E:Value→Shared→Prop) (s:Shared):Prop:=
 r≠.stuck∧(∀ v p,r=.ok v p→∀ val s',Nx C Pn s s'→aY C X Pn s'.heap p→gE b C X Pn s'.heap v val→Q val s')∧
 (∀ k p,r=.exc k p→∀ e s',Nx C Pn s s'→aY C X Pn s'.heap p→fQ C s.heap k s'.heap e→E e s')
structure aZ (C:Cfg) (n:Nat) (X Pn:AP) (p:List V) (A:Around) (s:Shared):Prop where
 room:cR A n
 stk:aN C A s.heap
 au:aY C X Pn s.heap p
 pnX:∀ b,Pn b→X b
 base:Base C s.heap
 lt:∀ b,X b→∃ o,s.heap.get? b=some o
 fresh:∀ b,X b→C.h₀.get? b=none
 tab:dm C X s.heap
structure cL (C:Cfg) (n:Nat) (call:Call):Prop where
 def_:∀ (f:Nat) (args:List Slot) (p:List V) (X Pn:AP) (s:Shared) (A:Around) (vals:List Value) (Q E:Value→Shared→Prop),
  C.isDef f=true→aZ C n X Pn p A s→dF C X Pn s.heap args vals→Ends C false X Pn (call f args p) Q E s→
  wpAny (model C.prog C.w) A (PySem.call (.ref (C.fa f)) vals) Q E s
 clo:∀ (f:Nat) (caps:List V) (a:Addr) (v:V) (p:List V) (X Pn:AP) (s:Shared) (A:Around) (val:Value) (Q E:Value→Shared→Prop),
  aZ C n X Pn p A s→RepV C X s.heap (.clo f caps) (.ref a)→RepV C X s.heap v val→Ends C false X Pn (call f (.val v::caps.map .val) p) Q E s→
  wpAny (model C.prog C.w) A (PySem.call (.ref a) [val]) Q E s
def az (C:Cfg) (cx:Cx) (b:Bool) (e:Expr) (d:aq):Prop:=
 ∀ (n:Nat) (call:Call),cL C n call→∀ (X Pn:AP) (env:Env) (ρ:Fr) (p:List V) (s:Shared) (A:Around) (Q E:Value→Shared→Prop),
  Vw C cx X Pn env ρ p s.heap→aN C A s.heap→cR A n→Ends C b X Pn (d call ρ p) Q E s→wpAny (model C.prog C.w) A (eval e env) Q E s
structure Kp (s s':Shared):Prop where
 keep:∀ b o,s.heap.get? b=some o→s'.heap.get? b=some o
 gens:s'.gens=s.gens
 os:s'.os=s.os
section
variable {C:Cfg} {X Pn:AP} {s s' s'':Shared} {p:List V}
theorem Kp.refl:Kp s s:=⟨fun _ _ e=>e,rfl,rfl⟩
theorem Kp.trans (a:Kp s s') (b:Kp s' s''):Kp s s'':=⟨fun x o e=>b.keep x o (a.keep x o e),b.gens.trans a.gens,b.os.trans a.os⟩
theorem Kp.toks (t:Tok):Kp s { s with toks:=t }:=⟨fun _ _ e=>e,rfl,rfl⟩
theorem Kp.push (o:Obj):Kp s { s with heap:=s.heap.push o }:=⟨fun _ _ e=>Heap.get?_push_of_some o e,rfl,rfl⟩
theorem Kp.nx (k:Kp s s') (hb:Base C s.heap):Nx C Pn s s':=⟨.of_keeps hb k.keep,k.gens,k.os⟩
theorem Kp.tr (k:Kp s s'):Tr X s.heap X s'.heap:=fun a o ho _ hx=>⟨k.keep a o ho,hx⟩
theorem Kp.list {a:Addr} {vs:List Value} (k:Kp s s') (x:LstAt s.heap a vs):LstAt s'.heap a vs:=let ⟨q,n,ho⟩:=x;⟨q,n,k.keep _ _ ho⟩
theorem Kp.au (k:Kp s s') (R:aY C X Pn s.heap p):aY C X Pn s'.heap p:=
 ⟨R.one,fun P hP=>let ⟨vs,a,b⟩:=R.at_ P hP;⟨vs,k.list a,b.tr k.tr⟩⟩
end
def fR (C:Cfg) (f:V→Option V) (op:Value→Sem Value):Prop:=
 ∀ (n:Nat) (X Pn:AP) (p:List V) (s:Shared) (A:Around) (Q E:Value→Shared→Prop) (a v:V) (va:Value),aZ C n X Pn p A s→f a=some v→bx C X Pn s.heap a va→
  (∀ val s',Kp s s'→RepV C X s'.heap v val→Q val s')→wpAny (model C.prog C.w) A (op va) Q E s
def d9 (C:Cfg) (f:V→V→Option V) (op:Value→Value→Sem Value):Prop:=
 ∀ (n:Nat) (X Pn:AP) (p:List V) (s:Shared) (A:Around) (Q E:Value→Shared→Prop) (a b v:V) (va vb:Value),aZ C n X Pn p A s→f a b=some v→bx C X Pn s.heap a va→bx C X Pn s.heap b vb→
  (∀ val s',Kp s s'→RepV C X s'.heap v val→Q val s')→wpAny (model C.prog C.w) A (op va vb) Q E s
section
variable {C:Cfg} {cx:Cx} {b:Bool} {X Pn:AP} {Q E:Value→Shared→Prop} {s s':Shared} {A:Around} {n:Nat} {ρ:Fr} {p p':List V} {env:Env}
theorem Vw.pre (v:Vw C cx X Pn env ρ p s.heap) (k:aN C A s.heap) (r:cR A n):aZ C n X Pn p A s:=⟨r,k,v.au,v.pnX,v.base,v.lt,v.fresh,v.tab⟩
theorem Ends.ok {r:Res} {v:V} (N:Ends C b X Pn r Q E s) (e:r=.ok v p') {val:Value} (hn:Nx C Pn s s') (hp:aY C X Pn s'.heap p') (hv:RepV C X s'.heap v val):Q val s':=
 N.2.1 v p' e val s' hn hp (.of hv)
theorem Ends.bind {r:Res} {K:V→List V→Res} {km:Bool} {Q₁:Value→Shared→Prop} (N:Ends C b X Pn (@Res.rec (fun _=>Res) Res.stuck K Res.exc r) Q E s)
  (h:∀ v p₁ val s₁,r=.ok v p₁→Nx C Pn s s₁→aY C X Pn s₁.heap p₁→gE km C X Pn s₁.heap v val→Ends C b X Pn (K v p₁) Q E s₁→Q₁ val s₁):Ends C km X Pn r Q₁ E s:=by
 cases hr:r with
 | stuck=>rw [hr] at N;exact absurd rfl N.1
 | exc k q=>
  rw [hr] at N
  exact ⟨by simp,fun _ _ e=>(nomatch e),fun k' p' e e' s' hn hp hx=>N.2.2 k' p' (by cases e;rfl) e' s' hn hp hx⟩
 | ok v q=>
  rw [hr] at N
  refine ⟨by simp,fun v' p₁ e val s₁ hn hp hv=>?_,fun _ _ e=>(nomatch e)⟩
  cases e
  exact h v q val s₁ hr hn hp hv ⟨N.1,fun v' p' e val' s' hn'=>N.2.1 v' p' e val' s' (hn.trans hn'),fun k p' e e' s' hn' hp' hx=>N.2.2 k p' e e' s' (hn.trans hn') hp' (hx.back fun b o eb=>hn.ext.lt hp b ⟨o,eb⟩)⟩
theorem az.c1 {e x:Expr} {d:aq} {f:V→Option V} {op:Value→Sem Value} (hx:az C cx true x d) (ho:fR C f op)
  (he:∀ (env:Env) (s:Shared) (A:Around) (Q E:Value→Shared→Prop),wpAny (model C.prog C.w) A (eval x env) (fun a s₁=>wpAny (model C.prog C.w) A (op a) Q E s₁) E s→wpAny (model C.prog C.w) A (eval e env) Q E s):
  az C cx b e (c1 f d):=by
 intro n call hc X Pn env ρ p s A Q E hv hk hr N
 refine he env s A Q E (hx n call hc X Pn env ρ p s A _ E hv hk hr ?_)
 refine Ends.bind (b:=b) N fun v p₁ val s₁ _ hn hp hval N1=>?_
 have v1:=hv.next hn.ext hp
 cases hf:f v with
 | none=>rw [hf] at N1;exact absurd rfl N1.1
 | some r=>
  rw [hf] at N1
  exact ho n X Pn p₁ s₁ A Q E v r val (v1.pre (hk.ext hn.ext hv.au) hr) hf hval fun val' s' hkp hrep=>N1.ok rfl (hkp.nx v1.base) (hkp.au hp) hrep
theorem az.c2 {e x y:Expr} {d d':aq} {f:V→V→Option V} {op:Value→Value→Sem Value} (hx:az C cx true x d) (hy:az C cx true y d') (ho:d9 C f op)
  (he:∀ (env:Env) (s:Shared) (A:Around) (Q E:Value→Shared→Prop),
   wpAny (model C.prog C.w) A (eval x env) (fun a s₁=>wpAny (model C.prog C.w) A (eval y env) (fun b s₂=>wpAny (model C.prog C.w) A (op a b) Q E s₂) E s₁) E s→wpAny (model C.prog C.w) A (eval e env) Q E s):
  az C cx b e (c2 f d d'):=by
 intro n call hc X Pn env ρ p s A Q E hv hk hr N
 refine he env s A Q E (hx n call hc X Pn env ρ p s A _ E hv hk hr ?_)
 refine Ends.bind (b:=b) N fun v p₁ val s₁ _ hn hp hval N1=>?_
 have v1:=hv.next hn.ext hp
 have k₁:=hk.ext hn.ext hv.au
 refine hy n call hc X Pn env ρ p₁ s₁ A _ E v1 k₁ hr ?_
 refine Ends.bind (b:=b) N1 fun v' aO val' s₂ _ hn' hp' hval' N2=>?_
 have v2:=v1.next hn'.ext hp'
 cases hf:f v v' with
 | none=>rw [hf] at N2;exact absurd rfl N2.1
 | some r=>
  rw [hf] at N2
  exact ho n X Pn aO s₂ A Q E v v' r val val' (v2.pre (k₁.ext hn'.ext hp) hr) hf (hval.b.ext hn'.ext hv.pnX) hval'.b fun val'' s' hkp hrep=>N2.ok rfl (hkp.nx v2.base) (hkp.au hp') hrep
theorem az.constInt {i:Int} {k:Nat} {pos:Pos}:az C cx b (.Constant (.int i) k pos) (cK (.int i)):=by
 intro n call hc X Pn env ρ p s A Q E hv hk hr N
 exact wpAny_Constant_int (N.ok rfl (.toks hv.base _) (Kp.au (.toks _) hv.au) (by simp [RepV]))
theorem az.tc {k:Nat} {pos:Pos}:az C cx b (.Constant .none k pos) (cK .none):=by
 intro n call hc X Pn env ρ p s A Q E hv hk hr N
 exact wpAny_Constant_none (N.ok rfl (.refl hv.base) hv.au (by simp [RepV]))
theorem az.td {i:Bool} {k:Nat} {pos:Pos}:az C cx b (.Constant (.bool i) k pos) (cK (.bool i)):=by
 intro n call hc X Pn env ρ p s A Q E hv hk hr N
 exact wpAny_Constant_bool (N.ok rfl (.refl hv.base) hv.au (by simp [RepV]))
theorem az.pI {x:Str} {k:Nat} {pos:Pos}:az C cx b (.Constant (.str x) k pos) (cK (.str x.cps.toList)):=by
 intro n call hc X Pn env ρ p s A Q E hv hk hr N
 exact wpAny_Constant_str (N.ok rfl (.toks hv.base _) (Kp.au (.toks _) hv.au) (by simp [RepV]))
theorem az.const {c:Const} {v:V} {k:Nat} {pos:Pos} (e:constV c=some v):az C cx b (.Constant c k pos) (cK v):=by
 cases c <;> simp only [constV] at e <;> cases e
 ·exact .tc
 ·exact .td
 ·exact .constInt
 ·exact .pI
theorem bH {x:Str} {val:Value} (hk:env.scope.kind=.function) (hx:aM x=true) (h:Reads env s.heap x val) (q:Q val s):wpAny (model C.prog C.w) A (loadName env x) Q E s:=by
 simp only [aM,Bool.and_eq_true,bne_iff_ne,ne_eq] at hx
 unfold Reads at h
 split at h
 ·rename_i hl
  obtain ⟨m,hn,hm⟩:=h
  exact wpAny_loadName_local hk hl hn hm q
 ·rename_i hl
  obtain ⟨c,hcl,o,ho,_,hd⟩:=h
  unfold loadName
  simp only [Env.blockKind,hk,hl,ScopeKind.isAnnotationScope,Bool.false_and,Bool.false_eq_true,if_false,cellOf,hcl]
  refine wpAny_bind (wpAny_pure (wpAny_bind (m:=cellGet c) ?_))
  unfold cellGet
  refine wpAny_bind (wpAny_load ho ?_)
  rw [hd]
  exact wpAny_pure (wpAny_pure q)
 ·rename_i hl
  obtain ⟨c,hcl,o,ho,_,hd⟩:=h
  unfold loadName
  have hcd:(x==("__classdict__" : Str))=false:=by simpa using hx.2
  simp only [Env.blockKind,hk,hl,ScopeKind.isAnnotationScope,Bool.false_and,Bool.false_eq_true,if_false,cellOf,hcl,hcd]
  refine wpAny_bind (wpAny_pure (wpAny_bind (m:=cellGet c) ?_))
  unfold cellGet
  refine wpAny_bind (wpAny_load ho ?_)
  rw [hd]
  exact wpAny_pure (wpAny_pure q)
 ·exact h.elim
theorem bW {x:Str} (hx:aM x=true):(x==("__debug__" : Str))=false:=by
 simp only [aM,Bool.and_eq_true,bne_iff_ne,ne_eq] at hx
 simpa using hx.1
theorem az.var {x:Str} {pos:Pos} {j:Nat} (hx:aM x=true) (hj:cx.vars.lookup x=some j):az C cx b (.Name x pos) (ao (ay j)):=by
 intro n call hc X Pn env ρ p s A Q E hv hk hr N
 refine wpAny_Name ?_ (bW hx)
 unfold ao at N
 have hV:=hv.vars x j hj
 cases hg:ay j ρ with
 | undef=>rw [hg] at N;exact absurd rfl N.1
 | own v=>rw [hg] at N;exact absurd rfl N.1
 | au=>rw [hg] at N;exact absurd rfl N.1
 | val v=>
  rw [hg] at N hV
  obtain ⟨val,hR,hS,_⟩:=hV (by simp)
  exact bH hv.kind hx hR (N.ok rfl (.refl hv.base) hv.au hS)
theorem az.bor {x:Str} {pos:Pos} {j:Nat} (hx:aM x=true) (hj:cx.vars.lookup x=some j):az C cx true (.Name x pos) (aa (ay j)):=by
 intro n call hc X Pn env ρ p s A Q E hv hk hr N
 refine wpAny_Name ?_ (bW hx)
 unfold aa at N
 have hV:=hv.vars x j hj
 cases hg:ay j ρ with
 | undef=>rw [hg] at N;exact absurd rfl N.1
 | au=>rw [hg] at N;exact absurd rfl N.1
 | val v=>
  rw [hg] at N hV
  obtain ⟨val,hR,hS,_⟩:=hV (by simp)
  exact bH hv.kind hx hR (N.ok rfl (.refl hv.base) hv.au hS)
 | own v=>
  rw [hg] at N hV
  obtain ⟨val,hR,⟨a,rfl,_,hn,hO⟩,_⟩:=hV (by simp)
  exact bH hv.kind hx hR (N.2.1 v p rfl _ s (.refl hv.base) hv.au (.inr ⟨a,rfl,hn,hO⟩))
theorem bx.int {i:Int} {x:Value} {h:Heap} (r:bx C X Pn h (.int i) x):∃ t,x=.int i t:=by
 rcases r with r | ⟨a,_,_,r⟩
 ·simpa [RepV] using r
 ·simp [OwnR] at r
theorem bx.bool {i:Bool} {x:Value} {h:Heap} (r:bx C X Pn h (.bool i) x):x=.bool i:=by
 rcases r with r | ⟨a,_,_,r⟩
 ·simpa [RepV] using r
 ·simp [OwnR] at r
theorem bx.none {x:Value} {h:Heap} (r:bx C X Pn h .none x):x=.none:=by
 rcases r with r | ⟨a,_,_,r⟩
 ·simpa [RepV] using r
 ·simp [OwnR] at r
theorem bx.str {i:List Nat} {x:Value} {h:Heap} (r:bx C X Pn h (.str i) x):∃ y t,x=.str y t∧y.cps.toList=i:=by
 rcases r with r | ⟨a,_,_,r⟩
 ·simpa [RepV] using r
 ·simp [OwnR] at r
theorem bx.lst {l:List V} {x:Value} {h:Heap} (r:bx C X Pn h (.lst l) x):∃ a vs,x=.ref a∧LstAt h a vs∧RepVs C X h l vs:=by
 rcases r with r | ⟨a,e,_,r⟩
 ·simp only [RepV] at r;obtain ⟨a,vs,e,_,q,w⟩:=r;exact ⟨a,vs,e,q,w⟩
 ·simp only [OwnR] at r;obtain ⟨vs,q,w⟩:=r;exact ⟨a,vs,e,q,w⟩
theorem bx.qY {l:List V} {x:Value} {h:Heap} (r:bx C X Pn h (.tup l) x):RepV C X h (.tup l) x:=by
 rcases r with r | ⟨a,e,_,r⟩
 ·exact r
 ·simp [OwnR] at r
theorem bx.tup {l:List V} {x:Value} {h:Heap} (r:bx C X Pn h (.tup l) x):∃ a vs,x=.ref a∧TupAt h a vs∧RepVs C X h l vs:=by
 have r:=r.qY
 simp only [RepV] at r;obtain ⟨a,vs,e,_,q,w⟩:=r;exact ⟨a,vs,e,q,w⟩
theorem bx.aQ {ks xs:List V} {x:Value} {h:Heap} (r:bx C X Pn h (.aQ ks xs) x):
  ∃ a es,x=.ref a∧dE h a es∧RepVs C X h ks (es.map (·.key))∧RepVs C X h xs (es.map (·.val))∧es.map (·.hash)=hashVs C.w ks∧gy ks:=by
 rcases r with r | ⟨a,e,_,r⟩
 ·simp only [RepV] at r;obtain ⟨a,es,e,_,q⟩:=r;exact ⟨a,es,e,q⟩
 ·simp only [OwnR] at r;obtain ⟨es,q⟩:=r;exact ⟨a,es,e,q⟩
end
section
variable {C:Cfg} {X Pn:AP} {s s':Shared} {A:Around} {n:Nat} {p:List V} {Q E:Value→Shared→Prop}
theorem mf:lid≤3000:=Nat.le_refl _
theorem aT:sizeLine=16777216:=by decide
theorem RepV.newList {l:List V} {vs:List Value} (P:aZ C n X Pn p A s) (r:RepVs C X s.heap l vs) (hz:vs.length≤most):
  RepV C X (s.heap.push { cls:=.type "list",data:=.seq vs.toArray }) (.lst l) (.ref s.heap.objs.size):=by
 simp only [RepV]
 refine ⟨_,vs,rfl,fun hx=>let ⟨_,ho⟩:=P.lt _ hx;Nat.lt_irrefl _ (Heap.lt_size ho),⟨hz,0,Heap.get?_push_size _ rfl⟩,r.tr (Kp.push (s:=s) _).tr⟩
theorem RepV.md {l:List V} {vs:List Value} (P:aZ C n X Pn p A s) (r:RepVs C X s.heap l vs) (hz:vs.length≤most):
  RepV C X (s.heap.push { cls:=.type "tuple",data:=.seq vs.toArray }) (.tup l) (.ref s.heap.objs.size):=by
 simp only [RepV]
 refine ⟨_,vs,rfl,fun hx=>let ⟨_,ho⟩:=P.lt _ hx;Nat.lt_irrefl _ (Heap.lt_size ho),⟨hz,0,Heap.get?_push_size _ rfl⟩,r.tr (Kp.push (s:=s) _).tr⟩
theorem fc {α β:Type} {l:List α} {o:Option β} {v:β} (h:@Bool.rec (fun _=>Option β) none o (short lid l)=some v):short lid l=true∧o=some v:=by
 cases q:short lid l with
 | true=>rw [q] at h;exact ⟨rfl,h⟩
 | false=>rw [q] at h;cases h
theorem cJ {β:Type} {b:Bool} {o:Option β} {v:β} (h:@Bool.rec (fun _=>Option β) none o b=some v):b=true∧o=some v:=by
 cases b with
 | true=>exact ⟨rfl,h⟩
 | false=>cases h
theorem gb {β:Type} {b:Bool} {o o':Option β} {v:β} (h:@Bool.rec (fun _=>Option β) o' o b=some v):(b=true∧o=some v)∨(b=false∧o'=some v):=by
 cases b with
 | true=>exact .inl ⟨rfl,h⟩
 | false=>exact .inr ⟨rfl,h⟩
theorem eQ {i j:Int} (e:i=j) (h:∀ val s',Kp s s'→RepV C X s'.heap (.int i) val→Q val s') (tk:Tok):Q (.int j tk) { s with toks:=s.toks + 1 }:=by
 subst e;exact h _ _ (.toks _) (by simp [RepV])
theorem xP (h0:C.h₀.NoLimit):d9 C ba (binaryOp .Add):=by
 intro n X Pn p s A Q E a b v va vb P hf ha hb h
 cases a <;> cases b <;> simp only [ba] at hf <;> (try cases hf)
 case int.int x y=>
  obtain ⟨t,rfl⟩:=ha.int;obtain ⟨u,rfl⟩:=hb.int
  exact PyProof.Rows.add_int (eQ (gP x y) h _)
 case str.str x y=>
  obtain ⟨hx,hf⟩:=fc hf
  obtain ⟨hy,hf⟩:=fc hf
  cases hf
  obtain ⟨x',t,rfl,rfl⟩:=ha.str;obtain ⟨y',u,rfl,rfl⟩:=hb.str
  refine PyProof.Rows.add_str (fun t' tk=>h _ _ (.toks _) ?_) ?_
  ·simp only [RepV];exact ⟨_,_,rfl,by rw [eJ,Str.cps_append];simp⟩
  ·have:=cu hx;have:=cu hy
   simp only [Array.length_toList] at *
   rw [aT];show x'.cps.size + y'.cps.size≤_
   have:=mf;omega
 case tup.tup x y=>
  obtain ⟨hx,hf⟩:=fc hf
  obtain ⟨hy,hf⟩:=fc hf
  cases hf
  have hzx:=cu hx;have hzy:=cu hy
  have hl:=mf
  rw [eJ] at h
  have hb':=hb.qY;have ha':=ha.qY
  obtain ⟨a,vs,rfl,⟨_,na,ta⟩,ra⟩:=ha.tup
  obtain ⟨b,ws,rfl,⟨_,nb,tb⟩,rb⟩:=hb.tup
  have la:=ra.length;have lb:=rb.length
  by_cases ex:vs=[]
  ·have ex':x=[]:=List.eq_nil_of_length_eq_zero (by rw [← la,ex];rfl)
   subst ex ex'
   exact concat_meets ⟨_,ta,rfl⟩ ⟨_,tb,rfl⟩ noFill_tuple_add seq_tuple_add PySem.F.slot_tuple_add PySem.F.entry_tuple_add (PySem.F.args_tuple_add_2 _ _)
    (tuple_addW0 a b #[] ws.toArray na nb none none #[] #[] rfl) ⟨ta,tb,h _ _ .refl (by simpa using hb')⟩
  ·by_cases ey:ws=[]
   ·have ey':y=[]:=List.eq_nil_of_length_eq_zero (by rw [← lb,ey];rfl)
    subst ey ey'
    exact concat_meets ⟨_,ta,rfl⟩ ⟨_,tb,rfl⟩ noFill_tuple_add seq_tuple_add PySem.F.slot_tuple_add PySem.F.entry_tuple_add (PySem.F.args_tuple_add_2 _ _)
     (tuple_addW1 a b vs.toArray #[] na nb none none #[] #[] (by simpa using ex) rfl) ⟨ta,tb,h _ _ .refl (by simpa using ha')⟩
   ·refine PySem.P.add_tuple ta tb (by simpa using ex) (by simpa using ey) ?_ (by simp only [List.size_toArray];rw [aT];omega)
    have e:vs.toArray++ws.toArray=(vs++ws).toArray:=by simp
    rw [e]
    exact h _ _ (.push _) (RepV.md P (ra.append rb) (by show _≤8000;rw [List.length_append];omega))
 case lst.lst x y=>
  obtain ⟨hx,hf⟩:=fc hf
  obtain ⟨hy,hf⟩:=fc hf
  cases hf
  have hzx:=cu hx;have hzy:=cu hy
  have hl:=mf
  obtain ⟨a,vs,rfl,⟨_,na,ta⟩,ra⟩:=ha.lst
  obtain ⟨b,ws,rfl,⟨_,nb,tb⟩,rb⟩:=hb.lst
  refine PySem.P.add_list ta tb ?_ (by have:=ra.length;have:=rb.length;simp only [List.size_toArray];rw [aT];omega)
  rw [eJ] at h
  have e:vs.toArray++ws.toArray=(vs++ws).toArray:=by simp
  rw [e]
  exact h _ _ (.push _) (RepV.newList P (ra.append rb) (by have:=ra.length;have:=rb.length;show _≤8000;rw [List.length_append];omega))
theorem dH {i j:Bool} (e:i=j) (h:∀ val s',Kp s s'→RepV C X s'.heap (.bool i) val→Q val s'):Q (.bool j) s:=by
 subst e;exact h _ _ .refl (by simp [RepV])
theorem xF:d9 C bj (binaryOp .Sub):=by
 intro n X Pn p s A Q E a b v va vb P hf ha hb h
 cases a <;> cases b <;> simp only [bj] at hf <;> (try cases hf)
 case int.int x y=>
  obtain ⟨t,rfl⟩:=ha.int;obtain ⟨u,rfl⟩:=hb.int
  exact PyProof.Rows.sub_int (eQ (iT x y) h _)
 case bool.bool x y=>
  have:=ha.bool;have:=hb.bool;subst va vb
  exact PyProof.Rows.sub_bool (eQ (by cases x <;> cases y <;> rfl) h _)
theorem xM (h0:C.h₀.NoLimit):d9 C eC (binaryOp .Mod):=by
 intro n X Pn p s A Q E a b v va vb P hf ha hb h
 cases a <;> cases b <;> simp only [eC] at hf <;> (try cases hf)
 case int.int x y=>
  obtain ⟨t,rfl⟩:=ha.int;obtain ⟨u,rfl⟩:=hb.int
  rcases gb hf with ⟨_,hf⟩ | ⟨hz,hf⟩
  ·cases hf
  ·cases hf
   have hy:y≠0:=fun e=>by subst e;rw [kd] at hz;simp at hz
   exact PyProof.Rows.mod_int' hy (eQ (qD x y) h _)
end
section
variable {C:Cfg} {X Pn:AP} {s s':Shared} {A:Around} {n:Nat} {p:List V} {Q E:Value→Shared→Prop}
theorem kN {a:Int} (h:fb a=true):Builtin.Int.intBits a≤64:=intBits_le_64 (by have:=gf h;omega) (by have:=gf h;omega)
theorem xN:d9 C dS (binaryOp .FloorDiv):=by
 intro n X Pn p s A Q E a b v va vb P hf ha hb h
 cases a <;> cases b <;> simp only [dS] at hf <;> (try cases hf)
 case int.int x y=>
  obtain ⟨t,rfl⟩:=ha.int;obtain ⟨u,rfl⟩:=hb.int
  rcases gb hf with ⟨_,hf⟩ | ⟨hz,hf⟩
  ·cases hf
  ·obtain ⟨hs,hf⟩:=cJ hf
   cases hf
   have hy:y≠0:=fun e=>by subst e;rw [kd] at hz;simp at hz
   refine PyProof.Rows.floordiv_int hy (eQ (wN x y) h _) (.inl (PyProof.noPylong_of_log2 ?_))
   exact Nat.lt_of_lt_of_le (Nat.log2_lt (by omega) |>.mpr (gf hs)) (by decide)
theorem kP {l:Addr} {vs:List Value} {k:Nat} {x:Int} {u:Tok} (hl:s.heap.get? l=some (cy vs k)) (hlo:-(2 ^ 63:Int)≤x) (hhi:x < 2 ^ 63) (hsz:vs.length * x.toNat≤2 ^ 24)
  (h:Q (.ref s.heap.objs.size) { s with heap:=s.heap.push { cls:=.type "list",data:=.seq (List.replicate x.toNat vs).flatten.toArray } }):wpAny (model C.prog C.w) A (binaryOp .Mult (.ref l) (.int x u)) Q E s:=by
 have hsz':vs.toArray.size * x.toNat≤2 ^ 24:=by simpa using hsz
 refine wpAny_binaryOp_repeat_ref (T := "list") (U := "int") (by decide) ⟨_,hl,rfl⟩ (fun s'=>typeIs_int s' x u) noFill_list_mul F.fills_int_mul F.slot_int_rmul repeat_list F.slot_int_index.lookup
  (call_meets F.slot_int_rmul (typeIs_int s x u) F.entry_int_rmul (F.args_int_rmul_2 _ _) (lm_int_rmul_list_any x u l vs.toArray k none #[])
   ⟨hl,rfl,⟨_,hl,rfl⟩,call_meets F.slot_list_mul ⟨_,hl,rfl⟩ F.entry_list_mul (F.args_list_mul_2 _ _)
    (lm_list_mul_any l vs.toArray k none #[] x u (by simp [Builtin.List.listFitsIndex];omega) (by omega) (by simp [Builtin.List.listTooLong,sizeLine];omega))
    ⟨hl,?_⟩⟩)
 rw [listMul_foldl_if];exact h
theorem cU {α:Type} {l:List α} {k:Nat} (h:short k l=true):l.length≤k:=cu h
theorem r9 (a:Int):iM a=a.toNat:=by cases a <;> rfl
theorem RepVs.rep {l:List V} {vs:List Value} {h:Heap} (r:RepVs C X h l vs):∀ k:Nat,RepVs C X h (Mine.rep k l) (List.replicate k vs).flatten
 | 0=>by
  show RepVs C X h [] _
  simpa using RepVs.nil
 | k + 1=>by
  show RepVs C X h (app l (Mine.rep k l)) _
  rw [eJ,List.replicate_succ,List.flatten_cons]
  exact r.append (r.rep k)
theorem xK:d9 C bg (binaryOp .Mult):=by
 intro n X Pn p s A Q E a b v va vb P hf ha hb h
 cases a <;> cases b <;> simp only [bg] at hf <;> (try cases hf)
 case int.int x y=>
  obtain ⟨t,rfl⟩:=ha.int;obtain ⟨u,rfl⟩:=hb.int
  rcases gb hf with ⟨hs,hf⟩ | ⟨_,hf⟩
  ·cases hf
   exact PyProof.Rows.mul_int (eQ (mW x y) h _) (.of_left (kN hs))
  ·obtain ⟨hs,hf⟩:=cJ hf
   cases hf
   exact PyProof.Rows.mul_int (eQ (mW x y) h _) (.of_right (kN hs))
 case lst.int x y=>
  obtain ⟨u,rfl⟩:=hb.int
  obtain ⟨hs,hf⟩:=cJ hf
  cases y with
  | negSucc m=>cases hf
  | ofNat m=>
   obtain ⟨hy,hf⟩:=cJ hf
   cases hf
   obtain ⟨a,vs,rfl,⟨_,na,ta⟩,ra⟩:=ha.lst
   have hl:=cu hs
   rw [blt_dec,decide_eq_true_eq] at hy
   have hlen:=ra.length
   refine kP ta (by simp only [Int.ofNat_eq_natCast];omega) (by simp only [Int.ofNat_eq_natCast];omega) ?_ (h _ _ (.push _) (RepV.newList P (ra.rep _) ?_))
   ·calc vs.length * m≤8 * 300:=Nat.mul_le_mul (by omega) (by omega)
     _≤2 ^ 24:=by decide
   ·show (List.replicate m vs).flatten.length≤8000
    have e:(List.replicate m vs).flatten.length=m * vs.length:=by simp
    rw [e]
    calc m * vs.length≤300 * 8:=Nat.mul_le_mul (by omega) (by omega)
     _≤8000:=by decide
theorem xG:d9 C iF (binaryOp .Pow):=by
 intro n X Pn p s A Q E a b v va vb P hf ha hb h
 cases a <;> cases b <;> simp only [iF] at hf <;> (try cases hf)
 case int.int x y=>
  obtain ⟨t,rfl⟩:=ha.int;obtain ⟨u,rfl⟩:=hb.int
  cases y with
  | negSucc m=>cases hf
  | ofNat m=>
   obtain ⟨hs,hf⟩:=cJ hf
   obtain ⟨hy,hf⟩:=cJ hf
   cases hf
   rw [blt_dec,decide_eq_true_eq] at hy
   exact PyProof.Rows.pow_int_small (by simp) (by simp only [Int.ofNat_eq_natCast];omega) (gf hs) (eQ (by rw [wM];rfl) h _)
theorem xJ:fR C bJ (unaryOp .USub):=by
 intro n X Pn p s A Q E a v va P hf ha h
 cases a <;> simp only [bJ] at hf <;> (try cases hf)
 case int x=>
  obtain ⟨t,rfl⟩:=ha.int
  exact PyProof.Rows.neg_int (eQ (qC x) h _)
theorem xH:fR C hJ (unaryOp .Not):=by
 intro n X Pn p s A Q E a v va P hf ha h
 cases a <;> simp only [hJ] at hf <;> (try cases hf)
 case bool x=>
  have:=ha.bool;subst this
  exact fun Γ q hΓ=>dH (s:=s) (Q:=Q) (iQ x) h
theorem Ah:d9 C dq (compareOp .Lt):=by
 intro n X Pn p s A Q E a b v va vb P hf ha hb h
 cases a <;> cases b <;> simp only [dq] at hf <;> (try cases hf)
 case int.int x y=>
  obtain ⟨t,rfl⟩:=ha.int;obtain ⟨u,rfl⟩:=hb.int
  exact PyProof.Rows.lt_int (dH (d5 x y) h)
 case str.str x y=>
  obtain ⟨x',t,rfl,rfl⟩:=ha.str;obtain ⟨y',u,rfl,rfl⟩:=hb.str
  exact PyProof.Rows.lt_str (dH (ik _ _) h)
theorem Ai:d9 C nC (compareOp .LtE):=by
 intro n X Pn p s A Q E a b v va vb P hf ha hb h
 cases a <;> cases b <;> simp only [nC] at hf <;> (try cases hf)
 case int.int x y=>
  obtain ⟨t,rfl⟩:=ha.int;obtain ⟨u,rfl⟩:=hb.int
  exact PyProof.Rows.le_int (dH (ph x y) h)
theorem Al:d9 C bU (compareOp .Gt):=by
 intro n X Pn p s A Q E a b v va vb P hf ha hb h
 cases a <;> cases b <;> simp only [bU] at hf <;> (try cases hf)
 case int.int x y=>
  obtain ⟨t,rfl⟩:=ha.int;obtain ⟨u,rfl⟩:=hb.int
  exact PyProof.Rows.gt_int (dH (d5 y x) h)
theorem Am:d9 C pq (compareOp .GtE):=by
 intro n X Pn p s A Q E a b v va vb P hf ha hb h
 cases a <;> cases b <;> simp only [pq] at hf <;> (try cases hf)
 case int.int x y=>
  obtain ⟨t,rfl⟩:=ha.int;obtain ⟨u,rfl⟩:=hb.int
  exact PyProof.Rows.ge_int (dH (ph y x) h)
theorem mj {v:V} {x:Value} {h:Heap} (r:bx C X Pn h v x):(x==Value.none)=isNone v:=by
 cases v with
 | none=>rw [r.none];rfl
 | bool b=>rw [r.bool];rfl
 | int i=>obtain ⟨t,rfl⟩:=r.int;rfl
 | str i=>obtain ⟨y,t,rfl,_⟩:=r.str;rfl
 | tup l=>obtain ⟨a,vs,rfl,_⟩:=r.tup;rfl
 | lst l=>obtain ⟨a,vs,rfl,_⟩:=r.lst;rfl
 | aQ k x=>obtain ⟨a,vs,rfl,_⟩:=r.aQ;rfl
 | clo f c=>
  rcases r with r | ⟨a,_,_,r⟩
  ·simp only [RepV] at r;obtain ⟨a,_,_,rfl,_⟩:=r;rfl
  ·simp [OwnR] at r
theorem Aj:d9 C kR (compareOp .Is):=by
 intro n X Pn p s A Q E a b v va vb P hf ha hb h
 cases b <;> simp only [kR] at hf <;> (try cases hf)
 case none=>
  have:=hb.none;subst this
  exact is_none (dH (mj ha).symm h)
theorem wx:d9 C n9 (compareOp .IsNot):=by
 intro n X Pn p s A Q E a b v va vb P hf ha hb h
 cases b <;> simp only [n9] at hf <;> (try cases hf)
 case none=>
  have:=hb.none;subst this
  exact isNot_none (dH (by rw [mj ha,iQ]) h)
end
end Mine
namespace Mine
open PySem PySem.SeqAt PySem.MeetsSeq PySem.MeetsSeq2 PySem.MeetsSeq3 PySem.SeqRoads2
open AutoSeq1 (wpAny_loadPart')
def eR (A:Around) (s:Shared):List Value→List Value→Bool→Prop
 | x::xs,y::ys,r=>(EqAt A s x y true∧eR A s xs ys r)∨(EqAt A s x y false∧r=false)
 | [],[],r=>r=true
 | [],_::_,r=>r=false
 | _::_,[],r=>r=false
theorem r6 (l b:Addr) (xs ys:List Value) (n n2:Nat) (r:Bool):
  Meets (Builtin.«tuple.__eq__» ⟨[.ref l,.ref b],[]⟩)
   (fun A R s=>s.heap.get? l=some { cls:=.type "tuple",dict:=none,data:=.seq xs.toArray n,slots:=#[] }∧s.heap.get? b=some { cls:=.type "tuple",dict:=none,data:=.seq ys.toArray n2,slots:=#[] }∧
    eR A.in1 s xs ys r∧R (.ok (.ret (.bool r))) s):=
 .of_wp fun prog w A R s h=>by
  obtain ⟨hp,g,d,tk,os⟩:=s;obtain ⟨hl,hb,he,h⟩:=h
  have f2:=AutoSeq1.sub_tuple_tuple
  wp_walk using wpAny_loadPart' hl,wpAny_loadPart' hb,wpAny_forIn_list _ (fun rest b s'=>b.1=none∧s'=⟨hp,g,d,tk,os⟩∧∃ xs' ys',rest=xs'.zip ys'∧eR A.in1 ⟨hp,g,d,tk,os⟩ xs' ys' r∧(xs'.length==ys'.length)=(xs.length==ys.length)) _
  case turn=>
   rintro ⟨y,x⟩ rest b s' ⟨hb',rfl,xs',ys',hz,hR,hlen⟩
   cases xs' with
   | nil=>simp at hz
   | cons u us=>cases ys' with
    | nil=>simp at hz
    | cons v vs=>
     simp only [List.zip_cons_cons,List.cons.injEq,Prod.mk.injEq] at hz
     obtain ⟨⟨rfl,rfl⟩,rfl⟩:=hz
     rcases hR with ⟨he,hR⟩ | ⟨he,hr⟩
     ·refine wpAny_bind (he prog w _ _ ?_)
      wp_walk
      exact ⟨rfl,rfl,us,vs,rfl,hR,by simpa using hlen⟩
     ·refine wpAny_bind (he prog w _ _ ?_)
      subst hr
      wp_walk
      exact ⟨_,rfl,h⟩
  case fin=>
   rintro ⟨b1,b2⟩ s' ⟨hb',rfl,xs',ys',hz,hR,hlen⟩
   simp only at hb'
   subst hb'
   have hr:r=(xs.length==ys.length):=by
    rw [← hlen]
    cases xs' with
    | nil=>cases ys' with
     | nil=>exact hR
     | cons v vs=>exact hR
    | cons u us=>cases ys' with
     | nil=>exact hR
     | cons v vs=>simp at hz
   subst hr
   wp_walk
   exact ⟨_,rfl,by simpa [Builtin.Tuple.tupleCompareSizes] using h⟩
  case h=>
   exact ⟨rfl,rfl,xs,ys,by simp,he,rfl⟩
end Mine
namespace Mine
open PySem PySem.Calls PyProof.Rows PySem.SeqAt PySem.MeetsSeq PySem.MeetsSeq2 PySem.MeetsSeq3 PySem.SeqRoads2
open AutoSeq1 (wpAny_loadPart')
theorem oZ (l b:Addr) (items items2:List Value) (n n2:Nat) (r:Bool) (hsz:items.length=items2.length) (k:Nat):
  ∀ i:Nat,items.length - i=k→Meets (Builtin.«list.__eq__.loop» ⟨[.ref l,.ref b,rawInt i,rawInt 2],[]⟩)
   (fun A R s=>s.heap.get? l=some { cls:=.type "list",dict:=none,data:=.seq items.toArray n,slots:=#[] }∧s.heap.get? b=some { cls:=.type "list",dict:=none,data:=.seq items2.toArray n2,slots:=#[] }∧
    eR A.in1 s (items.drop i) (items2.drop i) r∧
    R (.ok (.ret (.bool r))) s):=by
 induction k with
 | zero=>
  intro i hk prog w A R s h
  obtain ⟨hp,g,d,tk,os⟩:=s;obtain ⟨hl,hb,he,h⟩:=h
  wp_walk using wpAny_loadPart' hl,wpAny_loadPart' hb
  have hi1:items.toArray[((i:Nat):Int).toNat]?=none:=by simp;omega
  have hi2:items2.toArray[((i:Nat):Int).toNat]?=none:=by simp;omega
  have hd:items.drop i=[]:=by simp;omega
  have hd2:items2.drop i=[]:=by simp;omega
  rw [hd,hd2] at he
  have hr:r=true:=he
  subst hr
  rw [hi1,hi2]
  wp_walk using wpAny_loadPart' hl,wpAny_loadPart' hb
  show R (.ok (.ret (.bool (items.toArray.size==items2.toArray.size)))) _
  simpa [hsz] using h
 | succ k ih=>
  intro i hk prog w A R s h
  obtain ⟨hp,g,d,tk,os⟩:=s;obtain ⟨hl,hb,he,h⟩:=h
  wp_walk using wpAny_loadPart' hl,wpAny_loadPart' hb
  have hlt:i < items.length:=by omega
  have hlt2:i < items2.length:=by omega
  have hi1:items.toArray[((i:Nat):Int).toNat]?=some items[i]:=by rw [Int.toNat_natCast,List.getElem?_toArray,List.getElem?_eq_getElem hlt]
  have hi2:items2.toArray[((i:Nat):Int).toNat]?=some items2[i]:=by rw [Int.toNat_natCast,List.getElem?_toArray,List.getElem?_eq_getElem hlt2]
  have hd:items.drop i=items[i]::items.drop (i + 1):=List.drop_eq_getElem_cons hlt
  have hd2:items2.drop i=items2[i]::items2.drop (i + 1):=List.drop_eq_getElem_cons hlt2
  have hc:((i:Int) + 1)=((i + 1:Nat):Int):=by push_cast;rfl
  rw [hd,hd2] at he
  rw [hi1,hi2]
  rcases he with ⟨e1,he⟩ | ⟨e1,hr⟩
  ·refine wpAny_bind (e1 prog w _ _ ?_)
   wp_walk
   rw [hc]
   exact ⟨plainId_quiet plain_eq_loop _,codeAny_builtin entry_eq_loop (by
    rw [Around.under_plainId plain_eq_loop _]
    exact ih (i + 1) (by omega) prog w A R _ ⟨hl,hb,he,h⟩)⟩
  ·refine wpAny_bind (e1 prog w _ _ ?_)
   subst hr
   wp_walk using wpAny_loadPart' hl,wpAny_loadPart' hb
   rw [hi1,hi2]
   wp_walk
   simpa using h
theorem t9 (l b:Addr) (items items2:List Value) (n n2:Nat) (r:Bool) (hsz:items.length=items2.length):
  Meets (Builtin.«list.__eq__» ⟨[.ref l,.ref b],[]⟩)
   (fun A R s=>s.heap.get? l=some { cls:=.type "list",dict:=none,data:=.seq items.toArray n,slots:=#[] }∧s.heap.get? b=some { cls:=.type "list",dict:=none,data:=.seq items2.toArray n2,slots:=#[] }∧
    eR A.in1 s items items2 r∧R (.ok (.ret (.bool r))) s):=by
 intro prog w A R s h
 obtain ⟨hp,g,d,tk,os⟩:=s;obtain ⟨hl,hb,he,h⟩:=h
 have f3:=AutoSeq1.sub_list_list
 have hne:¬(items.toArray.size !=items2.toArray.size)=true:=by simp [hsz]
 wp_walk using wpAny_loadPart' hl,wpAny_loadPart' hb
 exact ⟨plainId_quiet plain_eq_loop _,codeAny_builtin entry_eq_loop (by
  rw [Around.under_plainId plain_eq_loop _]
  exact oZ l b items items2 n n2 r hsz _ 0 rfl prog w A R _ ⟨hl,hb,he,h⟩)⟩
section
variable {A:Around} {s:Shared}
theorem tP {l b:Addr} {xs ys:List Value} {r:Bool} (hl:TupAt s.heap l xs) (hb:TupAt s.heap b ys) (hu:A.units < cLine) (he:eR A.in1 s xs ys r):RcAt A s (.ref l) (.ref b) r:=fun prog w E Q h=>by
 obtain ⟨_,n,ho⟩:=hl
 obtain ⟨_,n2,ho2⟩:=hb
 exact richCompare_meets_room (op:=.Eq) ⟨_,ho,rfl⟩ ⟨_,ho2,rfl⟩ F.slot_tuple_eq F.entry_tuple_eq (F.args_tuple_eq_2 _ _) (r6 l b xs ys n n2 r)
  ⟨ho,ho2,he,show Value.bool r≠Value.notImplemented∧Q (.bool r) s from ⟨(fun x=>nomatch x),h⟩⟩ hu
theorem wu {l b:Addr} {xs ys:List Value} {r:Bool} (hl:LstAt s.heap l xs) (hb:LstAt s.heap b ys) (hu:A.units < cLine) (hsz:xs.length=ys.length) (he:eR A.in1 s xs ys r):RcAt A s (.ref l) (.ref b) r:=fun prog w E Q h=>by
 obtain ⟨_,n,ho⟩:=hl
 obtain ⟨_,n2,ho2⟩:=hb
 exact richCompare_meets_room (op:=.Eq) ⟨_,ho,rfl⟩ ⟨_,ho2,rfl⟩ F.slot_list_eq F.entry_list_eq (F.args_list_eq_2 _ _) (t9 l b xs ys n n2 r hsz)
  ⟨ho,ho2,he,show Value.bool r≠Value.notImplemented∧Q (.bool r) s from ⟨(fun x=>nomatch x),h⟩⟩ hu
theorem LstAt.isList {h:Heap} {a:Addr} {vs:List Value} (x:LstAt h a vs):h.IsList a vs.toArray:=let ⟨_,n,ho⟩:=x;⟨_,ho,rfl,n,rfl⟩
theorem TupAt.ec {h:Heap} {a:Addr} {vs:List Value} (x:TupAt h a vs):h.IsTuple a vs.toArray:=let ⟨_,n,ho⟩:=x;⟨_,ho,rfl,n,rfl⟩
theorem LstAt.inj {h:Heap} {a:Addr} {vs ws:List Value} (x:LstAt h a vs) (y:LstAt h a ws):vs=ws:=by
 obtain ⟨_,n,e⟩:=x;obtain ⟨_,m,e'⟩:=y
 rw [e] at e'
 simp only [cy,Option.some.injEq,Obj.mk.injEq,Data.seq.injEq] at e'
 simpa using e'.2.2.1.1
theorem TupAt.inj {h:Heap} {a:Addr} {vs ws:List Value} (x:TupAt h a vs) (y:TupAt h a ws):vs=ws:=by
 obtain ⟨_,n,e⟩:=x;obtain ⟨_,m,e'⟩:=y
 rw [e] at e'
 simp only [lq,Option.some.injEq,Obj.mk.injEq,Data.seq.injEq] at e'
 simpa using e'.2.2.1.1
end
section
variable {C:Cfg} {X Pn:AP} {A:Around} {s:Shared}
theorem jw (f:V→V→Option Bool) (a b:V) (x y:List V):nI f (a::x) (b::y)=@Option.rec Bool (fun _=>Option Bool) none (fun q=>@Bool.rec (fun _=>Option Bool) (some false) (nI f x y) q) (f a b):=rfl
theorem jv:∀ (n:Nat) (a b:V) (r:Bool) (x:Value),cY n a b=some r→bx C X Pn s.heap a x→bx C X Pn s.heap b x→r=true
 | 0,_,_,_,_,h,_,_=>by cases h
 | n + 1,a,b,r,x,h,ha,hb=>by
  have hL:∀ (xs ys:List V) (vs:List Value) (r:Bool),nI (cY n) xs ys=some r→RepVs C X s.heap xs vs→RepVs C X s.heap ys vs→r=true:=by
   intro xs
   induction xs with
   | nil=>
    intro ys vs r h hx hy
    simp only [RepVs] at hx;subst hx
    cases ys with
    | nil=>cases h;rfl
    | cons y ys=>simp [RepVs] at hy
   | cons u us ih=>
    intro ys vs r h hx hy
    simp only [RepVs] at hx
    obtain ⟨v,rest,rfl,h1,h2⟩:=hx
    cases ys with
    | nil=>simp [RepVs] at hy
    | cons y ys=>
     rw [RepVs.dY] at hy
     rw [jw] at h
     cases hf:cY n u y with
     | none=>rw [hf] at h;cases h
     | some q=>
      rw [hf] at h
      have:=jv n u y q v hf (.inl h1) (.inl hy.1)
      subst this
      exact ih ys rest r h h2 hy.2
  cases a <;> cases b <;> simp only [cY] at h <;> (try cases h)
  case none.none=>rfl
  case none.tup l=>obtain ⟨a,vs,e,_⟩:=hb.tup;rw [ha.none] at e;cases e
  case bool.bool u v=>
   have e:=ha.bool;rw [hb.bool] at e;cases e
   cases u <;> rfl
  case int.int u v=>
   obtain ⟨t,e⟩:=ha.int;obtain ⟨t',e'⟩:=hb.int
   rw [e] at e';cases e'
   rw [kd];simp
  case str.str u v=>
   obtain ⟨y,t,e,q⟩:=ha.str;obtain ⟨y',t',e',q'⟩:=hb.str
   rw [e] at e';cases e'
   rw [← q,← q',nB];simp
  case tup.none l=>obtain ⟨a,vs,e,_⟩:=ha.tup;rw [hb.none] at e;cases e
  case tup.tup u v=>
   obtain ⟨y,vs,e,h1,h2⟩:=ha.tup;obtain ⟨y',vs',e',h1',h2'⟩:=hb.tup
   rw [e] at e';cases e'
   cases h1.inj h1'
   exact hL u v vs r h h2 h2'
  case lst.lst u v=>
   obtain ⟨y,vs,e,h1,h2⟩:=ha.lst;obtain ⟨y',vs',e',h1',h2'⟩:=hb.lst
   rw [e] at e';cases e'
   cases h1.inj h1'
   rcases gb h with ⟨_,h⟩ | ⟨hz,h⟩
   ·exact hL u v vs r h h2 h2'
   ·have e1:=h2.length;have e2:=h2'.length
    have:=Nat.ne_of_beq_eq_false hz
    rw [bD,bD] at this
    omega
theorem qj (x y:Str):fG x.cps.toList y.cps.toList=(x==y):=by rw [nB,toList_beq]
theorem gr:∀ (n:Nat) (a b:V) (r:Bool) (x y:Value) (A:Around),cY n a b=some r→bx C X Pn s.heap a x→bx C X Pn s.heap b y→A.units + n < cLine→EqAt A s x y r∧RcAt A s x y r
 | 0,_,_,_,_,_,_,h,_,_,_=>by cases h
 | n + 1,a,b,r,x,y,A,h,ha,hb,hu=>by
  have hL:∀ (xs ys:List V) (vs ws:List Value) (r:Bool),nI (cY n) xs ys=some r→RepVs C X s.heap xs vs→RepVs C X s.heap ys ws→eR A.in1 s vs ws r:=by
   intro xs
   induction xs with
   | nil=>
    intro ys vs ws r h hx hy
    simp only [RepVs] at hx;subst hx
    cases ys with
    | nil=>simp only [RepVs] at hy;subst hy;cases h;rfl
    | cons y ys=>simp only [RepVs] at hy;obtain ⟨v,rest,rfl,_⟩:=hy;cases h;rfl
   | cons u us ih=>
    intro ys vs ws r h hx hy
    simp only [RepVs] at hx
    obtain ⟨v,rest,rfl,h1,h2⟩:=hx
    cases ys with
    | nil=>simp only [RepVs] at hy;subst hy;cases h;rfl
    | cons y ys=>
     simp only [RepVs] at hy
     obtain ⟨v',rest',rfl,h1',h2'⟩:=hy
     rw [jw] at h
     cases hf:cY n u y with
     | none=>rw [hf] at h;cases h
     | some q=>
      rw [hf] at h
      have e:=(gr n u y q v v' A.in1 hf (.inl h1) (.inl h1') (by show A.units + 1 + n < cLine;omega)).1
      cases q with
      | true=>exact .inl ⟨e,ih ys rest rest' r h h2 h2'⟩
      | false=>cases h;exact .inr ⟨e,rfl⟩
  have hu':A.units < cLine:=by omega
  have h0:=h
  cases a <;> cases b <;> simp only [cY] at h <;> (try cases h)
  case none.none=>rw [ha.none,hb.none];exact ⟨EqAt.same _,RcAt.none_none⟩
  case none.tup l=>
   obtain ⟨a,vs,rfl,h1,_⟩:=hb.tup;rw [ha.none]
   exact ⟨EqAt.none_tuple h1.ec hu',RcAt.none_tuple h1.ec hu'⟩
  case bool.bool u v=>
   rw [ha.bool,hb.bool]
   have e:(@Bool.rec (fun _=>Bool) (jd v) v u)=(u==v):=by cases u <;> cases v <;> rfl
   rw [e]
   exact ⟨EqAt.bool_bool _ _,RcAt.bool_bool _ _⟩
  case int.int u v=>
   obtain ⟨t,rfl⟩:=ha.int;obtain ⟨t',rfl⟩:=hb.int
   rw [kd]
   exact ⟨EqAt.int_int _ _ _ _,RcAt.int_int _ _ _ _⟩
  case str.str u v=>
   obtain ⟨y,t,rfl,rfl⟩:=ha.str;obtain ⟨y',t',rfl,rfl⟩:=hb.str
   rw [qj]
   exact ⟨EqAt.str_str _ _ _ _,RcAt.str_str _ _ _ _⟩
  case tup.none l=>
   obtain ⟨a,vs,rfl,h1,_⟩:=ha.tup;rw [hb.none]
   exact ⟨EqAt.tuple_none h1.ec hu',RcAt.tuple_none h1.ec hu'⟩
  case tup.tup u v=>
   obtain ⟨y,vs,rfl,h1,h2⟩:=ha.tup;obtain ⟨y',vs',rfl,h1',h2'⟩:=hb.tup
   have e:=tP h1 h1' hu' (hL u v vs vs' r h h2 h2')
   by_cases hne:y=y'
   ·subst hne
    have:=jv _ _ _ _ _ h0 ha hb
    subst this
    exact ⟨EqAt.same _,e⟩
   ·exact ⟨EqAt.of_refs hne e,e⟩
  case lst.lst u v=>
   obtain ⟨y,vs,rfl,h1,h2⟩:=ha.lst;obtain ⟨y',vs',rfl,h1',h2'⟩:=hb.lst
   have hl:=h2.length;have hl':=h2'.length
   have e:RcAt A s (.ref y) (.ref y') r:=by
    rcases gb h with ⟨hz,h⟩ | ⟨hz,h⟩
    ·have:=Nat.eq_of_beq_eq_true hz
     rw [bD,bD] at this
     exact wu h1 h1' hu' (by omega) (hL u v vs vs' r h h2 h2')
    ·have:=Nat.ne_of_beq_eq_false hz
     rw [bD,bD] at this
     cases h
     exact RcAt.lists_lengths h1.isList h1'.isList (by simp;omega) hu'
   by_cases hne:y=y'
   ·subst hne
    have:=jv _ _ _ _ _ h0 ha hb
    subst this
    exact ⟨EqAt.same _,e⟩
   ·exact ⟨EqAt.of_refs hne e,e⟩
end
end Mine
namespace Mine
open PySem PySem.SeqAt PySem.MeetsSeq PySem.MeetsSeq2 PySem.MeetsSeq3 PySem.SeqRoads2
open AutoSeq1 (wpAny_loadPart')
theorem rZ (l b:Addr) (xs ys:List Value) (n n2:Nat) (r:Bool):
  Meets (Builtin.«tuple.__ne__» ⟨[.ref l,.ref b],[]⟩)
   (fun A R s=>s.heap.get? l=some { cls:=.type "tuple",dict:=none,data:=.seq xs.toArray n,slots:=#[] }∧s.heap.get? b=some { cls:=.type "tuple",dict:=none,data:=.seq ys.toArray n2,slots:=#[] }∧
    eR A.in1 s xs ys r∧R (.ok (.ret (.bool (!r)))) s):=
 .of_wp fun prog w A R s h=>by
  obtain ⟨hp,g,d,tk,os⟩:=s;obtain ⟨hl,hb,he,h⟩:=h
  have f2:=AutoSeq1.sub_tuple_tuple
  wp_walk using wpAny_loadPart' hl,wpAny_loadPart' hb,wpAny_forIn_list _ (fun rest b s'=>b.1=none∧s'=⟨hp,g,d,tk,os⟩∧∃ xs' ys',rest=xs'.zip ys'∧eR A.in1 ⟨hp,g,d,tk,os⟩ xs' ys' r∧(xs'.length==ys'.length)=(xs.length==ys.length)) _
  case turn=>
   rintro ⟨y,x⟩ rest b s' ⟨hb',rfl,xs',ys',hz,hR,hlen⟩
   cases xs' with
   | nil=>simp at hz
   | cons u us=>cases ys' with
    | nil=>simp at hz
    | cons v vs=>
     simp only [List.zip_cons_cons,List.cons.injEq,Prod.mk.injEq] at hz
     obtain ⟨⟨rfl,rfl⟩,rfl⟩:=hz
     rcases hR with ⟨he,hR⟩ | ⟨he,hr⟩
     ·refine wpAny_bind (he prog w _ _ ?_)
      wp_walk
      exact ⟨rfl,rfl,us,vs,rfl,hR,by simpa using hlen⟩
     ·refine wpAny_bind (he prog w _ _ ?_)
      subst hr
      wp_walk
      exact ⟨_,rfl,h⟩
  case fin=>
   rintro ⟨b1,b2⟩ s' ⟨hb',rfl,xs',ys',hz,hR,hlen⟩
   simp only at hb'
   subst hb'
   have hr:r=(xs.length==ys.length):=by
    rw [← hlen]
    cases xs' with
    | nil=>cases ys' with
     | nil=>exact hR
     | cons v vs=>exact hR
    | cons u us=>cases ys' with
     | nil=>exact hR
     | cons v vs=>simp at hz
   subst hr
   wp_walk
   exact ⟨_,rfl,by simpa [Builtin.Tuple.tupleCompareSizes,bne] using h⟩
  case h=>
   exact ⟨rfl,rfl,xs,ys,by simp,he,rfl⟩
theorem oY (l b:Addr) (items items2:List Value) (n n2:Nat) (r:Bool) (hsz:items.length=items2.length) (k:Nat):
  ∀ i:Nat,items.length - i=k→Meets (Builtin.«list.__eq__.loop» ⟨[.ref l,.ref b,rawInt i,rawInt 3],[]⟩)
   (fun A R s=>s.heap.get? l=some { cls:=.type "list",dict:=none,data:=.seq items.toArray n,slots:=#[] }∧s.heap.get? b=some { cls:=.type "list",dict:=none,data:=.seq items2.toArray n2,slots:=#[] }∧
    eR A.in1 s (items.drop i) (items2.drop i) r∧
    R (.ok (.ret (.bool (!r)))) s):=by
 induction k with
 | zero=>
  intro i hk prog w A R s h
  obtain ⟨hp,g,d,tk,os⟩:=s;obtain ⟨hl,hb,he,h⟩:=h
  wp_walk using wpAny_loadPart' hl,wpAny_loadPart' hb
  have hi1:items.toArray[((i:Nat):Int).toNat]?=none:=by simp;omega
  have hi2:items2.toArray[((i:Nat):Int).toNat]?=none:=by simp;omega
  have hd:items.drop i=[]:=by simp;omega
  have hd2:items2.drop i=[]:=by simp;omega
  rw [hd,hd2] at he
  have hr:r=true:=he
  subst hr
  rw [hi1,hi2]
  wp_walk using wpAny_loadPart' hl,wpAny_loadPart' hb
  show R (.ok (.ret (.bool (items.toArray.size !=items2.toArray.size)))) _
  simpa [hsz] using h
 | succ k ih=>
  intro i hk prog w A R s h
  obtain ⟨hp,g,d,tk,os⟩:=s;obtain ⟨hl,hb,he,h⟩:=h
  wp_walk using wpAny_loadPart' hl,wpAny_loadPart' hb
  have hlt:i < items.length:=by omega
  have hlt2:i < items2.length:=by omega
  have hi1:items.toArray[((i:Nat):Int).toNat]?=some items[i]:=by rw [Int.toNat_natCast,List.getElem?_toArray,List.getElem?_eq_getElem hlt]
  have hi2:items2.toArray[((i:Nat):Int).toNat]?=some items2[i]:=by rw [Int.toNat_natCast,List.getElem?_toArray,List.getElem?_eq_getElem hlt2]
  have hd:items.drop i=items[i]::items.drop (i + 1):=List.drop_eq_getElem_cons hlt
  have hd2:items2.drop i=items2[i]::items2.drop (i + 1):=List.drop_eq_getElem_cons hlt2
  have hc:((i:Int) + 1)=((i + 1:Nat):Int):=by push_cast;rfl
  rw [hd,hd2] at he
  rw [hi1,hi2]
  rcases he with ⟨e1,he⟩ | ⟨e1,hr⟩
  ·refine wpAny_bind (e1 prog w _ _ ?_)
   wp_walk
   rw [hc]
   exact ⟨plainId_quiet plain_eq_loop _,codeAny_builtin entry_eq_loop (by
    rw [Around.under_plainId plain_eq_loop _]
    exact ih (i + 1) (by omega) prog w A R _ ⟨hl,hb,he,h⟩)⟩
  ·refine wpAny_bind (e1 prog w _ _ ?_)
   subst hr
   wp_walk using wpAny_loadPart' hl,wpAny_loadPart' hb
   rw [hi1,hi2]
   wp_walk
   simpa using h
theorem t8 (l b:Addr) (items items2:List Value) (n n2:Nat) (r:Bool) (hsz:items.length=items2.length):
  Meets (Builtin.«list.__ne__» ⟨[.ref l,.ref b],[]⟩)
   (fun A R s=>s.heap.get? l=some { cls:=.type "list",dict:=none,data:=.seq items.toArray n,slots:=#[] }∧s.heap.get? b=some { cls:=.type "list",dict:=none,data:=.seq items2.toArray n2,slots:=#[] }∧
    eR A.in1 s items items2 r∧R (.ok (.ret (.bool (!r)))) s):=by
 intro prog w A R s h
 obtain ⟨hp,g,d,tk,os⟩:=s;obtain ⟨hl,hb,he,h⟩:=h
 have f3:=AutoSeq1.sub_list_list
 have hne:¬(items.toArray.size !=items2.toArray.size)=true:=by simp [hsz]
 wp_walk using wpAny_loadPart' hl,wpAny_loadPart' hb
 exact ⟨plainId_quiet plain_eq_loop _,codeAny_builtin entry_eq_loop (by
  rw [Around.under_plainId plain_eq_loop _]
  exact oY l b items items2 n n2 r hsz _ 0 rfl prog w A R _ ⟨hl,hb,he,h⟩)⟩
end Mine
namespace Mine
open PySem PySem.Calls PyProof.Rows PySem.SeqAt
section
variable {C:Cfg} {X Pn:AP} {A:Around} {s:Shared} {E:Value→Shared→Prop}
theorem jF {f:V→Bool}:∀ {l:List V},allB f l=true→∀ v∈l,f v=true
 | [],_,_,h=>nomatch h
 | a::l,h,v,hv=>by
  have e:allB f (a::l)=@Bool.rec (fun _=>Bool) false (allB f l) (f a):=rfl
  rw [e] at h
  cases q:f a with
  | false=>rw [q] at h;cases h
  | true=>
   rw [q] at h
   rcases List.mem_cons.mp hv with rfl | hv
   ·exact q
   ·exact jF h v hv
theorem fe {n:Nat} {v:V} (h:keyOk n v=true):(∃ i,v=.int i)∨(∃ i,v=.str i)∨∃ l m,v=.tup l∧n=m + 1∧allB (keyOk m) l=true:=by
 cases n with
 | zero=>cases h
 | succ n=>
  cases v <;> simp only [keyOk] at h <;> (try cases h)
  ·exact .inl ⟨_,rfl⟩
  ·exact .inr (.inl ⟨_,rfl⟩)
  ·exact .inr (.inr ⟨_,n,rfl,rfl,h⟩)
theorem iZ (w:World) (x:Str):hashStr w x=jR w x.cps.toList:=by
 unfold jR;cases x;simp
theorem lB:∀ (n:Nat) (v:V) (x:Value) (s:Shared) (A:Around) (E:Value→Shared→Prop) (Q:Int→Shared→Prop),keyOk n v=true→RepV C X s.heap v x→A.units + n < cLine→(∀ tk,Q (hashV C.w v) { s with toks:=tk })→
  wpAny (model C.prog C.w) A (pyHash x) Q E s:=by
 intro n
 induction n with
 | zero=>intro v x s A E Q h;cases h
 | succ n ih=>
  intro v x s A E Q hk hv hu hQ
  rcases fe hk with ⟨i,rfl⟩ | ⟨i,rfl⟩ | ⟨l,m,rfl,e,hl⟩
  ·simp only [RepV] at hv
   obtain ⟨t,rfl⟩:=hv
   exact wpAny_pyHash_int (by simpa [hashV] using hQ _)
  ·simp only [RepV] at hv
   obtain ⟨y,t,rfl,rfl⟩:=hv
   exact wpAny_pyHash_str (by rw [iZ];simpa [hashV] using hQ _)
  ·cases e
   simp only [RepV] at hv
   obtain ⟨a,vs,rfl,_,⟨_,k,ho⟩,hi⟩:=hv
   have hT:s.TypeIs (.ref a) "tuple" := ⟨_,ho,rfl⟩
   have hd:(lq vs k).data=.seq vs.toArray k:=rfl
   unfold pyHash
   first | unfold pyHashByItsType | skip
   first | refine wpAny_bind (wpAny_cRoomFor_or (.inr (by omega)) ?_) | skip
   refine wpAny_bind (wpAny_specialOf hT F.slot_tuple_hash.lookup ?_)
   show wpAny _ _ (if (some (Value.builtin "tuple.__hash__")==some Value.none)=true then _ else _) Q E s
   rw [if_neg (by rw [beq_builtin_none];exact Bool.false_ne_true)]
   refine wpAny_bind (wpAny_specialOf hT F.slot_tuple_hash.lookup ?_)
   show wpAny _ _ (callSpecialIfBoundUnlessNone? (.ref a) "__hash__" _ >>= _) Q E s
   refine wpAny_bind (wpAny_callSpecialIfBoundUnlessNone?_slot hT F.slot_tuple_hash (wpAny_call_entry F.slot_tuple_hash hT F.entry_tuple_hash ?_ (F.args_tuple_hash_1 _)))
   show wpAny _ _ (Builtin.Tuple.tupleItemsOf (.ref a) >>= _) _ _ s
   refine wpAny_bind (wpAny_tupleItemsOf ho hd ?_)
   refine wpAny_bind ?_
   rw [← Array.forIn_toList]
   refine wpAny_forIn_list _
    (fun rest (b:Array Int) s'=>∃ done left,l=done++left∧RepVs C X s.heap left rest∧b.toList=hashVs C.w done∧∃ tk,s'={ s with toks:=tk })
    _ ?_ ?_ _ _ ⟨[],l,rfl,by simpa using hi,by simp [hashVs],s.toks,rfl⟩
   ·rintro x rest b s' ⟨done,left,rfl,hr,hb,tk,rfl⟩
    cases left with
    | nil=>simp [RepVs] at hr
    | cons v left=>
     rw [RepVs.dY] at hr
     have hkv:keyOk n v=true:=jF hl v (by simp)
     refine wpAny_bind (ih v x _ _ _ _ hkv hr.1 ?_ fun tk'=>?_)
     ·show A.units + 1 + n < cLine
      omega
     ·have happ:∀ (a b:List V),hashVs C.w (a++b)=hashVs C.w a++hashVs C.w b:=by
       intro a
       induction a with
       | nil=>intro b;simp [hashVs]
       | cons u a ih'=>intro b;simp [hashVs,ih']
      first
       | exact wpAny_pure ⟨done++[v],left,by simp,hr.2,by simp [hb,happ,hashVs],tk',rfl⟩
       | exact wpAny_bind (wpAny_pure (wpAny_pure ⟨done++[v],left,by simp,hr.2,by simp [hb,happ,hashVs],tk',rfl⟩))
   ·rintro b s' ⟨done,left,rfl,hr,hb,tk,rfl⟩
    cases left with
    | cons v left=>simp [RepVs] at hr
    | nil=>
     rw [List.append_nil] at hQ
     show wpAny _ _ (retInt (Builtin.Tuple.tupleHashOf b.toList)) _ _ _
     rw [hb]
     refine wpAny_ret_mkInt ?_
     show wpAny _ _ (if (decide (-(2:Int) ^ 63≤Builtin.Tuple.tupleHashOf (hashVs C.w done))&&decide (Builtin.Tuple.tupleHashOf (hashVs C.w done) < 2 ^ 63))=true then _ else _) Q E _
     simp only [hashV] at hQ
     unfold reduceHash at hQ
     by_cases hr:(decide (-(2:Int) ^ 63≤Builtin.Tuple.tupleHashOf (hashVs C.w done))&&decide (Builtin.Tuple.tupleHashOf (hashVs C.w done) < 2 ^ 63))=true
     ·rw [if_pos hr]
      rw [if_pos hr] at hQ
      exact wpAny_pure (hQ _)
     ·rw [if_neg hr]
      rw [if_neg hr] at hQ
      exact wpAny_bind (wpAny_rule (wpAny_pure (hQ _)))
theorem qp:∀ (n:Nat) (v:V) (x:Value) (s:Shared) (A:Around) (E:Value→Shared→Prop) (Q:Bool→Shared→Prop),keyOk n v=true→RepV C X s.heap v x→Q true s→
  wpAny (model C.prog C.w) A (eqIsQuiet n x) Q E s:=by
 intro n
 induction n with
 | zero=>intro v x s A E Q h;cases h
 | succ n ih=>
  intro v x s A E Q hk hv hQ
  rcases fe hk with ⟨i,rfl⟩ | ⟨i,rfl⟩ | ⟨l,m,rfl,e,hl⟩
  ·simp only [RepV] at hv
   obtain ⟨t,rfl⟩:=hv
   rw [eqIsQuiet_byValue _ rfl];exact wpAny_pure hQ
  ·simp only [RepV] at hv
   obtain ⟨y,t,rfl,rfl⟩:=hv
   rw [eqIsQuiet_byValue _ rfl];exact wpAny_pure hQ
  ·cases e
   simp only [RepV] at hv
   obtain ⟨a,vs,rfl,_,⟨_,k,ho⟩,hi⟩:=hv
   have hT:s.TypeIs (.ref a) "tuple" := ⟨_,ho,rfl⟩
   have hd:(lq vs k).data=.seq vs.toArray k:=rfl
   unfold eqIsQuiet
   refine wpAny_bind (wpAny_specialOf hT F.slot_tuple_eq.lookup ?_)
   show wpAny _ _ (isInstance (.ref a) (.type "tuple") >>= _) _ _ s
   refine wpAny_bind (wpAny_isInstance hT isSubtype_tuple_tuple ?_)
   simp only [Bool.not_true,Bool.false_eq_true,if_false]
   refine wpAny_bind (wpAny_seqItems ho hd ?_)
   refine wpAny_bind ?_
   show wpAny _ _ (forIn vs.toArray _ _) _ _ s
   rw [← Array.forIn_toList]
   refine wpAny_forIn_list _ (fun rest r s'=>r.1=none∧s'=s∧∃ left,RepVs C X s.heap left rest∧∀ v∈left,keyOk n v=true) _ ?_ ?_ _ _ ⟨rfl,rfl,l,by simpa using hi,jF hl⟩
   ·rintro x rest r s' ⟨hr,rfl,left,hl',hall⟩
    cases left with
    | nil=>simp [RepVs] at hl'
    | cons v left=>
     rw [RepVs.dY] at hl'
     refine wpAny_bind (ih v x _ _ _ _ (hall v (by simp)) hl'.1 ?_)
     simp only [Bool.not_true,Bool.false_eq_true,if_false]
     exact wpAny_pure ⟨rfl,rfl,left,hl'.2,fun u hu'=>hall u (List.mem_cons_of_mem _ hu')⟩
   ·rintro ⟨r1,r2⟩ s' ⟨hr,rfl,_⟩
    simp only at hr
    subst hr
    exact wpAny_pure hQ
end
theorem qQ {f:V→V→Option Bool}:∀ {l m:List V} {r:Bool},(∀ a∈l,∀ b r,f a b=some r→(r=true↔a=b))→nI f l m=some r→(r=true↔l=m)
 | [],[],r,_,h=>by cases h;simp
 | [],_::_,r,_,h=>by cases h;simp
 | _::_,[],r,_,h=>by cases h;simp
 | a::l,b::m,r,hf,h=>by
  rw [jw] at h
  cases q:f a b with
  | none=>rw [q] at h;cases h
  | some c=>
   rw [q] at h
   have e:=hf a (by simp) b c q
   cases c with
   | false=>
    cases h
    have:a≠b:=fun x=>by have:=e.mpr x;cases this
    simp [this]
   | true=>
    have e:=e.mp rfl
    subst e
    have:=qQ (fun a' ha=>hf a' (List.mem_cons_of_mem _ ha)) h
    simp [this]
theorem m8:∀ (n m:Nat) (a b:V) (r:Bool),keyOk m a=true→cY n a b=some r→(r=true↔a=b)
 | 0,_,_,_,_,_,h=>by cases h
 | n + 1,m,a,b,r,hk,h=>by
  rcases fe hk with ⟨i,rfl⟩ | ⟨i,rfl⟩ | ⟨l,m',rfl,_,hl⟩ <;> cases b <;> simp only [cY] at h <;> (try cases h)
  case inl.int j=>rw [qE];simp
  case inr.inl.str j=>rw [jf];simp
  case inr.inr.none=>simp
  case inr.inr.tup j=>
   have:=qQ (fun a' ha b' r' hr=>m8 n m' a' b' r' (jF hl a' ha) hr) h
   simp [this]
theorem nX:∀ {n:Nat} {k:V} {i:Int} {b:Bool},cY n k (.int i)=some b→∃ j,k=.int j
 | 0,_,_,_,h=>by cases h
 | n + 1,k,i,b,h=>by
  cases k <;> simp only [cY] at h <;> (try cases h)
  exact ⟨_,rfl⟩
theorem nW:∀ {n:Nat} {k:V} {i:List Nat} {b:Bool},cY n k (.str i)=some b→∃ j,k=.str j
 | 0,_,_,_,h=>by cases h
 | n + 1,k,i,b,h=>by
  cases k <;> simp only [cY] at h <;> (try cases h)
  exact ⟨_,rfl⟩
theorem nV:∀ {n:Nat} {k:V} {i:List V} {b:Bool},cY n k (.tup i)=some b→k=.none∨∃ j,k=.tup j
 | 0,_,_,_,h=>by cases h
 | n + 1,k,i,b,h=>by
  cases k <;> simp only [cY] at h <;> (try cases h)
  ·exact .inl rfl
  ·exact .inr ⟨_,rfl⟩
theorem rI (k:V) (l:List V) (x:V) (i:Nat):cD (k::l) x i=
  @Option.rec Bool (fun _=>Option (Option Nat)) none (fun b=>@Option.rec (Option Nat) (fun _=>Option (Option Nat)) none (fun o=>@Bool.rec (fun _=>Option (Option Nat)) (some o) (@Option.rec Nat (fun _=>Option (Option Nat)) (some (some i)) (fun _=>none) o) b) (cD l x (i + 1))) (cY dc k x):=rfl
theorem mw:∀ {l:List V} {x:V} {i:Nat} {o:Option Nat},cD l x i=some o→
  (∀ j k,l[j]?=some k→cY dc k x=some (decide (o=some (i + j))))∧(∀ m,o=some m→i≤m∧m < i + l.length)
 | [],_,_,_,h=>by cases h;exact ⟨fun j k e=>by simp at e,fun m e=>nomatch e⟩
 | k::l,x,i,o,h=>by
  rw [rI] at h
  cases q:cY dc k x with
  | none=>rw [q] at h;cases h
  | some b=>
   rw [q] at h
   cases q':cD l x (i + 1) with
   | none=>rw [q'] at h;cases h
   | some o'=>
    rw [q'] at h
    have ih:=mw q'
    cases b with
    | false=>
     cases h
     refine ⟨fun j k' e=>?_,fun m e=>?_⟩
     ·cases j with
      | zero=>
       simp only [List.getElem?_cons_zero,Option.some.injEq] at e
       subst e
       rw [q,decide_eq_false]
       intro e
       have:=(ih.2 _ e).1
       omega
      | succ j=>
       simp only [List.getElem?_cons_succ] at e
       rw [ih.1 j k' e]
       congr 2
       rw [show i + 1 + j=i + (j + 1) by omega]
     ·have:=ih.2 m e
      simp only [List.length_cons];omega
    | true=>
     cases o' with
     | some m=>cases h
     | none=>
      cases h
      refine ⟨fun j k' e=>?_,fun m e=>?_⟩
      ·cases j with
       | zero=>
        simp only [List.getElem?_cons_zero,Option.some.injEq] at e
        subst e
        rw [q,decide_eq_true (by simp)]
       | succ j=>
        simp only [List.getElem?_cons_succ] at e
        rw [ih.1 j k' e]
        simp
      ·cases e
       simp
section
variable {C:Cfg} {X Pn:AP} {A:Around} {s:Shared} {E:Value→Shared→Prop}
theorem mn {w:World}:∀ {l:List V} {j:Nat} {k:V},l[j]?=some k→(hashVs w l)[j]?=some (hashV w k)
 | [],_,_,h=>by simp at h
 | a::l,0,k,h=>by simp only [List.getElem?_cons_zero,Option.some.injEq] at h;subst h;simp [hashVs]
 | a::l,j + 1,k,h=>by simp only [List.getElem?_cons_succ] at h;simp [hashVs,mn h]
structure uS (C:Cfg) (X:AP) (h:Heap) (ks:List V) (x:V) (o:Option Nat) (es:List DictEntry):Prop where
 at_:∀ j e,es[j]?=some e→∃ k,ks[j]?=some k∧keyOk 8 k=true∧RepV C X h k e.key∧e.hash=hashV C.w k∧cY dc k x=some (decide (o=some j))∧(o=some j↔k=x)
 hit:∀ m,o=some m→∃ e,es[m]?=some e∧e.hash=hashV C.w x∧RepV C X h x e.key
theorem ents {h:Heap} {ks:List V} {x:V} {o:Option Nat} {es:List DictEntry} (hks:RepVs C X h ks (es.map (·.key))) (hh:es.map (·.hash)=hashVs C.w ks) (hok:gy ks) (hf:cD ks x 0=some o):uS C X h ks x o es:=by
 have F:=mw hf
 have hlen:=hks.length
 rw [List.length_map] at hlen
 have A1:∀ j e,es[j]?=some e→∃ k,ks[j]?=some k∧keyOk 8 k=true∧RepV C X h k e.key∧e.hash=hashV C.w k∧cY dc k x=some (decide (o=some j))∧(o=some j↔k=x):=by
  intro j e he
  have hj:j < es.length:=(List.getElem?_eq_some_iff.mp he).1
  have hk:ks[j]?=some ks[j]:=List.getElem?_eq_getElem (by omega)
  obtain ⟨v,hv,hr⟩:=hks.get hk
  rw [List.getElem?_map,he] at hv
  cases hv
  have h1:=mn (w:=C.w) hk
  rw [← hh,List.getElem?_map,he] at h1
  have h2:=F.1 j _ hk
  rw [Nat.zero_add] at h2
  have hok':=hok ks[j] (List.getElem_mem _)
  refine ⟨_,hk,hok',hr,by simpa using h1,h2,?_⟩
  rw [← m8 _ _ _ _ _ hok' h2,decide_eq_true_eq]
 refine ⟨A1,fun m hm=>?_⟩
 have:=F.2 m hm
 have he:es[m]?=some es[m]:=List.getElem?_eq_getElem (by omega)
 obtain ⟨k,_,_,hr,hhash,_,hiff⟩:=A1 m _ he
 have:=hiff.mp hm
 subst this
 exact ⟨_,he,hhash,hr⟩
theorem uS.findIdx {h:Heap} {ks:List V} {x:V} {o:Option Nat} {es:List DictEntry} (N:uS C X h ks x o es) {p:DictEntry→Bool} (hp:∀ j e,es[j]?=some e→p e=decide (o=some j)):es.toArray.findIdx? p=o:=by
 cases o with
 | none=>
  refine Array.findIdx?_eq_none_iff.mpr fun e he=>?_
  obtain ⟨j,hj,rfl⟩:=Array.mem_iff_getElem.mp he
  have:=hp j es.toArray[j] (by simp)
  simpa using this
 | some m=>
  obtain ⟨e,he,_⟩:=N.hit m rfl
  obtain ⟨hm,he⟩:=List.getElem?_eq_some_iff.mp he
  refine Array.findIdx?_eq_some_iff_getElem.mpr ⟨by simpa using hm,?_,fun j hj=>?_⟩
  ·have:=hp m es[m] (by simp [hm])
   simpa using this
  ·have:=hp j es[j] (by simp [show j < es.length by omega])
   simp only [List.getElem_toArray,this,Option.some.injEq]
   simp;omega
theorem jz {d:Addr} {n:Nat} {es:List DictEntry} {ks:List V} {x:V} {key:Value} {o:Option Nat} {Q:Option Nat→Shared→Prop} (hd:s.heap.get? d=some (cH es n)) (hks:RepVs C X s.heap ks (es.map (·.key)))
  (hh:es.map (·.hash)=hashVs C.w ks) (hok:gy ks) (hx:keyOk 8 x=true) (hkey:RepV C X s.heap x key) (hu:A.units + 100 < cLine) (hf:cD ks x 0=some o) (hQ:Q o s):
  wpAny (model C.prog C.w) A (dictFind d key (hashV C.w x)) Q E s:=by
 have N:=ents hks hh hok hf
 rcases fe hx with ⟨i,rfl⟩ | ⟨i,rfl⟩ | ⟨l,m,rfl,_,hl⟩
 ·simp only [RepV] at hkey
  obtain ⟨t,rfl⟩:=hkey
  have K1:∀ j e,es[j]?=some e→∃ k u,e.key=.int k u∧e.hash=hashInt k∧(o=some j↔k=i):=by
   intro j e he
   obtain ⟨k,_,hk,hr,hhash,heq,hiff⟩:=N.at_ j e he
   obtain ⟨k,rfl⟩:=nX heq
   simp only [RepV] at hr
   obtain ⟨u,hr⟩:=hr
   exact ⟨k,u,hr,by simpa [hashV] using hhash,by rw [hiff];simp⟩
  refine wpAny_dictFind_of (knd:=intKind C.prog C.w) (k:=i) (by simp [intKind,Value.isInt]) hd rfl ?_ ?_
  ·intro e he
   obtain ⟨j,hj,rfl⟩:=Array.mem_iff_getElem.mp he
   obtain ⟨k,u,h1,h2,_⟩:=K1 j es.toArray[j] (by simp)
   exact ⟨k,by rw [h1];simp [intKind,Value.isInt],h2⟩
  ·rw [N.findIdx (fun j e he=>?_)]
   ·exact hQ
   ·obtain ⟨k,u,h1,_,h3⟩:=K1 j e he
    rw [h1]
    show (k==i)=_
    by_cases hki:k=i
    ·rw [decide_eq_true (h3.mpr hki)];simpa using hki
    ·rw [decide_eq_false (fun x=>hki (h3.mp x))];simpa using hki
 ·simp only [RepV] at hkey
  obtain ⟨y,t,rfl,rfl⟩:=hkey
  have K1:∀ j e,es[j]?=some e→∃ k u,e.key=.str k u∧e.hash=hashStr C.w k∧(o=some j↔k=y):=by
   intro j e he
   obtain ⟨k,_,hk,hr,hhash,heq,hiff⟩:=N.at_ j e he
   obtain ⟨k,rfl⟩:=nW heq
   simp only [RepV] at hr
   obtain ⟨z,u,hr,rfl⟩:=hr
   refine ⟨z,u,hr,by rw [iZ];simpa [hashV] using hhash,?_⟩
   rw [hiff]
   have:=toList_beq z y
   rw [Bool.eq_iff_iff] at this
   simpa using this
  have hsh:hashV C.w (.str y.cps.toList)=(PySem.strKind C.prog C.w).hash y:=by
   show _=hashStr C.w y
   rw [iZ];simp [hashV]
  rw [hsh]
  refine wpAny_dictFind_of (knd:=PySem.strKind C.prog C.w) (k:=y) (by simp [PySem.strKind,Value.isStrOf]) hd rfl ?_ ?_
  ·intro e he
   obtain ⟨j,hj,rfl⟩:=Array.mem_iff_getElem.mp he
   obtain ⟨k,u,h1,h2,_⟩:=K1 j es.toArray[j] (by simp)
   exact ⟨k,by rw [h1];simp [PySem.strKind,Value.isStrOf],h2⟩
  ·rw [N.findIdx (fun j e he=>?_)]
   ·exact hQ
   ·obtain ⟨k,u,h1,_,h3⟩:=K1 j e he
    rw [h1]
    show (k==y)=_
    by_cases hki:k=y
    ·rw [decide_eq_true (h3.mpr hki)];simpa using hki
    ·rw [decide_eq_false (fun x=>hki (h3.mp x))];simpa using hki
 ·have hrep:=hkey
  simp only [RepV] at hkey
  obtain ⟨a,vs,rfl,_,⟨_,na,hta⟩,_⟩:=hkey
  have K1:∀ j e,es[j]?=some e→∃ k b,RepV C X s.heap k e.key∧keyOk 8 k=true∧e.key=.ref b∧EqAt A s e.key (.ref a) (decide (o=some j))∧e.hash=hashV C.w k∧(o=some j↔k=.tup l)∧cY dc k (.tup l)=some (decide (o=some j)):=by
   intro j e he
   obtain ⟨k,_,hk,hr,hhash,heq,hiff⟩:=N.at_ j e he
   have E1:=(gr (Pn:=fun _=>False) _ _ _ _ _ _ A heq (.inl hr) (.inl hrep) (by show A.units + 60 < cLine;omega)).1
   rcases nV heq with rfl | ⟨k,rfl⟩
   ·cases hk
   ·have hr':=hr
    simp only [RepV] at hr
    obtain ⟨b,ws,hb,_⟩:=hr
    exact ⟨_,b,hr',hk,hb,E1,hhash,hiff,heq⟩
  have hany:¬(es.toArray.any fun e=>e.key==Value.ref a&&e.hash !=hashV C.w (.tup l))=true:=by
   rw [← Array.any_toList,List.any_eq_true]
   rintro ⟨e,hin,hc⟩
   obtain ⟨j,hj⟩:=List.mem_iff_getElem?.mp hin
   obtain ⟨k,b,hr,hk,hb,_,hhash,_,hr1⟩:=K1 j e (by simpa using hj)
   simp only [Bool.and_eq_true,beq_iff_eq,bne_iff_ne,ne_eq] at hc
   obtain ⟨h1,h2⟩:=hc
   rw [h1] at hr
   have:k=.tup l:=(m8 _ _ _ _ _ hk hr1).mp (jv (Pn:=fun _=>False) _ _ _ _ _ hr1 (.inl hr) (.inl hrep))
   subst this
   exact h2 hhash
  generalize hH:hashV C.w (.tup l)=H at *
  generalize hP:placesWithHash es.toArray.size (fun i=>es.toArray[i]?.map (·.hash)) H=places
  have hpl:∀ j∈places,∃ e,es[j]?=some e∧e.hash=H:=by
   intro j hj
   rw [← hP] at hj
   obtain ⟨_,hj⟩:=List.mem_filter.mp hj
   simp only [List.getElem?_toArray,beq_iff_eq,Option.map_eq_some_iff] at hj
   exact hj
  have hnd:places.Nodup:=by rw [← hP];exact List.nodup_range.filter _
  have hmem:∀ m,o=some m→m∈places:=by
   intro m hm
   obtain ⟨e,he,hh',_⟩:=N.hit m hm
   rw [hH] at hh'
   rw [← hP]
   refine List.mem_filter.mpr ⟨List.mem_range.mpr ?_,?_⟩
   ·simpa using (List.getElem?_eq_some_iff.mp he).1
   ·simp [he,hh']
  have hst:∀ v∈places.filterMap (fun i=>es.toArray[i]?.map (·.key)),∃ k,RepV C X s.heap k v∧keyOk 8 k=true:=by
   intro v hv
   obtain ⟨i,_,hi⟩:=List.mem_filterMap.mp hv
   simp only [List.getElem?_toArray,Option.map_eq_some_iff] at hi
   obtain ⟨e,he,rfl⟩:=hi
   obtain ⟨k,b,hr,hk,_⟩:=K1 i e he
   exact ⟨k,hr,hk⟩
  have hquiet:∀ (stored:List Value),(∀ v∈stored,∃ k,RepV C X s.heap k v∧keyOk 8 k=true)→∀ (Q:Bool→Shared→Prop),Q false s→wpAny (model C.prog C.w) A (tableMayTell (.ref a) stored) Q E s:=by
   intro stored hst Q hQ
   unfold tableMayTell
   split
   ·exact wpAny_pure hQ
   ·refine wpAny_bind (qp (C:=C) (X:=X) 8 _ _ _ _ _ _ hx hrep ?_)
    simp only [Bool.not_true,Bool.false_eq_true,if_false]
    refine wpAny_bind ?_
    refine wpAny_forIn_list _ (fun rest r s'=>s'=s∧r=(none,())∧∀ v∈rest,∃ k,RepV C X s.heap k v∧keyOk 8 k=true) _ ?_ ?_ _ _ ⟨rfl,rfl,hst⟩
    ·rintro x rest r s' ⟨rfl,rfl,hr⟩
     obtain ⟨k',hb,hk'⟩:=hr x List.mem_cons_self
     refine wpAny_bind (qp (C:=C) (X:=X) 8 _ _ _ _ _ _ hk' hb ?_)
     simp only [Bool.not_true,Bool.false_eq_true,if_false]
     exact wpAny_pure ⟨rfl,rfl,fun v hv=>hr v (List.mem_cons_of_mem _ hv)⟩
    ·rintro r s' ⟨rfl,rfl,_⟩
     exact wpAny_pure hQ
  unfold dictFind
  try with_reducible refine wpAny_holding ?_
  refine wpAny_bind (wpAny_dictEntries hd rfl ?_)
  dsimp only
  rw [hP]
  rw [if_neg (show ¬((Value.ref a::places.filterMap (fun i=>es.toArray[i]?.map (·.key))).all carriedByValue)=true by simp [carriedByValue])]
  rw [if_neg hany]
  by_cases hone:((places.filterMap (fun i=>es.toArray[i]?.map (·.key)))==[Value.ref a])=true <;>
  (first | rw [if_pos hone] | rw [if_neg hone]) <;> (first | refine wpAny_bind (wpAny_pure ?_) | refine wpAny_bind (hquiet _ hst _ ?_)) <;> (
   rw [if_neg (by simp)]
   refine wpAny_bind ?_
   refine wpAny_forIn_list _
    (fun rest b s'=>s'=s∧∃ done hit,b=(none,hit)∧places=done++rest∧((hit=none∧∀ j∈done,o≠some j)∨∃ j∈done,hit=some j∧o=some j)) _ ?_ ?_ _ _
    ⟨rfl,[],none,rfl,rfl,.inl ⟨rfl,fun _ h=>nomatch h⟩⟩
   ·rintro x rest b s' ⟨rfl,done,hit,rfl,hr,hI⟩
    obtain ⟨e,he,hh'⟩:=hpl x (by rw [hr];simp)
    have hea:es.toArray[x]?=some e:=by simpa using he
    obtain ⟨k,kb,hrk,hk,hb,E1,hhash,hiff,heq⟩:=K1 x e he
    have hxd:x∉done:=by
     rw [hr] at hnd
     exact fun h=>(List.nodup_append.mp hnd).2.2 x h x (by simp) rfl
    rw [hea]
    dsimp only
    rw [if_pos (by simpa using hh')]
    refine wpAny_bind (wpAny_dictEpoch hd rfl (wpAny_bind (E1 _ _ _ _ (wpAny_bind (wpAny_dictEpoch hd rfl ?_)))))
    rw [if_neg (by simp)]
    by_cases hox:o=some x
    ·rw [decide_eq_true hox]
     rcases hI with ⟨rfl,_⟩ | ⟨j,hj,_,hoj⟩
     ·first | rw [if_pos rfl] | skip
      simp only [Option.isSome_none,Bool.false_eq_true,if_false]
      first | refine wpAny_bind (wpAny_pure ?_) | skip
      refine wpAny_bind (wpAny_rule ?_)
      split
      ·exact wpAny_pure (wpAny_pure (hox ▸ hQ))
      ·exact wpAny_pure ⟨rfl,done++[x],some x,rfl,by simp [hr],.inr ⟨x,by simp,rfl,hox⟩⟩
     ·rw [hox] at hoj
      cases hoj
      exact absurd hj hxd
    ·rw [decide_eq_false hox]
     have hI':((hit=none∧∀ j∈done++[x],o≠some j)∨∃ j∈done++[x],hit=some j∧o=some j):=by
      rcases hI with ⟨h0,hno⟩ | ⟨j,hj,h1,h2⟩
      ·refine .inl ⟨h0,fun j hj=>?_⟩
       rcases List.mem_append.mp hj with hj | hj
       ·exact hno j hj
       ·simp only [List.mem_singleton] at hj;subst hj;exact hox
      ·exact .inr ⟨j,by simp [hj],h1,h2⟩
     simp only [Bool.false_eq_true,if_false]
     refine wpAny_bind (wpAny_rule ?_)
     first | rw [if_neg (by simp)] | skip
     first
      | exact wpAny_pure ⟨rfl,done++[x],hit,rfl,by simp [hr],hI'⟩
      | exact wpAny_bind (wpAny_pure (wpAny_pure ⟨rfl,done++[x],hit,rfl,by simp [hr],hI'⟩))
   ·rintro b s' ⟨rfl,done,hit,rfl,hr,hI⟩
    rw [List.append_nil] at hr
    subst hr
    rcases hI with ⟨rfl,hno⟩ | ⟨j,hj,rfl,hoj⟩
    ·have:o=none:=by
      cases o with
      | none=>rfl
      | some m=>exact absurd rfl (hno m (hmem m rfl))
     subst this
     exact wpAny_pure hQ
    ·subst hoj
     exact wpAny_pure hQ)
end
end Mine
namespace Mine
open PySem PySem.Calls PyProof.Rows PySem.SeqAt PySem.MeetsSeq PySem.MeetsSeq2 PySem.MeetsSeq3 PySem.SeqRoads2
open AutoSeq1 (wpAny_loadPart')
def kL (A:Around) (s:Shared) (x:Value):List Value→Bool→Prop
 | y::ys,r=>(EqAt A s y x true∧r=true)∨(EqAt A s y x false∧kL A s x ys r)
 | [],r=>r=false
theorem lT (l:Addr) (items:List Value) (n:Nat) (x:Value) (r:Bool):
  Meets (Builtin.«tuple.__contains__» ⟨[.ref l,x],[]⟩)
   (fun A R s=>s.heap.get? l=some { cls:=.type "tuple",dict:=none,data:=.seq items.toArray n,slots:=#[] }∧kL A.in1 s x items r∧R (.ok (.ret (.bool r))) s):=
 .of_wp fun prog w A R s h=>by
  obtain ⟨hp,g,d,tk,os⟩:=s;obtain ⟨hl,he,h⟩:=h
  wp_walk using wpAny_loadPart' hl,wpAny_forIn_array _ (fun rest b s'=>b.1=none∧s'=⟨hp,g,d,tk,os⟩∧kL A.in1 ⟨hp,g,d,tk,os⟩ x rest r) _
  case turn=>
   rintro y rest b s' ⟨hb,rfl,hR⟩
   rcases hR with ⟨e,rfl⟩ | ⟨e,hR⟩
   ·refine wpAny_bind (e prog w _ _ ?_)
    wp_walk
    exact ⟨_,rfl,h⟩
   ·refine wpAny_bind (e prog w _ _ ?_)
    wp_walk
    exact ⟨rfl,rfl,hR⟩
  case fin=>
   rintro ⟨b1,b2⟩ s' ⟨hb,rfl,hR⟩
   simp only at hb
   subst hb
   have hr:r=false:=hR
   subst hr
   wp_walk
   exact ⟨_,rfl,by simpa using h⟩
  case h=>
   exact ⟨rfl,rfl,by simpa using he⟩
theorem j7 (l:Addr) (items:List Value) (n:Nat) (x:Value) (r:Bool) (k:Nat):
  ∀ i:Nat,items.length - i=k→Meets (Builtin.«list.__contains__.loop» ⟨[.ref l,x,rawInt i],[]⟩)
   (fun A R s=>s.heap.get? l=some { cls:=.type "list",dict:=none,data:=.seq items.toArray n,slots:=#[] }∧kL A.in1 s x (items.drop i) r∧R (.ok (.ret (.bool r))) s):=by
 induction k with
 | zero=>
  intro i hk prog w A R s h
  obtain ⟨hp,g,d,tk,os⟩:=s;obtain ⟨hl,he,h⟩:=h
  wp_walk using wpAny_loadPart' hl
  have hi:items.toArray[((i:Nat):Int).toNat]?=none:=by simp;omega
  have hd:items.drop i=[]:=by simp;omega
  rw [hd] at he
  have hr:r=false:=he
  subst hr
  rw [hi]
  wp_walk
  exact h
 | succ k ih=>
  intro i hk prog w A R s h
  obtain ⟨hp,g,d,tk,os⟩:=s;obtain ⟨hl,he,h⟩:=h
  wp_walk using wpAny_loadPart' hl
  have hlt:i < items.length:=by omega
  have hi:items.toArray[((i:Nat):Int).toNat]?=some items[i]:=by rw [Int.toNat_natCast,List.getElem?_toArray,List.getElem?_eq_getElem hlt]
  have hd:items.drop i=items[i]::items.drop (i + 1):=List.drop_eq_getElem_cons hlt
  rw [hd] at he
  rw [hi]
  rcases he with ⟨e,rfl⟩ | ⟨e,he⟩
  ·refine wpAny_bind (e prog w _ _ ?_)
   wp_walk
   exact h
  ·refine wpAny_bind (e prog w _ _ ?_)
   have hc:((i:Int) + 1)=((i + 1:Nat):Int):=by push_cast;rfl
   wp_walk
   rw [hc]
   exact ⟨plainId_quiet plain_contains_loop _,codeAny_builtin entry_contains_loop (by
    rw [Around.under_plainId plain_contains_loop _]
    exact ih (i + 1) (by omega) prog w A R _ ⟨hl,he,h⟩)⟩
theorem mT (l:Addr) (items:List Value) (n:Nat) (x:Value) (r:Bool):
  Meets (Builtin.«list.__contains__» ⟨[.ref l,x],[]⟩)
   (fun A R s=>s.heap.get? l=some { cls:=.type "list",dict:=none,data:=.seq items.toArray n,slots:=#[] }∧kL A.in1 s x items r∧R (.ok (.ret (.bool r))) s):=by
 intro prog w A R s h
 obtain ⟨hp,g,d,tk,os⟩:=s;obtain ⟨hl,he,h⟩:=h
 wp_walk using wpAny_loadPart' hl
 exact ⟨plainId_quiet plain_contains_loop _,codeAny_builtin entry_contains_loop (by
  rw [Around.under_plainId plain_contains_loop _]
  exact j7 l items n x r _ 0 rfl prog w A R _ ⟨hl,he,h⟩)⟩
section
variable {C:Cfg} {X Pn:AP} {s s':Shared} {A:Around} {n:Nat} {p:List V} {Q E:Value→Shared→Prop}
theorem aZ.units (P:aZ C n X Pn p A s):A.units + 500 < cLine:=by have:=P.room.units;omega
theorem fO {o:Option Bool} {v:V} (h:kJ o=some v):∃ b,o=some b∧v=.bool b:=by
 cases o with
 | none=>cases h
 | some b=>cases h;exact ⟨b,rfl,rfl⟩
theorem nz {o:Option Bool} {b:Bool} (h:tX o=some b):o=some (!b):=by
 cases o with
 | none=>cases h
 | some c=>
  have:some (jd c)=some b:=h
  rw [iQ] at this
  cases this;simp
theorem An:d9 C aF (compareOp .Eq):=by
 intro n X Pn p s A Q E a b v va vb P hf ha hb h
 obtain ⟨r,hr,rfl⟩:=fO hf
 have:=P.units
 exact (gr _ _ _ _ _ _ A hr ha hb (by show A.units + 60 < cLine;omega)).2 _ _ _ _ (dH rfl h)
theorem Bj:∀ (n:Nat) (a b:V) (r:Bool) (x y:Value) (A:Around),cY n a b=some r→bx C X Pn s.heap a x→bx C X Pn s.heap b y→A.units + n < cLine→RcNeAt A s x y (!r)
 | 0,_,_,_,_,_,_,h,_,_,_=>by cases h
 | n + 1,a,b,r,x,y,A,h,ha,hb,hu=>by
  have hL:∀ (xs ys:List V) (vs ws:List Value) (r:Bool),nI (cY n) xs ys=some r→RepVs C X s.heap xs vs→RepVs C X s.heap ys ws→eR A.in1 s vs ws r:=by
   intro xs
   induction xs with
   | nil=>
    intro ys vs ws r h hx hy
    simp only [RepVs] at hx;subst hx
    cases ys with
    | nil=>simp only [RepVs] at hy;subst hy;cases h;rfl
    | cons y ys=>simp only [RepVs] at hy;obtain ⟨v,rest,rfl,_⟩:=hy;cases h;rfl
   | cons u us ih=>
    intro ys vs ws r h hx hy
    simp only [RepVs] at hx
    obtain ⟨v,rest,rfl,h1,h2⟩:=hx
    cases ys with
    | nil=>simp only [RepVs] at hy;subst hy;cases h;rfl
    | cons y ys=>
     simp only [RepVs] at hy
     obtain ⟨v',rest',rfl,h1',h2'⟩:=hy
     rw [jw] at h
     cases hf:cY n u y with
     | none=>rw [hf] at h;cases h
     | some q=>
      rw [hf] at h
      have e:=(gr (Pn:=Pn) n u y q v v' A.in1 hf (.inl h1) (.inl h1') (by show A.units + 1 + n < cLine;omega)).1
      cases q with
      | true=>exact .inl ⟨e,ih ys rest rest' r h h2 h2'⟩
      | false=>cases h;exact .inr ⟨e,rfl⟩
  have hu':A.units < cLine:=by omega
  cases a <;> cases b <;> simp only [cY] at h <;> (try cases h)
  case none.none=>rw [ha.none,hb.none];exact RcNeAt.none_none
  case none.tup l=>
   obtain ⟨a,vs,rfl,h1,_⟩:=hb.tup;rw [ha.none]
   exact RcNeAt.none_tuple h1.ec hu'
  case bool.bool u v=>
   rw [ha.bool,hb.bool]
   have e:(@Bool.rec (fun _=>Bool) (jd v) v u)=(u==v):=by cases u <;> cases v <;> rfl
   rw [e]
   exact RcNeAt.bool_bool _ _
  case int.int u v=>
   obtain ⟨t,rfl⟩:=ha.int;obtain ⟨t',rfl⟩:=hb.int
   rw [kd]
   exact RcNeAt.int_int _ _ _ _
  case str.str u v=>
   obtain ⟨y,t,rfl,rfl⟩:=ha.str;obtain ⟨y',t',rfl,rfl⟩:=hb.str
   rw [qj]
   exact RcNeAt.str_str _ _ _ _
  case tup.none l=>
   obtain ⟨a,vs,rfl,h1,_⟩:=ha.tup;rw [hb.none]
   exact RcNeAt.tuple_none h1.ec hu'
  case tup.tup u v=>
   obtain ⟨y,vs,rfl,⟨_,n1,ho⟩,h2⟩:=ha.tup;obtain ⟨y',vs',rfl,⟨_,n2,ho2⟩,h2'⟩:=hb.tup
   intro prog w E Q hQ
   exact richCompare_meets_room (op:=.NotEq) ⟨_,ho,rfl⟩ ⟨_,ho2,rfl⟩ F.slot_tuple_ne F.entry_tuple_ne (F.args_tuple_ne_2 _ _) (rZ y y' vs vs' n1 n2 r)
    ⟨ho,ho2,hL u v vs vs' r h h2 h2',show Value.bool (!r)≠Value.notImplemented∧Q (.bool (!r)) s from ⟨(fun x=>nomatch x),hQ⟩⟩ hu'
  case lst.lst u v=>
   obtain ⟨y,vs,rfl,h1,h2⟩:=ha.lst;obtain ⟨y',vs',rfl,h1',h2'⟩:=hb.lst
   have hl:=h2.length;have hl':=h2'.length
   rcases gb h with ⟨hz,h⟩ | ⟨hz,h⟩
   ·have:=Nat.eq_of_beq_eq_true hz
    rw [bD,bD] at this
    obtain ⟨_,n1,ho⟩:=h1;obtain ⟨_,n2,ho2⟩:=h1'
    intro prog w E Q hQ
    exact richCompare_meets_room (op:=.NotEq) ⟨_,ho,rfl⟩ ⟨_,ho2,rfl⟩ F.slot_list_ne F.entry_list_ne (F.args_list_ne_2 _ _) (t8 y y' vs vs' n1 n2 r (by omega))
     ⟨ho,ho2,hL u v vs vs' r h h2 h2',show Value.bool (!r)≠Value.notImplemented∧Q (.bool (!r)) s from ⟨(fun x=>nomatch x),hQ⟩⟩ hu'
   ·have:=Nat.ne_of_beq_eq_false hz
    rw [bD,bD] at this
    cases h
    exact RcNeAt.lists_lengths h1.isList h1'.isList (by simp;omega) hu'
theorem Ag:d9 C cF (compareOp .NotEq):=by
 intro n X Pn p s A Q E a b v va vb P hf ha hb h
 obtain ⟨r,hr,rfl⟩:=fO hf
 have hr':=nz hr
 have:=P.units
 exact Bj _ _ _ _ _ _ A hr' ha hb (by show A.units + 60 < cLine;omega) _ _ _ _ (dH (by simp) h)
theorem mV {A:Around} {x:V} {vx:Value} (hx:bx C X Pn s.heap x vx) (hu:A.units + dc < cLine):∀ {l:List V} {vs:List Value} {r:Bool},sS x l=some r→RepVs C X s.heap l vs→kL A s vx vs r
 | [],vs,r,h,hl=>by simp only [RepVs] at hl;subst hl;cases h;rfl
 | y::l,vs,r,h,hl=>by
  simp only [RepVs] at hl
  obtain ⟨v,rest,rfl,h1,h2⟩:=hl
  have e:sS x (y::l)=@Option.rec Bool (fun _=>Option Bool) none (fun b=>@Bool.rec (fun _=>Option Bool) (sS x l) (some true) b) (cY dc y x):=rfl
  rw [e] at h
  cases q:cY dc y x with
  | none=>rw [q] at h;cases h
  | some b=>
   rw [q] at h
   have E1:=(gr (Pn:=Pn) _ _ _ _ _ _ A q (.inl h1) hx hu).1
   cases b with
   | true=>cases h;exact .inl ⟨E1,rfl⟩
   | false=>exact .inr ⟨E1,mV hx hu h h2⟩
end
end Mine
namespace Mine
open PySem PySem.Calls PyProof.Rows PySem.SeqAt PySem.SeqRoads2
section
variable {C:Cfg} {X Pn:AP} {s s':Shared} {A:Around} {n:Nat} {p:List V} {Q E:Value→Shared→Prop}
theorem ki {d:Addr} {es:List DictEntry} {ks:List V} {x:V} {key:Value} {o:Option Nat} {Q:Option Value→Shared→Prop} (hd:dE s.heap d es) (hks:RepVs C X s.heap ks (es.map (·.key)))
  (hh:es.map (·.hash)=hashVs C.w ks) (hok:gy ks) (hx:keyOk 8 x=true) (hkey:RepV C X s.heap x key) (hu:A.units + 100 < cLine) (hf:cD ks x 0=some o)
  (hQ:∀ tk,Q (o.bind fun i=>es[i]?.map (·.val)) { s with toks:=tk }):wpAny (model C.prog C.w) A (dictGet d key) Q E s:=by
 obtain ⟨_,n,hd⟩:=hd
 unfold dictGet
 try with_reducible refine wpAny_holding ?_
 refine wpAny_bind (lB (C:=C) (X:=X) 8 x key _ _ _ _ hx hkey (by omega) fun tk=>wpAny_bind (jz (C:=C) (X:=X) (s:={ s with toks:=tk }) hd hks hh hok hx hkey hu hf ?_))
 cases o with
 | none=>exact wpAny_pure (hQ tk)
 | some i=>
  refine wpAny_bind (wpAny_dictEntries (s:={ s with toks:=tk }) hd rfl ?_)
  exact wpAny_pure (by simpa using hQ tk)
theorem bx.pd {x:V} {v:Value} {h:Heap} (hx:keyOk 8 x=true) (r:bx C X Pn h x v):RepV C X h x v:=by
 rcases r with r | ⟨a,_,_,r⟩
 ·exact r
 ·rcases fe hx with ⟨i,rfl⟩ | ⟨i,rfl⟩ | ⟨l,m,rfl,_⟩ <;> simp [OwnR] at r
theorem pH {d:Addr} {es:List DictEntry} {ks:List V} {x:V} {key:Value} {o:Option Nat} {Q:Bool→Shared→Prop} (hd:dE s.heap d es) (hks:RepVs C X s.heap ks (es.map (·.key)))
  (hh:es.map (·.hash)=hashVs C.w ks) (hok:gy ks) (hx:keyOk 8 x=true) (hkey:RepV C X s.heap x key) (hu:A.units + 200 < cLine) (hf:cD ks x 0=some o)
  (hQ:∀ tk,Q o.isSome { s with toks:=tk }):wpAny (model C.prog C.w) A (contains (.ref d) key) Q E s:=by
 have hT:s.TypeIs (.ref d) "dict" := let ⟨_,n,hd⟩:=hd;⟨_,hd,rfl⟩
 have N:=ents hks hh hok hf
 unfold contains
 try with_reducible refine wpAny_holding ?_
 refine wpAny_bind (wpAny_specialOf hT slot_dict_contains.lookup ?_)
 show wpAny _ _ (if (some (Value.builtin "dict.__contains__")==some Value.none)=true then _ else _) _ E s
 rw [if_neg (by rw [beq_builtin_none];exact Bool.false_ne_true)]
 refine wpAny_bind (wpAny_callSpecialUnlessNone?_slot (name:=Str.ofString "__contains__") hT slot_dict_contains
  (wpAny_call_entry slot_dict_contains hT entry_dict_contains ?_ (args_dict_contains _ _)))
 show wpAny _ _ (dictGet d key >>= _) _ _ s
 refine wpAny_bind (ki hd hks hh hok hx hkey (by show A.units + 1 + 100 < cLine;omega) hf fun tk=>?_)
 cases o with
 | some m=>
  obtain ⟨e,he,_⟩:=N.hit m rfl
  rw [show (some m).bind (fun i=>es[i]?.map (·.val))=some e.val by simp [he]]
  show wpAny _ _ (ret (.bool true)) _ _ _
  exact wpAny_pure ⟨_,rfl,wpAny_truthy_bool (hQ tk)⟩
 | none=>
  show wpAny _ _ (Builtin.Dict.pendingKey? d key >>= _) _ _ _
  exact wpAny_bind (wpAny_pendingKey_other hd.1.1 (wpAny_pure ⟨_,rfl,wpAny_truthy_bool (hQ tk)⟩))
theorem qB {x c:V} {r:Bool} {vx vc:Value} (P:aZ C n X Pn p A s) (hf:u0 x c=some r) (hx:bx C X Pn s.heap x vx) (hc:bx C X Pn s.heap c vc) {Q:Bool→Shared→Prop} (hQ:∀ tk,Q r { s with toks:=tk }):
  wpAny (model C.prog C.w) A (contains vc vx) Q E s:=by
 have hu:=P.units
 cases c <;> simp only [u0] at hf <;> (try cases hf)
 case tup l=>
  obtain ⟨a,vs,rfl,⟨_,k,ht⟩,hl⟩:=hc.tup
  have hR:=mV (A:=A.in1) hx (by show A.units + 1 + 60 < cLine;omega) hf hl
  refine wpAny_contains_slot ⟨_,ht,rfl⟩ F.slot_tuple_contains (call_meets F.slot_tuple_contains ⟨_,ht,rfl⟩ F.entry_tuple_contains (F.args_tuple_contains_2 _ _) (lT a vs k vx r) ⟨ht,hR,wpAny_truthy_bool (hQ _)⟩)
 case lst l=>
  obtain ⟨a,vs,rfl,⟨_,k,ht⟩,hl⟩:=hc.lst
  have hR:=mV (A:=A.in1) hx (by show A.units + 1 + 60 < cLine;omega) hf hl
  refine wpAny_contains_slot ⟨_,ht,rfl⟩ F.slot_list_contains (call_meets F.slot_list_contains ⟨_,ht,rfl⟩ F.entry_list_contains (F.args_list_contains_2 _ _) (mT a vs k vx r) ⟨ht,hR,wpAny_truthy_bool (hQ _)⟩)
 case aQ ks vs=>
  obtain ⟨d,es,rfl,hd,h1,h2,h3,h4⟩:=hc.aQ
  cases hk:keyOk 8 x with
  | false=>rw [hk] at hf;cases hf
  | true=>
   rw [hk] at hf
   cases hq:cD ks x 0 with
   | none=>rw [hq] at hf;cases hf
   | some o=>
    rw [hq] at hf
    have e:r=o.isSome:=by cases o <;> cases hf <;> rfl
    subst e
    exact pH hd h1 h3 h4 hk (hx.pd hk) (by omega) hq hQ
theorem Ak:d9 C kc (compareOp .In):=by
 intro n X Pn p s A Q E a b v va vb P hf ha hb h
 obtain ⟨r,hr,rfl⟩:=fO hf
 show wpAny _ _ (do return .bool (← contains vb va)) Q E s
 exact wpAny_bind (qB P hr ha hb fun tk=>wpAny_pure (h _ _ (.toks _) (by simp [RepV])))
theorem xI:d9 C tY (compareOp .NotIn):=by
 intro n X Pn p s A Q E a b v va vb P hf ha hb h
 obtain ⟨r,hr,rfl⟩:=fO hf
 have hr:=nz hr
 show wpAny _ _ (do return .bool (!(← contains vb va))) Q E s
 exact wpAny_bind (qB P hr ha hb fun tk=>wpAny_pure (h _ _ (.toks _) (by simp [RepV])))
theorem mi {l:List V} {i:Int} {v:V} (h:rE l i=some v):∃ k,seqIndex? i l.length=some k∧l[k]?=some v∧k < l.length∧(-(l.length:Int)≤i∧i < l.length):=by
 cases i with
 | ofNat n=>
  have h:dM l n=some v:=h
  rw [fq] at h
  have hn:=(List.getElem?_eq_some_iff.mp h).1
  refine ⟨n,?_,h,hn,by simp only [Int.ofNat_eq_natCast];omega⟩
  simp only [seqIndex?,Int.ofNat_eq_natCast,show ¬((n:Int) < 0) by omega,if_false]
  rw [if_pos (by simp;omega)];simp
 | negSucc n=>
  have h:@Bool.rec (fun _=>Option V) none (dM l (Nat.pred (Nat.sub (cW l) n))) (Nat.blt n (cW l))=some v:=h
  obtain ⟨h1,h2⟩:=cJ h
  rw [blt_dec,decide_eq_true_eq,bD] at h1
  rw [fq,bD] at h2
  have hlt:Nat.pred (Nat.sub l.length n) < l.length:=(List.getElem?_eq_some_iff.mp h2).1
  have hp:Nat.pred (Nat.sub l.length n)=l.length - n - 1:=rfl
  rw [hp] at h2 hlt
  refine ⟨_,?_,h2,hlt,by rw [Int.negSucc_eq];omega⟩
  simp only [seqIndex?,Int.negSucc_lt_zero,if_true,Int.negSucc_eq]
  rw [if_pos (by simp;omega)]
  congr 1;omega
theorem kA {value slice:Expr} {o i:Value} {T id:String} (hT:s.TypeIs o T) (hl:typeLookup (.type T) "__getitem__" = pure (some (.builtin id))) (h:wpAny (model C.prog C.w) A (getItem o i) Q E s):
  wpAny (model C.prog C.w) A (subscriptTail value slice o i) Q E s:=by
 have hs:∃ ops,subscripted slice false o i=operate ops (getItem o i):=by
  cases slice
  case Slice lo hi st p=>cases st <;> exact ⟨_,rfl⟩
  all_goals exact ⟨_,rfl⟩
 obtain ⟨ops,hs⟩:=hs
 unfold subscriptTail
 refine wpAny_bind ?_
 rw [getitemInPython_of_ne hT.not_modules]
 refine wpAny_bind (wpAny_specialOf hT hl ?_)
 have fin:wpAny (model C.prog C.w) A (subscripted slice false o i) (fun r aP=>wpAny (model C.prog C.w) A (letTemporaryGo value o r >>= fun _=>pure r) Q E aP) E s:=by
  rw [hs]
  exact wpAny_operating (wpAny_mono h (fun r aP iJ=>wpAny_bind (wpAny_letTemporaryGo (wpAny_pure iJ))) fun _ _ x=>x)
 first
  | exact wpAny_pure (wpAny_bind fin)
  | exact wpAny_bind (wpAny_pure (wpAny_bind fin))
  | exact wpAny_bind fin
theorem listItem {a:Addr} {vs:List Value} {i:Int} {t:Tok} {k:Nat} {y:Value} (hl:LstAt s.heap a vs) (hi:-(vs.length:Int)≤i∧i < vs.length) (hk:seqIndex? i vs.length=some k) (hy:vs[k]?=some y) (h:Q y s):
  wpAny (model C.prog C.w) A (getItem (.ref a) (.int i t)) Q E s:=by
 have hz:=hl.1
 have hm:most=8000:=rfl
 by_cases h0:0≤i
 ·have e:k=i.toNat:=by
   simp only [seqIndex?,show ¬(i < 0) by omega,if_false] at hk
   rw [if_pos (by simp;omega)] at hk
   cases hk;rfl
  subst e
  exact wpAny_getItem_list hl.isList h0 (by omega) (by simpa using hy) h
 ·have e:=seqIndex_neg (k:=i) (n:=vs.length) (by omega) (by omega)
  rw [e] at hk
  cases hk
  exact wpAny_getItem_list_neg hl.isList (by omega) (by simp;omega) (by omega) (by simpa using hy) h
theorem uy {d:Addr} {es:List DictEntry} {ks:List V} {x:V} {key:Value} {m:Nat} {v:Value} (hd:dE s.heap d es) (hks:RepVs C X s.heap ks (es.map (·.key)))
  (hh:es.map (·.hash)=hashVs C.w ks) (hok:gy ks) (hx:keyOk 8 x=true) (hkey:RepV C X s.heap x key) (hu:A.units + 200 < cLine) (hf:cD ks x 0=some (some m)) (hm:(es.map (·.val))[m]?=some v)
  (hQ:∀ tk,Q v { s with toks:=tk }):wpAny (model C.prog C.w) A (getItem (.ref d) key) Q E s:=by
 have hT:s.TypeIs (.ref d) "dict" := let ⟨_,n,hd⟩:=hd;⟨_,hd,rfl⟩
 unfold getItem
 try with_reducible refine wpAny_holding ?_
 refine wpAny_bind (wpAny_sequenceKey hT (by decide) ?_)
 refine wpAny_bind (wpAny_callSpecial?_slot (name:=Str.ofString "__getitem__") hT slot_dict_getitem
  (wpAny_call_entry slot_dict_getitem hT entry_dict_getitem ?_ (args_dict_getitem _ _)))
 show wpAny _ _ (dictGet d key >>= _) _ _ s
 refine wpAny_bind (ki hd hks hh hok hx hkey (by show A.units + 1 + 100 < cLine;omega) hf fun tk=>?_)
 rw [List.getElem?_map] at hm
 rw [show (some m).bind (fun i=>es[i]?.map (·.val))=some v from hm]
 exact wpAny_pure ⟨_,rfl,wpAny_pure (hQ tk)⟩
theorem sQ {o i v:V} {vo vi:Value} (P:aZ C n X Pn p A s) (hf:ah o i=some v) (ho:bx C X Pn s.heap o vo) (hi:bx C X Pn s.heap i vi)
  (h:∀ val s',Kp s s'→RepV C X s'.heap v val→Q val s'):
  ∃ T id,s.TypeIs vo T∧typeLookup (.type T) "__getitem__" = pure (some (.builtin id))∧wpAny (model C.prog C.w) A (getItem vo vi) Q E s:=by
 have hu:=P.units
 have hm:most=8000:=rfl
 cases o <;> simp only [ah] at hf <;> (try cases hf)
 case tup l=>
  cases i <;> simp only at hf <;> (try cases hf)
  case int i=>
   obtain ⟨t,rfl⟩:=hi.int
   obtain ⟨a,vs,rfl,⟨hz,k,ht⟩,hl⟩:=ho.tup
   obtain ⟨j,hj,hv,hlt,hb⟩:=mi hf
   obtain ⟨y,hy,hr⟩:=hl.get hv
   have hlen:=hl.length
   exact ⟨"tuple",_,⟨_,ht,rfl⟩,slot_tuple_getitem.lookup,PySem.P.getItem_tuple ht (by omega) (by omega) (by simpa [hlen] using hj) (by simpa using hy) (h _ _ .refl hr)⟩
 case lst l=>
  cases i <;> simp only at hf <;> (try cases hf)
  case int i=>
   obtain ⟨t,rfl⟩:=hi.int
   obtain ⟨a,vs,rfl,ht,hl⟩:=ho.lst
   obtain ⟨j,hj,hv,hlt,hb⟩:=mi hf
   obtain ⟨y,hy,hr⟩:=hl.get hv
   have hlen:=hl.length
   exact ⟨"list",_,let ⟨_,k,e⟩:=ht;⟨_,e,rfl⟩,list_getitem_lookup,listItem ht (by rw [hlen];exact hb) (by rw [hlen];exact hj) hy (h _ _ .refl hr)⟩
 case aQ ks vs=>
  obtain ⟨d,es,rfl,hd,h1,h2,h3,h4⟩:=ho.aQ
  cases hk:keyOk 8 i with
  | false=>rw [hk] at hf;cases hf
  | true=>
   rw [hk] at hf
   cases hq:cD ks i 0 with
   | none=>rw [hq] at hf;cases hf
   | some o=>
    rw [hq] at hf
    cases o with
    | none=>cases hf
    | some m=>
     have hf:dM vs m=some v:=hf
     rw [fq] at hf
     obtain ⟨y,hy,hr⟩:=h2.get hf
     exact ⟨"dict",_,let ⟨_,k,e⟩:=hd;⟨_,e,rfl⟩,slot_dict_getitem.lookup,
      uy hd h1 h3 h4 hk (hi.pd hk) (by omega) hq hy fun tk=>h _ _ (.toks _) hr⟩
theorem qt {value slice:Expr}:d9 C ah (subscriptTail value slice):=by
 intro n X Pn p s A Q E a b v va vb P hf ha hb h
 obtain ⟨T,id,h1,h2,h3⟩:=sQ (Q:=Q) (E:=E) P hf ha hb h
 exact kA h1 h2 h3
end
end Mine
namespace Mine
open PySem PySem.Calls PyProof.Rows
section
variable {C:Cfg} {cx:Cx} {b:Bool} {X Pn:AP} {s s':Shared} {A:Around} {n:Nat} {ρ:Fr} {p p':List V} {env:Env} {Q E:Value→Shared→Prop}
def bp (C:Cfg) (X Pn:AP) (r:Res) (K:V→Shared→Prop) (E:Value→Shared→Prop) (s:Shared):Prop:=
 r≠.stuck∧(∀ v p,r=.ok v p→∀ s',Nx C Pn s s'→aY C X Pn s'.heap p→K v s')∧
 (∀ k p,r=.exc k p→∀ e s',Nx C Pn s s'→aY C X Pn s'.heap p→fQ C s.heap k s'.heap e→E e s')
def qu (C:Cfg) (b:Bool) (X Pn:AP) (Q:Value→Shared→Prop) (v:V) (s':Shared):Prop:=∀ val,gE b C X Pn s'.heap v val→Q val s'
def nv (Q:Bool→Shared→Prop) (v:V) (s':Shared):Prop:=∃ b,v=.bool b∧Q b s'
theorem Ends.g {r:Res} (N:Ends C b X Pn r Q E s):bp C X Pn r (qu C b X Pn Q) E s:=
 ⟨N.1,fun v p e s' hn hp val hv=>N.2.1 v p e val s' hn hp hv,N.2.2⟩
theorem bp.e {r:Res} (N:bp C X Pn r (qu C b X Pn Q) E s):Ends C b X Pn r Q E s:=
 ⟨N.1,fun v p e val s' hn hp hv=>N.2.1 v p e s' hn hp val hv,N.2.2⟩
abbrev rU (C:Cfg) (X Pn:AP) (r:Res) (Q:Bool→Shared→Prop) (E:Value→Shared→Prop) (s:Shared):Prop:=bp C X Pn r (nv Q) E s
theorem bp.bind {r:Res} {K:V→List V→Res} {O O1:V→Shared→Prop} (N:bp C X Pn (@Res.rec (fun _=>Res) Res.stuck K Res.exc r) O E s)
  (h:∀ v p₁ s₁,r=.ok v p₁→Nx C Pn s s₁→aY C X Pn s₁.heap p₁→bp C X Pn (K v p₁) O E s₁→O1 v s₁):bp C X Pn r O1 E s:=by
 cases hr:r with
 | stuck=>rw [hr] at N;exact absurd rfl N.1
 | exc k q=>
  rw [hr] at N
  exact ⟨by simp,fun _ _ e=>(nomatch e),fun k' p' e e' s' hn hp hx=>N.2.2 k' p' (by cases e;rfl) e' s' hn hp hx⟩
 | ok v q=>
  rw [hr] at N
  refine ⟨by simp,fun v' p₁ e s₁ hn hp=>?_,fun _ _ e=>(nomatch e)⟩
  cases e
  exact h v q s₁ hr hn hp ⟨N.1,fun v' p' e s' hn'=>N.2.1 v' p' e s' (hn.trans hn'),fun k p' e e' s' hn' hp' hx=>N.2.2 k p' e e' s' (hn.trans hn') hp' (hx.back fun b o eb=>hn.ext.lt hp b ⟨o,eb⟩)⟩
theorem bp.cM {r:Res} {K:V→List V→Res} {O:V→Shared→Prop} {Q₁:Bool→Shared→Prop} (N:bp C X Pn (@Res.rec (fun _=>Res) Res.stuck K Res.exc r) O E s)
  (hK:∀ v p,K v p≠.stuck→∃ q,v=.bool q)
  (h:∀ q p₁ s₁,r=.ok (.bool q) p₁→Nx C Pn s s₁→aY C X Pn s₁.heap p₁→bp C X Pn (K (.bool q) p₁) O E s₁→Q₁ q s₁):rU C X Pn r Q₁ E s:=
 N.bind fun v p₁ s₁ hr hn hp N1=>by
  obtain ⟨q,rfl⟩:=hK v p₁ N1.1
  exact ⟨q,rfl,h q p₁ s₁ hr hn hp N1⟩
theorem bp.mono {r:Res} {O O1:V→Shared→Prop} (N:bp C X Pn r O E s) (h:∀ v s',O v s'→O1 v s'):bp C X Pn r O1 E s:=
 ⟨N.1,fun v p e s' hn hp=>h v s' (N.2.1 v p e s' hn hp),N.2.2⟩
theorem bp.gF {v:V} {O:V→Shared→Prop} (N:bp C X Pn (.ok v p') O E s) (hb:Base C s.heap) (hp:aY C X Pn s.heap p'):O v s:=N.2.1 v p' rfl s (.refl hb) hp
def cQ (C:Cfg) (cx:Cx) (e:Expr) (d:aq):Prop:=
 ∀ (n:Nat) (call:Call),cL C n call→∀ (X Pn:AP) (env:Env) (ρ:Fr) (p:List V) (s:Shared) (A:Around) (Q:Bool→Shared→Prop) (E:Value→Shared→Prop),
  Vw C cx X Pn env ρ p s.heap→aN C A s.heap→cR A n→rU C X Pn (d call ρ p) Q E s→wpAny (model C.prog C.w) A (isTrue e env (eval e env)) Q E s
theorem az.weak {e:Expr} {d:aq} (h:az C cx false e d):az C cx b e d:=by
 intro n call hc X Pn env ρ p s A Q E hv hk hr N
 exact h n call hc X Pn env ρ p s A Q E hv hk hr ⟨N.1,fun v p e val s' hn hp hx=>N.2.1 v p e val s' hn hp (.of hx),N.2.2⟩
theorem az.test {e:Expr} {d:aq} (h:az C cx true e d) (he:∀ env whole,isTrue e env whole=(do let v ← whole;standAt e.pos;holding [v] (truthy v))):cQ C cx e d:=by
 intro n call hc X Pn env ρ p s A Q E hv hk hr N
 refine wpAny_isTrue_value ?_ (he _ _)
 refine h n call hc X Pn env ρ p s A _ E hv hk hr (bp.e (N.mono fun v s' ho val hval=>?_))
 obtain ⟨q,rfl,hq⟩:=ho
 have:=bx.bool hval
 subst this
 exact wpAny_truthy_bool hq
theorem az.v8 {l r:Expr} {op:CmpOp} {pos:Pos} {x y:aq} {f:V→V→Option V} (hx:az C cx true l x) (hy:az C cx true r y) (ho:d9 C f (compareOp op)) (hm:behindInMarks op r=false):cQ C cx (.Compare l [op] [r] pos) (Mine.c2 f x y):=by
 intro n call hc X Pn env ρ p s A Q E hv hk hr N
 refine wpAny_isTrue_Compare1 ?_ hm
 refine hx n call hc X Pn env ρ p s A _ E hv hk hr (bp.e (bp.bind N fun v p₁ s₁ _ hn hp N1 val hval=>?_))
 have v1:=hv.next hn.ext hp
 have k₁:=hk.ext hn.ext hv.au
 refine hy n call hc X Pn env ρ p₁ s₁ A _ E v1 k₁ hr (bp.e (bp.bind N1 fun v' aO s₂ _ hn' hp' N2 val' hval'=>?_))
 have v2:=v1.next hn'.ext hp'
 cases hf:f v v' with
 | none=>rw [hf] at N2;exact absurd rfl N2.1
 | some r=>
  rw [hf] at N2
  refine ho n X Pn aO s₂ A _ E v v' r val val' (v2.pre (k₁.ext hn'.ext hp) hr) hf (hval.b.ext hn'.ext hv.pnX) hval'.b fun val'' s' hkp hrep=>?_
  obtain ⟨q,rfl,hq⟩:=N2.2.1 r aO rfl s' (hkp.nx v2.base) (hkp.au hp')
  simp only [RepV] at hrep
  subst hrep
  exact wpAny_truthy_bool hq
theorem cQ.not {x:Expr} {pos:Pos} {d:aq} (h:cQ C cx x d):cQ C cx (.UnaryOp .Not x pos) (c1 hJ d):=by
 intro n call hc X Pn env ρ p s A Q E hv hk hr N
 refine wpAny_isTrue_Not (h n call hc X Pn env ρ p s A _ E hv hk hr (bp.cM N (fun v p hne=>?_) fun q p₁ s₁ _ hn hp N1=>?_))
 ·cases v with
  | bool q=>exact ⟨q,rfl⟩
  | _=>exact absurd rfl hne
 ·obtain ⟨q',e,hq⟩:=N1.gF hn.ext.base hp
  cases e
  rw [iQ] at hq
  exact hq
theorem iX {v:V} {p:List V} {x y:List V→Res} (h:(@V.rec (fun _=>Res) (fun _=>Unit) Res.stuck (fun q=>@Bool.rec (fun _=>Res) (y p) (x p) q) (fun _=>Res.stuck) (fun _=>Res.stuck) (fun _ _=>Res.stuck) (fun _ _=>Res.stuck) (fun _ _ _ _=>Res.stuck) (fun _ _ _=>Res.stuck) () (fun _ _ _ _=>()) v)≠.stuck):∃ q,v=.bool q:=by
 cases v with
 | bool q=>exact ⟨q,rfl⟩
 | _=>exact absurd rfl h
theorem az.ite {t x y:Expr} {pos:Pos} {dt dx dy:aq} (ht:cQ C cx t dt) (hx:az C cx b x dx) (hy:az C cx b y dy):az C cx b (.IfExp t x y pos) (aR dt dx dy):=by
 intro n call hc X Pn env ρ p s A Q E hv hk hr N
 refine wpAny_IfExp (ht n call hc X Pn env ρ p s A _ E hv hk hr (bp.cM N.g (fun v p hne=>iX (x:=dx call ρ) (y:=dy call ρ) hne) fun q p₁ s₁ _ hn hp N1=>?_))
 have v1:=hv.next hn.ext hp
 have k₁:=hk.ext hn.ext hv.au
 cases q with
 | true=>exact hx n call hc X Pn env ρ p₁ s₁ A Q E v1 k₁ hr N1.e
 | false=>exact hy n call hc X Pn env ρ p₁ s₁ A Q E v1 k₁ hr N1.e
theorem jN {M:Model} {t x y:Expr} {pos:Pos} {whole:Sem Value} {Q:Bool→Shared→Prop}
  (h:wpAny M A (isTrue t env (eval t env)) (fun b s₁=>if b then wpAny M A (isTrue x env (eval x env)) Q E s₁ else wpAny M A (isTrue y env (eval y env)) Q E s₁) E s):
  wpAny M A (isTrue (.IfExp t x y pos) env whole) Q E s:=by
 have e:PySem.isTrue (.IfExp t x y pos) env whole=(do if ← PySem.isTrue t env (eval t env) then PySem.isTrue x env (eval x env) else PySem.isTrue y env (eval y env)):=by rw [PySem.isTrue]
 rw [e]
 refine wpAny_bind (wpAny_mono h (fun b s₁ aG=>?_) fun _ _ x=>x)
 cases b <;> exact aG
theorem cQ.ite {t x y:Expr} {pos:Pos} {dt dx dy:aq} (ht:cQ C cx t dt) (hx:cQ C cx x dx) (hy:cQ C cx y dy):cQ C cx (.IfExp t x y pos) (aR dt dx dy):=by
 intro n call hc X Pn env ρ p s A Q E hv hk hr N
 refine jN (ht n call hc X Pn env ρ p s A _ E hv hk hr (bp.cM N (fun v p hne=>iX (x:=dx call ρ) (y:=dy call ρ) hne) fun q p₁ s₁ _ hn hp N1=>?_))
 have v1:=hv.next hn.ext hp
 have k₁:=hk.ext hn.ext hv.au
 cases q with
 | true=>exact hx n call hc X Pn env ρ p₁ s₁ A Q E v1 k₁ hr N1
 | false=>exact hy n call hc X Pn env ρ p₁ s₁ A Q E v1 k₁ hr N1
def gD (C:Cfg) (cx:Cx) (b:Bool) (op:BoolOp) (xs:List Expr) (d:aq):Prop:=
 ∀ (n:Nat) (call:Call),cL C n call→∀ (X Pn:AP) (env:Env) (ρ:Fr) (p:List V) (s:Shared) (A:Around) (Q E:Value→Shared→Prop) (pos:Pos),
  Vw C cx X Pn env ρ p s.heap→aN C A s.heap→cR A n→Ends C b X Pn (d call ρ p) Q E s→wpAny (model C.prog C.w) A (boolOp pos op (evalEach xs env)) Q E s
def fm (C:Cfg) (cx:Cx) (op:BoolOp) (xs:List Expr) (d:aq):Prop:=
 ∀ (n:Nat) (call:Call),cL C n call→∀ (X Pn:AP) (env:Env) (ρ:Fr) (p:List V) (s:Shared) (A:Around) (Q:Bool→Shared→Prop) (E:Value→Shared→Prop),
  Vw C cx X Pn env ρ p s.heap→aN C A s.heap→cR A n→rU C X Pn (d call ρ p) Q E s→wpAny (model C.prog C.w) A (allTrue op xs env) Q E s
theorem gD.one {op:BoolOp} {x:Expr} {d:aq} (h:az C cx b x d):gD C cx b op [x] d:=by
 intro n call hc X Pn env ρ p s A Q E pos hv hk hr N
 show wpAny _ _ (eval x env) Q E s
 exact h n call hc X Pn env ρ p s A Q E hv hk hr N
theorem fm.one {op:BoolOp} {x:Expr} {d:aq} (h:cQ C cx x d):fm C cx op [x] d:=by
 intro n call hc X Pn env ρ p s A Q E hv hk hr N
 cases op with
 | And=>
  refine wpAny_allTrue_And_cons (h n call hc X Pn env ρ p s A _ E hv hk hr (N.mono fun v s' ⟨q,e,hq⟩=>⟨q,e,?_⟩))
  cases q with
  | true=>exact wpAny_allTrue_And_nil hq
  | false=>exact hq
 | Or=>
  refine wpAny_allTrue_Or_cons (h n call hc X Pn env ρ p s A _ E hv hk hr (N.mono fun v s' ⟨q,e,hq⟩=>⟨q,e,?_⟩))
  cases q with
  | true=>exact hq
  | false=>exact wpAny_allTrue_Or_nil hq
theorem gD.and {x y:Expr} {ys:List Expr} {d d':aq} (hx:az C cx b x d) (hy:gD C cx b .And (y::ys) d'):gD C cx b .And (x::y::ys) (bL d d'):=by
 intro n call hc X Pn env ρ p s A Q E pos hv hk hr N
 show wpAny _ _ (do
  let v ← eval x env
  standAt pos
  let t ← holding [v] (truthy v)
  match BoolOp.And,t with
  | .And,false | .Or,true=>pure v
  | _,_=>boolOp pos .And (evalEach (y::ys) env)) Q E s
 refine wpAny_bind (hx n call hc X Pn env ρ p s A _ E hv hk hr (bp.e (bp.bind N.g fun v p₁ s₁ _ hn hp N1 val hval=>?_)))
 have v1:=hv.next hn.ext hp
 have k₁:=hk.ext hn.ext hv.au
 obtain ⟨q,rfl⟩:=iX (p:=p₁) (x:=d' call ρ) (y:=fun p=>Res.ok (V.bool false) p) N1.1
 have:=hval.b.bool
 subst this
 refine wpAny_bind (wpAny_standAt (wpAny_bind (wpAny_holding (wpAny_truthy_bool ?_))))
 cases q with
 | true=>exact hy n call hc X Pn env ρ p₁ s₁ A Q E pos v1 k₁ hr N1.e
 | false=>exact wpAny_pure (N1.gF hn.ext.base hp _ hval)
theorem gD.or {x y:Expr} {ys:List Expr} {d d':aq} (hx:az C cx b x d) (hy:gD C cx b .Or (y::ys) d'):gD C cx b .Or (x::y::ys) (gw d d'):=by
 intro n call hc X Pn env ρ p s A Q E pos hv hk hr N
 show wpAny _ _ (do
  let v ← eval x env
  standAt pos
  let t ← holding [v] (truthy v)
  match BoolOp.Or,t with
  | .And,false | .Or,true=>pure v
  | _,_=>boolOp pos .Or (evalEach (y::ys) env)) Q E s
 refine wpAny_bind (hx n call hc X Pn env ρ p s A _ E hv hk hr (bp.e (bp.bind N.g fun v p₁ s₁ _ hn hp N1 val hval=>?_)))
 have v1:=hv.next hn.ext hp
 have k₁:=hk.ext hn.ext hv.au
 obtain ⟨q,rfl⟩:=iX (p:=p₁) (x:=fun p=>Res.ok (V.bool true) p) (y:=d' call ρ) N1.1
 have:=hval.b.bool
 subst this
 refine wpAny_bind (wpAny_standAt (wpAny_bind (wpAny_holding (wpAny_truthy_bool ?_))))
 cases q with
 | true=>exact wpAny_pure (N1.gF hn.ext.base hp _ hval)
 | false=>exact hy n call hc X Pn env ρ p₁ s₁ A Q E pos v1 k₁ hr N1.e
theorem fm.and {x y:Expr} {ys:List Expr} {d d':aq} (hx:cQ C cx x d) (hy:fm C cx .And (y::ys) d'):fm C cx .And (x::y::ys) (bL d d'):=by
 intro n call hc X Pn env ρ p s A Q E hv hk hr N
 refine wpAny_allTrue_And_cons (hx n call hc X Pn env ρ p s A _ E hv hk hr (bp.cM N (fun v p hne=>iX (x:=d' call ρ) (y:=fun p=>Res.ok (V.bool false) p) hne) fun q p₁ s₁ _ hn hp N1=>?_))
 have v1:=hv.next hn.ext hp
 have k₁:=hk.ext hn.ext hv.au
 cases q with
 | true=>exact hy n call hc X Pn env ρ p₁ s₁ A Q E v1 k₁ hr N1
 | false=>
  obtain ⟨q,e,hq⟩:=N1.gF hn.ext.base hp
  cases e;exact hq
theorem fm.or {x y:Expr} {ys:List Expr} {d d':aq} (hx:cQ C cx x d) (hy:fm C cx .Or (y::ys) d'):fm C cx .Or (x::y::ys) (gw d d'):=by
 intro n call hc X Pn env ρ p s A Q E hv hk hr N
 refine wpAny_allTrue_Or_cons (hx n call hc X Pn env ρ p s A _ E hv hk hr (bp.cM N (fun v p hne=>iX (x:=fun p=>Res.ok (V.bool true) p) (y:=d' call ρ) hne) fun q p₁ s₁ _ hn hp N1=>?_))
 have v1:=hv.next hn.ext hp
 have k₁:=hk.ext hn.ext hv.au
 cases q with
 | true=>
  obtain ⟨q,e,hq⟩:=N1.gF hn.ext.base hp
  cases e;exact hq
 | false=>exact hy n call hc X Pn env ρ p₁ s₁ A Q E v1 k₁ hr N1
theorem gD.e {op:BoolOp} {xs:List Expr} {pos:Pos} {d:aq} (h:gD C cx b op xs d):az C cx b (.BoolOp op xs pos) d:=by
 intro n call hc X Pn env ρ p s A Q E hv hk hr N
 have e:eval (.BoolOp op xs pos) env=boolOp pos op (evalEach xs env):=by rw [eval]
 rw [e]
 exact h n call hc X Pn env ρ p s A Q E pos hv hk hr N
theorem fm.t {op:BoolOp} {xs:List Expr} {pos:Pos} {d:aq} (h:fm C cx op xs d):cQ C cx (.BoolOp op xs pos) d:=by
 intro n call hc X Pn env ρ p s A Q E hv hk hr N
 exact wpAny_isTrue_BoolOp (h n call hc X Pn env ρ p s A Q E hv hk hr N)
end
inductive Out (α:Type) where
 | stuck
 | ok (v:α) (p:List V)
 | exc (k:List Nat) (p:List V)
def Out.bind {α β:Type} (o:Out α) (f:α→List V→Out β):Out β:=match o with
 | .stuck=>.stuck
 | .ok v p=>f v p
 | .exc k p=>.exc k p
def Res.out:Res→Out V
 | .stuck=>.stuck
 | .ok v p=>.ok v p
 | .exc k p=>.exc k p
def aw.out:aw→Out (List V)
 | .stuck=>.stuck
 | .ok v p=>.ok v p
 | .exc k p=>.exc k p
def aH.out:aH→Out (List Slot)
 | .stuck=>.stuck
 | .ok v p=>.ok v p
 | .exc k p=>.exc k p
theorem cv (r:Res) (K:V→List V→Res):(@Res.rec (fun _=>Res) Res.stuck K Res.exc r).out=r.out.bind fun v p=>(K v p).out:=by cases r <;> rfl
theorem l6 (r:Res) (K:V→List V→aw):(@Res.rec (fun _=>aw) aw.stuck K aw.exc r).out=r.out.bind fun v p=>(K v p).out:=by cases r <;> rfl
theorem xD (r:Res) (K:V→List V→aH):(@Res.rec (fun _=>aH) aH.stuck K aH.exc r).out=r.out.bind fun v p=>(K v p).out:=by cases r <;> rfl
theorem l8 (r:aw) (K:List V→List V→aw):(@aw.rec (fun _=>aw) aw.stuck K aw.exc r).out=r.out.bind fun v p=>(K v p).out:=by cases r <;> rfl
theorem l7 (r:aw) (K:List V→List V→Res):(@aw.rec (fun _=>Res) Res.stuck K Res.exc r).out=r.out.bind fun v p=>(K v p).out:=by cases r <;> rfl
theorem oP (r:aH) (K:List Slot→List V→aH):(@aH.rec (fun _=>aH) aH.stuck K aH.exc r).out=r.out.bind fun v p=>(K v p).out:=by cases r <;> rfl
theorem xE (r:aH) (K:List Slot→List V→Res):(@aH.rec (fun _=>Res) Res.stuck K Res.exc r).out=r.out.bind fun v p=>(K v p).out:=by cases r <;> rfl
def bh {α:Type} (C:Cfg) (X Pn:AP) (o:Out α) (K:α→Shared→Prop) (E:Value→Shared→Prop) (s:Shared):Prop:=
 o≠.stuck∧(∀ v p,o=.ok v p→∀ s',Nx C Pn s s'→aY C X Pn s'.heap p→K v s')∧
 (∀ k p,o=.exc k p→∀ e s',Nx C Pn s s'→aY C X Pn s'.heap p→fQ C s.heap k s'.heap e→E e s')
section
variable {C:Cfg} {cx:Cx} {b:Bool} {X Pn:AP} {s s':Shared} {A:Around} {n:Nat} {ρ:Fr} {p p':List V} {env:Env} {Q E:Value→Shared→Prop}
theorem bp.o {r:Res} {K:V→Shared→Prop}:bp C X Pn r K E s↔bh C X Pn r.out K E s:=by
 constructor
 ·intro N
  refine ⟨fun e=>N.1 ?_,fun v p e=>N.2.1 v p ?_,fun k p e=>N.2.2 k p ?_⟩ <;> cases r <;> simp_all [Res.out]
 ·intro N
  refine ⟨fun e=>N.1 ?_,fun v p e=>N.2.1 v p ?_,fun k p e=>N.2.2 k p ?_⟩ <;> subst e <;> rfl
theorem bh.bind {α β:Type} {o:Out α} {f:α→List V→Out β} {O:β→Shared→Prop} {O1:α→Shared→Prop} (N:bh C X Pn (o.bind f) O E s)
  (h:∀ v p₁ s₁,o=.ok v p₁→Nx C Pn s s₁→aY C X Pn s₁.heap p₁→bh C X Pn (f v p₁) O E s₁→O1 v s₁):bh C X Pn o O1 E s:=by
 cases o with
 | stuck=>exact absurd rfl N.1
 | exc k q=>
  exact ⟨by simp,fun _ _ e=>(nomatch e),fun k' p' e e' s' hn hp hx=>N.2.2 k' p' (by cases e;rfl) e' s' hn hp hx⟩
 | ok v q=>
  refine ⟨by simp,fun v' p₁ e s₁ hn hp=>?_,fun _ _ e=>(nomatch e)⟩
  cases e
  exact h v q s₁ rfl hn hp ⟨N.1,fun v' p' e s' hn'=>N.2.1 v' p' e s' (hn.trans hn'),fun k p' e e' s' hn' hp' hx=>N.2.2 k p' e e' s' (hn.trans hn') hp' (hx.back fun b o eb=>hn.ext.lt hp b ⟨o,eb⟩)⟩
theorem bh.gF {α:Type} {v:α} {O:α→Shared→Prop} (N:bh C X Pn (.ok v p') O E s) (hb:Base C s.heap) (hp:aY C X Pn s.heap p'):O v s:=N.2.1 v p' rfl s (.refl hb) hp
theorem bh.kp {α:Type} {v:α} {O:α→Shared→Prop} (N:bh C X Pn (.ok v p') O E s) (hb:Base C s.heap) (hp:aY C X Pn s.heap p') (k:Kp s s'):O v s':=N.2.1 v p' rfl s' (k.nx hb) (k.au hp)
def BV (C:Cfg) (X:AP) (Q:List Value→Shared→Prop) (l:List V) (s':Shared):Prop:=∀ vals,RepVs C X s'.heap l vals→Q vals s'
theorem bh.e {r:Res} (N:bh C X Pn r.out (qu C b X Pn Q) E s):Ends C b X Pn r Q E s:=(bp.o.mpr N).e
theorem Ends.o {r:Res} (N:Ends C b X Pn r Q E s):bh C X Pn r.out (qu C b X Pn Q) E s:=bp.o.mp N.g
theorem az.run {β:Type} {f:V→List V→Out β} {O:β→Shared→Prop} {call:Call} {x:Expr} {d:aq} {Q₁:Value→Shared→Prop} (h:az C cx b x d) (hc:cL C n call) (hv:Vw C cx X Pn env ρ p s.heap) (hk:aN C A s.heap) (hr:cR A n)
  (N:bh C X Pn ((d call ρ p).out.bind f) O E s)
  (go:∀ v p₁ val s₁,Nx C Pn s s₁→Vw C cx X Pn env ρ p₁ s₁.heap→aN C A s₁.heap→gE b C X Pn s₁.heap v val→bh C X Pn (f v p₁) O E s₁→Q₁ val s₁):wpAny (model C.prog C.w) A (eval x env) Q₁ E s:=
 h n call hc X Pn env ρ p s A Q₁ E hv hk hr (bh.e (N.bind fun v p₁ s₁ _ hn hp N1 val hval=>go v p₁ val s₁ hn (hv.next hn.ext hp) (hk.ext hn.ext hv.au) hval N1))
def gj (C:Cfg) (cx:Cx) (xs:List Expr) (ds:List aq):Prop:=
 ∀ (n:Nat) (call:Call),cL C n call→∀ (X Pn:AP) (env:Env) (ρ:Fr) (p:List V) (s:Shared) (A:Around) (Q:List Value→Shared→Prop) (E:Value→Shared→Prop) (pos:Pos),
  Vw C cx X Pn env ρ p s.heap→aN C A s.heap→cR A n→bh C X Pn (a0 ds call ρ p).out (BV C X Q) E s→wpAny (model C.prog C.w) A (spliced (backTo pos (starEach xs env))) Q E s
theorem gj.nil:gj C cx [] []:=by
 intro n call hc X Pn env ρ p s A Q E pos hv hk hr N
 exact wpAny_items_nil (N.gF (v:=[]) hv.base hv.au _ .nil)
theorem aJ {x:Expr} {xs:List Expr} (hx:∀ e p,x≠.Starred e p) (env:Env):starEach (x::xs) env=(false,eval x env)::starEach xs env:=by
 cases x <;> first | exact absurd rfl (hx _ _) | rfl
theorem gj.cons {x:Expr} {xs:List Expr} {d:aq} {ds:List aq} (hx:az C cx false x d) (hs:∀ e p,x≠.Starred e p) (hxs:gj C cx xs ds):gj C cx (x::xs) (d::ds):=by
 intro n call hc X Pn env ρ p s A Q E pos hv hk hr N
 refine wpAny_items_cons ?_ (aJ hs env)
 have e:(a0 (d::ds) call ρ p).out=(d call ρ p).out.bind fun v p=>(a0 ds call ρ p).out.bind fun l p=>.ok (v::l) p:=by
  show (@Res.rec (fun _=>aw) aw.stuck (fun v p=>(@aw.rec (fun _=>aw) aw.stuck (fun l p=>aw.ok (v::l) p) aw.exc (a0 ds call ρ p))) aw.exc (d call ρ p)).out=_
  rw [l6]
  congr 1;funext v p
  rw [l8]
  rfl
 rw [e] at N
 refine hx.run hc hv hk hr N fun v p₁ val s₁ hn v1 k₁ hval N1=>hxs n call hc X Pn env ρ p₁ s₁ A _ E pos v1 k₁ hr (N1.bind fun l aO s₂ _ bT hp2 N2 vals hvals=>?_)
 exact N2.gF bT.ext.base hp2 _ (.cons (RepV.ext bT.ext hv.pnX hval) hvals)
theorem ix {call:Call}:∀ {ds:List aq} {p p':List V} {l:List V},(a0 ds call ρ p).out=.ok l p'→l.length=ds.length
 | [],_,_,_,e=>by cases e;rfl
 | d::ds,p,p',l,e=>by
  have e':(a0 (d::ds) call ρ p).out=(d call ρ p).out.bind fun v p=>(a0 ds call ρ p).out.bind fun l p=>.ok (v::l) p:=by
   show (@Res.rec (fun _=>aw) aw.stuck (fun v p=>(@aw.rec (fun _=>aw) aw.stuck (fun l p=>aw.ok (v::l) p) aw.exc (a0 ds call ρ p))) aw.exc (d call ρ p)).out=_
   rw [l6]
   congr 1;funext v p
   rw [l8]
   rfl
  rw [e'] at e
  cases hd:(d call ρ p).out with
  | stuck=>rw [hd] at e;cases e
  | exc k q=>rw [hd] at e;cases e
  | ok v q=>
   rw [hd] at e
   have e:(a0 ds call ρ q).out.bind (fun l p=>Out.ok (v::l) p)=.ok l p':=e
   cases hs:(a0 ds call ρ q).out with
   | stuck=>rw [hs] at e;cases e
   | exc k q'=>rw [hs] at e;cases e
   | ok m q'=>
    rw [hs] at e
    cases e
    rw [List.length_cons,List.length_cons,ix hs]
theorem az.tup {xs:List Expr} {ds:List aq} {k:Nat} {pos:Pos} (h:gj C cx xs ds) (hz:ds.length≤100):az C cx b (.Tuple xs k pos) (av ds):=by
 intro n call hc X Pn env ρ p s A Q E hv hk hr N
 have e:(av ds call ρ p).out=(a0 ds call ρ p).out.bind fun l p=>.ok (V.tup l) p:=l7 _ _
 have N:=N.o
 rw [e] at N
 refine wpAny_Tuple (h n call hc X Pn env ρ p s A _ E pos hv hk hr (N.bind fun l p₁ s₁ hl hn hp N1 vals hvals=>?_))
 have hz':=ix hl
 have hlen:=hvals.length
 have v1:=hv.next hn.ext hp
 refine ⟨by rw [aT];omega,N1.kp v1.base hp (.push _) _ (.of (RepV.md (v1.pre (hk.ext hn.ext hv.au) hr) hvals (by show _≤8000;omega)))⟩
theorem az.lst {xs:List Expr} {ds:List aq} {pos:Pos} (h:gj C cx xs ds) (hz:ds.length≤100):az C cx b (.List xs pos) (ax ds):=by
 intro n call hc X Pn env ρ p s A Q E hv hk hr N
 have e:(ax ds call ρ p).out=(a0 ds call ρ p).out.bind fun l p=>.ok (V.lst l) p:=l7 _ _
 have N:=N.o
 rw [e] at N
 refine wpAny_List (h n call hc X Pn env ρ p s A _ E pos hv hk hr (N.bind fun l p₁ s₁ hl hn hp N1 vals hvals=>?_))
 have hz':=ix hl
 have hlen:=hvals.length
 have v1:=hv.next hn.ext hp
 refine ⟨by rw [aT];omega,N1.kp v1.base hp (.push _) _ (.of (RepV.newList (v1.pre (hk.ext hn.ext hv.au) hr) hvals (by show _≤8000;omega)))⟩
theorem fw {o:Expr} {name:Str} (ho:okBase o=true) (env:Env) (m:Sem Value):attributeBase o name env m=m:=by
 unfold attributeBase
 cases o <;> try rfl
 case Call f args kw pos=>
  cases f <;> try rfl
  case Name x q=>
   cases args with
   | nil=>simp [okBase] at ho
   | cons a r=>rfl
theorem az.get {o k d:Expr} {dx dk dd:aq} {ap cp:Pos} (hx:az C cx true o dx) (hk':az C cx false k dk) (hd:az C cx false d dd) (h1:∀ e p,k≠.Starred e p) (h2:∀ e p,d≠.Starred e p) (ho:gY o ap cp=true):
  az C cx b (.Call (.Attribute o "get" ap) [k,d] [] cp) (iK dx dk dd):=by
 intro n call hc X Pn env ρ p s A Q E hv hk hr N
 simp only [gY,Bool.and_eq_true] at ho
 have N:=N.o
 have e:(iK dx dk dd call ρ p).out=(dx call ρ p).out.bind fun o p=>
   (@V.rec (fun _=>Res) (fun _=>Unit) Res.stuck (fun _=>Res.stuck) (fun _=>Res.stuck) (fun _=>Res.stuck) (fun _ _=>Res.stuck) (fun _ _=>Res.stuck) (fun ks vs _ _=>
    (@Res.rec (fun _=>Res) Res.stuck (fun a p=>(@Res.rec (fun _=>Res) Res.stuck (fun b p=>(@Option.rec V (fun _=>Res) Res.stuck (fun v=>Res.ok v p) (kg (V.aQ ks vs) a b))) Res.exc (dd call ρ p))) Res.exc (dk call ρ p))) (fun _ _ _=>Res.stuck) () (fun _ _ _ _=>()) o).out:=by
  unfold iK
  rw [cv]
 rw [e] at N
 refine wpAny_Call_method (T := "dict") (id := "dict.get") (fw ho.1 _ _) ?_ ho.2 F.plainAttrs_dict F.slot_dict_get F.type_dict_get ?_
 ·rw [aJ h1,aJ h2];rfl
 refine hx.run hc hv hk hr N fun vo p₁ val s₁ hn v1 k₁ hval N1=>?_
 -- the base must be a dict
 have hdct:∃ ks vs,vo=.aQ ks vs:=by
  cases vo with
  | aQ ks vs=>exact ⟨ks,vs,rfl⟩
  | _=>exact absurd rfl N1.1
 obtain ⟨ks,vs,rfl⟩:=hdct
 have e:∀ p,(@Res.rec (fun _=>Res) Res.stuck (fun a p=>(@Res.rec (fun _=>Res) Res.stuck (fun b p=>(@Option.rec V (fun _=>Res) Res.stuck (fun v=>Res.ok v p) (kg (V.aQ ks vs) a b))) Res.exc (dd call ρ p))) Res.exc (dk call ρ p)).out=
   (dk call ρ p).out.bind fun a p=>(dd call ρ p).out.bind fun b p=>(@Option.rec V (fun _=>Res) Res.stuck (fun v=>Res.ok v p) (kg (V.aQ ks vs) a b)).out:=by
  intro p
  rw [cv];congr 1;funext a p
  rw [cv]
 have N1:bh C X Pn ((dk call ρ p₁).out.bind fun a p=>(dd call ρ p).out.bind fun b p=>(@Option.rec V (fun _=>Res) Res.stuck (fun v=>Res.ok v p) (kg (V.aQ ks vs) a b)).out) (qu C b X Pn Q) E s₁:=by
  rw [← e];exact N1
 obtain ⟨a,es,rfl,hdc,_⟩:=hval.b.aQ
 obtain ⟨_,m,ho'⟩:=hdc
 refine ⟨⟨_,ho',rfl⟩,fun a' ea=>by cases ea;exact ⟨_,ho',rfl⟩,?_⟩
 rw [aJ h1,aJ h2]
 refine method2_meetsIn F.slot_dict_get F.entry_dict_get ?_
 refine hk'.run hc v1 k₁ hr N1 fun va aO vala s₂ bT v2 k₂ hvala N2=>?_
 refine hd.run hc v2 k₂ hr N2 fun vb fU valb aP og v3 bk hvalb N3=>?_
 have hval3:=(hval.b.ext bT.ext v1.pnX).ext og.ext v2.pnX
 have hvala3:=RepV.ext og.ext v2.pnX hvala
 obtain ⟨a',es,ea,hdc,r1,r2,r3,r4⟩:=hval3.aQ
 cases ea
 have hdc':=hdc
 obtain ⟨⟨hsys,_⟩,m,ho'⟩:=hdc'
 refine ⟨⟨_,ho',rfl⟩,F.args_dict_get_3 _ _ _,fun A' R' s'=>A=A'∧aP=s'∧wants Q E=R',?_,rfl,rfl,rfl⟩
 refine .of_wp fun A' R' s' ⟨h1,h2,h3⟩=>?_
 subst h1 h2 h3
 show wpAny _ _ (dictGet a vala >>= _) _ _ _
 have hu:=(v3.pre bk hr).units
 cases hkey:keyOk 8 va with
 | false=>simp only [kg,hkey] at N3;exact absurd rfl N3.1
 | true=>
  cases hf:cD ks va 0 with
  | none=>simp only [kg,hkey,hf] at N3;exact absurd rfl N3.1
  | some o=>
   simp only [kg,hkey,hf] at N3
   refine wpAny_bind (ki hdc r1 r3 r4 hkey hvala3 (by show A.units + 1 + 100 < cLine;omega) hf fun tk=>?_)
   cases o with
   | some i=>
    simp only at N3
    rw [fq] at N3
    cases hv':vs[i]? with
    | none=>rw [hv'] at N3;exact absurd rfl N3.1
    | some v=>
     rw [hv'] at N3
     obtain ⟨y,hy,hry⟩:=r2.get hv'
     rw [List.getElem?_map] at hy
     rw [show (some i).bind (fun i=>es[i]?.map (·.val))=some y from hy]
     exact wpAny_pure ⟨y,rfl,N3.kp v3.base v3.au (.toks _) _ (.of hry)⟩
   | none=>
    show wpAny _ _ (Builtin.Dict.missed a vala >>= _) _ _ _
    exact wpAny_bind (wpAny_missed_other hsys (wpAny_pure ⟨valb,rfl,N3.kp v3.base v3.au (.toks _) _ (.of hvalb)⟩))
end
theorem wV (n:Nat) (i:Int):h9 n i=clipAt n i:=by
 cases i with
 | ofNat k=>
  show @Bool.rec (fun _=>Nat) n k (Nat.ble k n)=_
  have:=clipAt_nat n k
  simp only [Int.ofNat_eq_natCast]
  rw [this]
  cases h:Nat.ble k n with
  | true=>exact (Nat.min_eq_left (Nat.le_of_ble_eq_true h)).symm
  | false=>
   have:¬k≤n:=fun q=>by rw [Nat.ble_eq_true_of_le q] at h;cases h
   exact (Nat.min_eq_right (Nat.le_of_not_le this)).symm
 | negSucc k=>
  show n - (k + 1)=_
  have:=clipAt_neg n (k + 1) (by omega)
  rw [← this];rfl
section
variable {C:Cfg} {cx:Cx} {b:Bool} {X Pn:AP} {s s':Shared} {A:Around} {n:Nat} {ρ:Fr} {p p':List V} {env:Env} {Q E:Value→Shared→Prop}
theorem RepVs.drop {h:Heap}:∀ {l:List V} {vs:List Value} (k:Nat),RepVs C X h l vs→RepVs C X h (l.drop k) (vs.drop k)
 | _,_,0,r=>by simpa using r
 | [],_,k + 1,r=>by simp only [RepVs] at r;subst r;simpa using RepVs.nil
 | x::l,_,k + 1,r=>by
  simp only [RepVs] at r
  obtain ⟨v,rest,rfl,_,r⟩:=r
  simpa using r.drop k
theorem RepVs.take {h:Heap}:∀ {l:List V} {vs:List Value} (k:Nat),RepVs C X h l vs→RepVs C X h (l.take k) (vs.take k)
 | _,_,0,r=>by simpa using RepVs.nil
 | [],_,k + 1,r=>by simp only [RepVs] at r;subst r;simpa using RepVs.nil
 | x::l,_,k + 1,r=>by
  simp only [RepVs] at r
  obtain ⟨v,rest,rfl,r1,r⟩:=r
  simpa using RepVs.cons r1 (r.take k)
theorem RepVs.reverse {h:Heap}:∀ {l:List V} {vs:List Value},RepVs C X h l vs→RepVs C X h l.reverse vs.reverse
 | [],_,r=>by simp only [RepVs] at r;subst r;simpa using RepVs.nil
 | x::l,_,r=>by
  simp only [RepVs] at r
  obtain ⟨v,rest,rfl,r1,r⟩:=r
  simpa using r.reverse.append (.cons r1 .nil)
theorem sg (l:List V) (lo hi:Option Int):jW l lo hi=(l.take (hi.elim l.length (clipAt l.length))).drop (lo.elim 0 (clipAt l.length)):=by
 unfold jW
 rw [jy,lx,bD]
 cases lo <;> cases hi <;> simp [wV]
theorem mI (vs:List Value) (lo hi:Option Int):slicePick vs.toArray lo hi none=((vs.take (hi.elim vs.length (clipAt vs.length))).drop (lo.elim 0 (clipAt vs.length))).toArray:=by
 rw [slicePick_plain]
 simp only [List.size_toArray]
 rw [List.drop_take]
theorem filterMap_some {α β:Type} {f:α→Option β} {g:α→β}:∀ {l:List α},(∀ x∈l,f x=some (g x))→l.filterMap f=l.map g
 | [],_=>rfl
 | a::l,h=>by rw [List.filterMap_cons,h a (by simp),List.map_cons,filterMap_some fun x hx=>h x (by simp [hx])]
theorem nR (vs:List Value):slicePick vs.toArray none none (some (-1))=vs.reverse.toArray:=by
 unfold slicePick
 congr 1
 have e:sliceBounds none none (some (-1)) vs.toArray.size=((vs.length:Int) - 1,-1,-1):=by simp [sliceBounds]
 rw [e]
 unfold sliceRange
 have e1:((if (-1:Int) > 0 then (if (vs.length:Int) - 1 < -1 then (-1 - ((vs.length:Int) - 1) + -1 - 1) / -1 else 0) else (if (vs.length:Int) - 1 > -1 then ((vs.length:Int) - 1 - -1 - -1 - 1) / (- -1) else 0)):Int).toNat=vs.length:=by
  rw [if_neg (by decide)]
  split
  ·simp
  ·omega
 dsimp only
 rw [e1]
 apply List.ext_getElem?
 intro i
 rw [List.filterMap_map]
 have hf:∀ k∈List.range vs.length,((fun x:Nat=>vs.toArray[x]?) ∘ fun (k:Nat)=>((vs.length:Int) - 1 + -1 * (k:Int)).toNat) k=some (vs[vs.length - 1 - k]?.getD .none):=by
  intro k hk
  have hk:=List.mem_range.mp hk
  have e:((vs.length:Int) - 1 + -1 * (k:Int)).toNat=vs.length - 1 - k:=by omega
  simp only [Function.comp,e,List.getElem?_toArray]
  rw [List.getElem?_eq_getElem (show vs.length - 1 - k < vs.length by omega)];rfl
 rw [filterMap_some (g:=fun k=>vs[vs.length - 1 - k]?.getD .none) hf]
 by_cases hi:i < vs.length
 ·rw [List.getElem?_reverse hi]
  simp [hi,List.getElem?_eq_getElem (show vs.length - 1 - i < vs.length by omega)]
 ·rw [List.getElem?_eq_none (by simp;omega),List.getElem?_eq_none (by simp;omega)]
theorem IsPart.of {i:Int} {x:Value} {h:Heap} (r:bx C X Pn h (.int i) x):IsPart x (some i):=by
 obtain ⟨t,rfl⟩:=r.int
 exact .int i t
theorem sf {value slice:Expr} {o v:V} {lo hi:Option Int} {vo vl vu:Value} (P:aZ C n X Pn p A s) (hf:jV o lo hi=some v) (ho:bx C X Pn s.heap o vo) (pl:IsPart vl lo) (pu:IsPart vu hi)
  (h:∀ val s',Kp s s'→RepV C X s'.heap v val→Q val s'):
  wpAny (model C.prog C.w) A (subscriptTail value slice vo (.ref s.heap.objs.size)) Q E { s with heap:=s.heap.push { cls:=.type "slice",data:=.fields #[vl,vu,.none] } }:=by
 have hm:most=8000:=rfl
 have K:=Kp.push (s:=s) { cls:=.type "slice",data:=.fields #[vl,vu,.none] }
 have hP:aZ C n X Pn p A { s with heap:=s.heap.push { cls:=.type "slice",data:=.fields #[vl,vu,.none] } }:=
  ⟨P.room,P.stk.ext (K.nx (Pn:=Pn) P.base).ext P.au,K.au P.au,P.pnX,(K.nx (Pn:=Pn) P.base).ext.base,fun b hb=>let ⟨o,ho⟩:=P.lt b hb;⟨o,K.keep _ _ ho⟩,P.fresh,P.tab.keeps K.keep⟩
 have ho':=ho.ext (K.nx (Pn:=Pn) P.base).ext P.pnX
 cases o <;> simp only [jV] at hf <;> (try cases hf)
 case tup l=>
  cases hi with
  | some i=>cases hf
  | none=>cases lo with
   | none=>cases hf
   | some i=>cases i with
    | negSucc k=>cases hf
    | ofNat k=>
     obtain ⟨h1,hf⟩:=cJ hf
     obtain ⟨h2,hf⟩:=cJ hf
     cases hf
     have h1:=Nat.le_of_ble_eq_true h1
     have h2:=Nat.le_of_ble_eq_true h2
     rw [bD] at h2
     obtain ⟨a,vs,rfl,⟨hz,m,ht⟩,hl⟩:=ho'.tup
     have hlen:=hl.length
     cases pl with
     | int _ t=>
      cases pu
      refine kA ⟨_,ht,rfl⟩ slot_tuple_getitem.lookup (getItem_tuple_from (items:=vs.toArray) (a:=k) (u:=t) ⟨_,ht,rfl,m,rfl⟩ (Heap.IsSliceOf.new ..) h1 (by simp;omega) ?_ (by simp [sizeLine];omega))
      rw [jy] at h
      exact h _ _ (K.trans (.push _)) (RepV.md hP (hl.drop k) (by simp;omega))
 case lst l=>
  obtain ⟨a,vs,rfl,⟨hz,m,ht⟩,hl⟩:=ho'.lst
  have hlen:=hl.length
  refine kA ⟨_,ht,rfl⟩ list_getitem_lookup (wpAny_getItem_list_slice (items:=vs.toArray) ⟨_,ht,rfl,m,rfl⟩ (Heap.IsSliceOf.new ..) pl pu .none (by simp) ?_ (by simp [sizeLine];omega))
  rw [mI]
  rw [sg] at h
  refine h _ _ (K.trans (.push _)) (RepV.newList hP ?_ (by simp;omega))
  rw [hlen]
  exact (hl.take _).drop _
def ng (C:Cfg) (cx:Cx):Option Expr→Option aq→Prop
 | none,none=>True
 | some e,some d=>az C cx true e d
 | _,_=>False
theorem ng.run {O:V→Shared→Prop} {call:Call} {x:Option Expr} {d:Option aq} {k:Option Int→List V→Res} {Q₁:Value→Shared→Prop} (h:ng C cx x d) (hc:cL C n call) (hv:Vw C cx X Pn env ρ p s.heap) (hk:aN C A s.heap) (hr:cR A n)
  (N:bh C X Pn (oR d call ρ p k).out O E s)
  (go:∀ i p₁ val s₁,Nx C Pn s s₁→Vw C cx X Pn env ρ p₁ s₁.heap→aN C A s₁.heap→IsPart val i→bh C X Pn (k i p₁).out O E s₁→Q₁ val s₁):wpAny (model C.prog C.w) A (evalPart x env) Q₁ E s:=by
 cases x with
 | none=>cases d with
  | none=>exact wpAny_pure (go none p _ s (.refl hv.base) hv hk .none N)
  | some d=>exact h.elim
 | some e=>cases d with
  | none=>exact h.elim
  | some d=>
   have h:az C cx true e d:=h
   have N:bh C X Pn ((d call ρ p).out.bind fun a p=>(@V.rec (fun _=>Res) (fun _=>Unit) Res.stuck (fun _=>Res.stuck) (fun i=>k (some i) p) (fun _=>Res.stuck) (fun _ _=>Res.stuck) (fun _ _=>Res.stuck) (fun _ _ _ _=>Res.stuck) (fun _ _ _=>Res.stuck) () (fun _ _ _ _=>()) a).out) O E s:=by
    rw [← cv];exact N
   refine h.run hc hv hk hr N fun v p₁ val s₁ hn v1 k₁ hval N1=>?_
   cases v with
   | int i=>exact go (some i) p₁ val s₁ hn v1 k₁ (IsPart.of hval) N1
   | _=>exact absurd rfl N1.1
theorem az.slice {o:Expr} {lo hi:Option Expr} {dx:aq} {dl dh:Option aq} {sp pos:Pos} (hx:az C cx true o dx) (hl:ng C cx lo dl) (hh:ng C cx hi dh):
  az C cx b (.Subscript o (.Slice lo hi none sp) pos) (cz dx dl dh):=by
 intro n call hc X Pn env ρ p s A Q E hv hk hr N
 have N:=N.o
 refine Subscript_ ?_
 have e:(cz dx dl dh call ρ p).out=(dx call ρ p).out.bind fun o p=>(oR dl call ρ p (fun j p=>oR dh call ρ p (fun i p=>@Option.rec V (fun _=>Res) Res.stuck (fun v=>Res.ok v p) (jV o j i)))).out:=cv _ _
 rw [e] at N
 clear e
 refine hx.run hc hv hk hr N fun vo p₁ val s₁ hn v1 k₁ hval N1=>wpAny_Slice ?_
 refine hl.run hc v1 k₁ hr N1 fun j aO vj s₂ bT v2 k₂ hj N2=>?_
 refine hh.run hc v2 k₂ hr N2 fun i fU vi aP og v3 bk hi N3=>?_
 refine wpAny_pure ?_
 cases hf:jV vo j i with
 | none=>rw [hf] at N3;exact absurd rfl N3.1
 | some v=>
  rw [hf] at N3
  refine sf (v3.pre bk hr) hf ((hval.b.ext bT.ext v1.pnX).ext og.ext v2.pnX) hj hi fun val' s' hkp hrep=>?_
  exact N3.kp v3.base v3.au hkp _ (.of hrep)
theorem az.rev {o:Expr} {dx:aq} {sp pos p1 p2:Pos} {k1:Nat} (hx:az C cx true o dx):
  az C cx b (.Subscript o (.Slice none none (some (.UnaryOp .USub (.Constant (.int 1) k1 p1) p2)) sp) pos) (Mine.c1 iE dx):=by
 intro n call hc X Pn env ρ p s A Q E hv hk hr N
 have N:=N.o
 refine Subscript_ ?_
 have e:(Mine.c1 iE dx call ρ p).out=(dx call ρ p).out.bind fun o p=>(@Option.rec V (fun _=>Res) Res.stuck (fun v=>Res.ok v p) (iE o)).out:=cv _ _
 rw [e] at N
 refine hx.run hc hv hk hr N fun vo p₁ val s₁ hn v1 k₁ hval N1=>wpAny_Slice (wpAny_pure (wpAny_pure ?_))
 refine wpAny_UnaryOp (wpAny_Constant_int (PyProof.Rows.neg_int ?_))
 cases vo <;> simp only [iE] at N1 <;> try exact absurd rfl N1.1
 case lst l=>
  obtain ⟨a,vs,rfl,⟨hz,m,ht⟩,hl⟩:=hval.b.lst
  have hm:most=8000:=rfl
  have K:Kp s₁ { s₁ with toks:=s₁.toks + 1 + 1,heap:=s₁.heap.push { cls:=.type "slice",data:=.fields #[.none,.none,.int (-1) (s₁.toks + 1)] } }:=(Kp.toks (s:=s₁) (s₁.toks + 1 + 1)).trans (.push _)
  have P:=v1.pre (A:=A) k₁ hr
  have hP:aZ C n X Pn p₁ A { s₁ with toks:=s₁.toks + 1 + 1,heap:=s₁.heap.push { cls:=.type "slice",data:=.fields #[.none,.none,.int (-1) (s₁.toks + 1)] } }:=
   ⟨P.room,P.stk.ext (K.nx (Pn:=Pn) P.base).ext P.au,K.au P.au,P.pnX,(K.nx (Pn:=Pn) P.base).ext.base,fun b hb=>let ⟨o,ho⟩:=P.lt b hb;⟨o,K.keep _ _ ho⟩,P.fresh,P.tab.keeps K.keep⟩
  refine kA ⟨_,K.keep _ _ ht,rfl⟩ list_getitem_lookup (wpAny_getItem_list_slice (items:=vs.toArray) (lo:=none) (hi:=none) (st:=some (-1)) ⟨_,K.keep _ _ ht,rfl,m,rfl⟩ (Heap.IsSliceOf.new ..) .none .none (.int _ _) (by simp) ?_ (by simp [sizeLine];omega))
  rw [nR]
  refine N1.kp v1.base v1.au (K.trans (.push _)) _ (.of ?_)
  rw [qo,List.append_nil]
  exact RepV.newList hP (RepVs.tr K.tr hl).reverse (by simp;omega)
end
section
variable {prog:Program} {w:World} {A:Around} {E:Value→Shared→Prop} {s:Shared}
theorem sM {v d:Addr} {es:List DictEntry} {ep:Nat} {Q:Value→Shared→Prop} (hv:s.heap.IsItemsView v d) (hd:s.heap.get? d=some (cH es ep)) (hz:es.length≤most)
  (hQ:Q (.ref s.heap.objs.size) { s with heap:=s.heap.push { cls:=.type "dict_itemiterator",data:=.fields #[.none,.bool false,.ref d,.int 0 0,.int es.length 0,.int ep 0,.none,.none] } }):
  wpAny (model prog w) A (pyIter (.ref v)) Q E s:=by
 have hm:most=8000:=rfl
 obtain ⟨ov,hov,hcv,hdv⟩:=id hv
 refine wpAny_pyIter_slot hv.typeIs F.slot_dict_items_iter (wpAny_call_entry F.slot_dict_items_iter hv.typeIs F.entry_dict_items_iter ?_ (F.args_dict_items_iter_1 _))
 unfold Builtin.«dict_items.__iter__»
 refine wpAny_bind (wpAny_pure ?_)
 refine wpAny_bind ?_
 unfold Builtin.Dict_items.dictOf
 refine wpAny_bind (wpAny_field hov hdv (x:=.ref d) rfl (wpAny_pure ?_))
 refine wpAny_bind ?_
 unfold Builtin.Dict_items.newIterator
 refine wpAny_bind (wpAny_dictEntries hd rfl ?_)
 refine wpAny_bind (wpAny_dictEpoch hd rfl ?_)
 have hown:Builtin.Dict_items.ownsTuple "dict_itemiterator" = true:=by decide
 simp only [hown,if_true]
 refine wpAny_newObj_type (wpAny_pure ⟨_,rfl,"dict_itemiterator",_,⟨_,Heap.get?_push_size _ rfl,rfl⟩,F.slot_dict_itemiterator_next.lookup,?_⟩)
  (by simp only [sizeOk,Builtin.Dict_items.ownedTupleFields,List.size_toArray,List.length_append,List.length_cons,List.length_nil,sizeLine_eq];omega)
 simpa [rawInt,Builtin.Dict_items.ownedTupleFields] using hQ
theorem rD {it d:Addr} {i ep:Nat} {es:List DictEntry} {e:DictEntry} {ok ov:Value} {Q:Option Value→Shared→Prop} (hit:IsItemIter s.heap it d i es.length ep ok ov)
  (hd:s.heap.get? d=some (cH es ep)) (hx:es[i]?=some e)
  (hQ:∀ h',IsItemIterOut h' it d (i + 1) es.length ep e.key e.val s.heap.objs.size→
   h'.get? s.heap.objs.size=some (lq [e.key,e.val] 0)→(∀ b o,b≠it→s.heap.get? b=some o→h'.get? b=some o)→Q (some (.ref s.heap.objs.size)) { s with heap:=h' }):
  wpAny (model prog w) A (pyNext (.ref it)) Q E s:=by
 obtain ⟨hp,g,dr,tk,os⟩:=s
 have hT:Shared.TypeIs ⟨hp,g,dr,tk,os⟩ (.ref it) "dict_itemiterator" := ⟨_,hit,rfl⟩
 unfold pyNext
 refine wpAny_bind (wpAny_attempt (wpAny_callSpecial?_slot (name:=Str.ofString "__next__") hT F.slot_dict_itemiterator_next
  (wpAny_call_entry F.slot_dict_itemiterator_next hT F.entry_dict_itemiterator_next ?_ (F.args_dict_itemiterator_next_1 _))))
 refine wpAny_bind (wpAny_pure ?_)
 refine wpAny_bind ?_
 refine wpAny_bind ?_
 refine wpAny_bind (wpAny_typeNameOfWhole_itemiter hT (wpAny_pure ?_))
 refine wpAny_bind (wpAny_fieldsOf hit rfl ?_)
 have hown:Builtin.Dict_items.ownsTuple "dict_itemiterator" = true:=by decide
 simp only [hown,if_true]
 show wpAny _ _ (if (Value.ref d==Value.none)=true then _ else _) _ _ _
 rw [if_neg (show ¬((Value.ref d==Value.none)=true) from Bool.false_ne_true)]
 refine wpAny_bind (wpAny_pure ?_)
 refine wpAny_bind (wpAny_dictEntries hd rfl ?_)
 rw [if_neg (by simp)]
 refine wpAny_bind (wpAny_pure ?_)
 refine wpAny_bind (wpAny_dictEpoch hd rfl ?_)
 rw [if_neg (by simp)]
 refine wpAny_pure ?_
 obtain ⟨hlt,hxe⟩:=List.getElem?_eq_some_iff.mp hx
 have hga:es.toArray[i]?=some e:=by simpa using hx
 simp only [show ¬((i:Int) < 0) from by omega,if_false,Int.toNat_natCast,hga]
 refine wpAny_bind ?_
 refine wpAny_bind (wpAny_typeNameOfWhole_itemiter hT (wpAny_pure ?_))
 refine wpAny_bind (wpAny_isOneOf_itemiter hT ?_)
 show wpAny _ _ (setField (.ref it) 3 (rawInt ((i:Int) + 1)) >>= _) _ _ ⟨hp,g,dr,tk,os⟩
 refine wpAny_bind (wpAny_setField_rec hit (by simp) fun aG he1 cB=>?_)
 replace cB:Heap.SameBut it hp aG:=cB
 replace he1:IsItemIter aG it d (i + 1) es.length ep ok ov:=by
  have e:((i + 1:Nat):Int)=(i:Int) + 1:=by omega
  unfold IsItemIter;rw [e];simpa [rawInt] using he1
 have hT1:Shared.TypeIs ⟨aG,g,dr,tk,os⟩ (.ref it) "dict_itemiterator" := ⟨_,he1,rfl⟩
 refine wpAny_bind (wpAny_holding ?_)
 refine wpAny_bind (wpAny_isOneOf_itemiter hT1 ?_)
 refine wpAny_bind (wpAny_isOneOf_itemiter hT1 ?_)
 show wpAny _ _ (Builtin.Dict_items.pairFromOwner (.ref it) 6 e.key e.val) _ _ ⟨aG,g,dr,tk,os⟩
 unfold Builtin.Dict_items.pairFromOwner
 refine wpAny_bind (wpAny_newTuple ?_)
 have he2:IsItemIter (aG.push { cls:=.type "tuple",data:=.seq #[e.key,e.val] }) it d (i + 1) es.length ep ok ov:=Heap.get?_push_of_some _ he1
 generalize hh2:aG.push { cls:=.type "tuple",data:=.seq #[e.key,e.val] }=bu at he2
 have hz1:aG.objs.size=hp.objs.size:=cB.1
 have hil:it < hp.objs.size:=Heap.lt_size hit
 have ht2:bu.get? hp.objs.size=some (lq [e.key,e.val] 0):=by rw [← hh2,← hz1];exact Heap.get?_push_size _ rfl
 have ir:∀ b o,b≠it→hp.get? b=some o→bu.get? b=some o:=fun b o hb e=>by rw [← hh2];exact Heap.get?_push_of_some _ (cB.extBut b o hb e)
 show wpAny _ _ (Builtin.Dict_items.ownedTupleIsFree (.ref it) >>= _) _ _ ⟨bu,g,dr,tk,os⟩
 rw [hz1]
 clear hh2 he1 cB hT1 hz1 aG
 refine wpAny_bind ?_
 unfold Builtin.Dict_items.ownedTupleIsFree
 refine wpAny_bind (wpAny_field he2 rfl (x:=.none) rfl (wpAny_pure ?_))
 simp only [if_true]
 refine wpAny_bind (wpAny_field he2 rfl (x:=ok) rfl ?_)
 refine wpAny_bind (wpAny_field he2 rfl (x:=ov) rfl ?_)
 refine wpAny_bind (wpAny_setField_rec he2 (by simp) fun iJ he3 oa=>?_)
 replace oa:Heap.SameBut it bu iJ:=oa
 replace he3:IsItemIter iJ it d (i + 1) es.length ep e.key ov:=he3
 refine wpAny_bind (wpAny_setField_rec he3 (by simp) fun um he4 hs4=>?_)
 replace hs4:Heap.SameBut it iJ um:=hs4
 replace he4:IsItemIter um it d (i + 1) es.length ep e.key e.val:=he4
 refine wpAny_bind (wpAny_setField_rec he4 (by simp) fun pk he5 hs5=>?_)
 replace hs5:Heap.SameBut it um pk:=hs5
 replace he5:IsItemIterOut pk it d (i + 1) es.length ep e.key e.val hp.objs.size:=he5
 refine wpAny_bind (wpAny_setField_rec he5 (by simp) fun pj he6 hs6=>?_)
 replace hs6:Heap.SameBut it pk pj:=hs6
 replace he6:IsItemIterOut pj it d (i + 1) es.length ep e.key e.val hp.objs.size:=he6
 refine wpAny_bind (wpAny_letGo (wpAny_pure (wpAny_pure ⟨_,rfl,wpAny_pure (hQ pj he6 ?_ ?_)⟩)))
 ·exact hs6.extBut _ _ (Nat.ne_of_gt hil) (hs5.extBut _ _ (Nat.ne_of_gt hil) (hs4.extBut _ _ (Nat.ne_of_gt hil) (oa.extBut _ _ (Nat.ne_of_gt hil) ht2)))
 ·exact fun b o hb e=>hs6.extBut b o hb (hs5.extBut b o hb (hs4.extBut b o hb (oa.extBut b o hb (ir b o hb e))))
theorem sO {it d:Addr} {i ep:Nat} {es:List DictEntry} {ok ov:Value} {Q:Option Value→Shared→Prop} (hh:A.handled=none) (hit:IsItemIter s.heap it d i es.length ep ok ov)
  (hd:s.heap.get? d=some (cH es ep)) (hx:es[i]?=none)
  (hQ:∀ h',Heap.ExtBut it s.heap h'→Q none { s with heap:=h' }):wpAny (model prog w) A (pyNext (.ref it)) Q E s:=by
 have hT:s.TypeIs (.ref it) "dict_itemiterator" := ⟨_,hit,rfl⟩
 unfold pyNext
 refine wpAny_bind (wpAny_attempt (wpAny_callSpecial?_slot (name:=Str.ofString "__next__") hT F.slot_dict_itemiterator_next
  (wpAny_call_entry F.slot_dict_itemiterator_next hT F.entry_dict_itemiterator_next ?_ (F.args_dict_itemiterator_next_1 _))))
 refine wpAny_bind (wpAny_pure ?_)
 refine wpAny_bind ?_
 refine wpAny_bind ?_
 refine wpAny_bind (wpAny_typeNameOfWhole_itemiter hT (wpAny_pure ?_))
 refine wpAny_bind (wpAny_fieldsOf hit rfl ?_)
 have hown:Builtin.Dict_items.ownsTuple "dict_itemiterator" = true:=by decide
 simp only [hown,if_true]
 show wpAny _ _ (if (Value.ref d==Value.none)=true then _ else _) _ _ s
 rw [if_neg (show ¬((Value.ref d==Value.none)=true) from Bool.false_ne_true)]
 refine wpAny_bind (wpAny_pure ?_)
 refine wpAny_bind (wpAny_dictEntries hd rfl ?_)
 rw [if_neg (by simp)]
 refine wpAny_bind (wpAny_pure ?_)
 refine wpAny_bind (wpAny_dictEpoch hd rfl ?_)
 rw [if_neg (by simp)]
 refine wpAny_pure ?_
 have hga:es.toArray[i]?=none:=by simpa using hx
 simp only [show ¬((i:Int) < 0) from by omega,if_false,Int.toNat_natCast,hga]
 refine wpAny_bind ?_
 refine wpAny_bind (wpAny_typeNameOfWhole_itemiter hT (wpAny_pure ?_))
 show wpAny _ _ (setField (.ref it) 2 .none >>= _) _ _ s
 refine wpAny_bind (wpAny_setField hit rfl (by simp) ?_)
 show wpAny _ _ (newExc (.type "StopIteration") [] >>= _) _ _ _
 refine wpAny_bind ?_
 simp only [newExc,newTuple]
 refine wpAny_bind (wpAny_newObj_type ?_ (by size_fits))
 refine wpAny_bind (m:=firstArgMember _ _) (wpAny_of_eq (a:=Value.none) (by first | rfl | (simp only [firstArgMember];rfl)) ?_)
 refine wpAny_newObj_type ?_ (by size_fits)
 simp only [raiseNew]
 refine wpAny_bind (wpAny_handled ?_)
 rw [show A.in1.handled=none from hh]
 refine wpAny_bind (wpAny_pure (wpAny_throw ?_))
 refine wpAny_bind (wpAny_isInstance (T := "StopIteration") (b:=true) ⟨_,Heap.get?_push_size _ rfl,rfl⟩ isSubtype_stop ?_)
 exact wpAny_pure (hQ _ (((Heap.SameBut.update ..).extBut.push _).push _))
end
inductive bK (C:Cfg) (X Pn:AP) (h:Heap):Addr→List Addr→Addr→Bool→List V→Prop
 | list {I a:Addr} {k:Nat} {vs:List Value} {l:List V}:h.IsListIter I a k→LstAt h a vs→¬Pn a→RepVs C X h l (vs.drop k)→bK C X Pn h I [I] a false l
 | tup {I a:Addr} {k:Nat} {vs:List Value} {l:List V}:h.IsTupleIter I a k→TupAt h a vs→¬Pn a→RepVs C X h l (vs.drop k)→bK C X Pn h I [I] a false l
 | range {I:Addr} {x:Int} {n:Nat}:IsRangeIter h I x n 1→bK C X Pn h I [I] I false (bN n x)
 | rev {I a:Addr} {k:Nat} {vs:List Value} {l:List V}:h.IsRevIter I a ((k:Int) - 1)→LstAt h a vs→¬Pn a→k≤vs.length→RepVs C X h l (vs.take k).reverse→bK C X Pn h I [I] a false l
 | enum {e it a:Addr} {k:Nat} {vs:List Value} {l:List V} {old:Value}:IsEnum h e it k old→h.IsListIter it a k→LstAt h a vs→¬Pn a→RepVs C X h l (vs.drop k)→bK C X Pn h e [e,it] a true (lJ l k)
 | items {I d:Addr} {k ep:Nat} {es:List DictEntry} {ok ov:Value} {ks xs:List V}:IsItemIter h I d k es.length ep ok ov→h.get? d=some (cH es ep)→¬Pn d→es.length≤most→
   RepVs C X h ks ((es.drop k).map (·.key))→RepVs C X h xs ((es.drop k).map (·.val))→bK C X Pn h I [I] d true (qU ks xs)
structure gx (wr:List Addr) (s s':Shared):Prop where
 keep:∀ b o,b∉wr→s.heap.get? b=some o→s'.heap.get? b=some o
 gens:s'.gens=s.gens
 os:s'.os=s.os
def tgtOk:Expr→Bool→Bool
 | .Name _ _,o=>!o
 | .Tuple _ _ _,_=>true
 | _,_=>false
section
variable {C:Cfg} {X X' Pn Y:AP} {h h':Heap} {s s':Shared} {A:Around} {I a:Addr} {wr:List Addr} {o:Bool} {l:List V} {E:Value→Shared→Prop}
theorem bK.tr (t:∀ b o,h.get? b=some o→Kc o→¬Y b→h'.get? b=some o) (hY:∀ b,Y b→X b) (hw:∀ b∈wr,¬Y b) (ha:¬Y a) (r:bK C X Pn h I wr a o l):bK C X Pn h' I wr a o l:=by
 have T:Tr X h X h':=fun b o e hc hx=>⟨t b o e hc.ne fun q=>hx (hY b q),hx⟩
 cases r with
 | list h1 h2 h3 h4=>
  obtain ⟨x,e,c,d⟩:=h1;obtain ⟨z,n,e2⟩:=h2
  exact .list ⟨x,t _ _ e (aW c (by decide)) (hw _ (by simp)),c,d⟩ ⟨z,n,t _ _ e2 (aW rfl (by decide)) ha⟩ h3 (h4.tr T)
 | tup h1 h2 h3 h4=>
  obtain ⟨x,e,c,d⟩:=h1;obtain ⟨z,n,e2⟩:=h2
  exact .tup ⟨x,t _ _ e (aW c (by decide)) (hw _ (by simp)),c,d⟩ ⟨z,n,t _ _ e2 (aW rfl (by decide)) ha⟩ h3 (h4.tr T)
 | range h1=>exact .range (t _ _ h1 (aW rfl (by decide)) (hw _ (by simp)))
 | rev h1 h2 h3 h4 h5=>
  obtain ⟨x,e,c,d⟩:=h1;obtain ⟨z,n,e2⟩:=h2
  exact .rev ⟨x,t _ _ e (aW c (by decide)) (hw _ (by simp)),c,d⟩ ⟨z,n,t _ _ e2 (aW rfl (by decide)) ha⟩ h3 h4 (h5.tr T)
 | enum h1 h2 h3 h4 h5=>
  obtain ⟨x,e,c,d⟩:=h2;obtain ⟨z,n,e2⟩:=h3
  exact .enum (t _ _ h1 (aW rfl (by decide)) (hw _ (by simp))) ⟨x,t _ _ e (aW c (by decide)) (hw _ (by simp)),c,d⟩ ⟨z,n,t _ _ e2 (aW rfl (by decide)) ha⟩ h4 (h5.tr T)
 | items h1 h2 h3 h4 h5 h6=>
  exact .items (t _ _ h1 (aW rfl (by decide)) (hw _ (by simp))) (t _ _ h2 (aW rfl (by decide)) ha) h3 h4 (h5.tr T) (h6.tr T)
theorem bK.mono (t:Tr X h X' h) (r:bK C X Pn h I wr a o l):bK C X' Pn h I wr a o l:=by
 cases r with
 | list h1 h2 h3 h4=>exact .list h1 h2 h3 (h4.tr t)
 | tup h1 h2 h3 h4=>exact .tup h1 h2 h3 (h4.tr t)
 | range h1=>exact .range h1
 | rev h1 h2 h3 h4 h5=>exact .rev h1 h2 h3 h4 (h5.tr t)
 | enum h1 h2 h3 h4 h5=>exact .enum h1 h2 h3 h4 (h5.tr t)
 | items h1 h2 h3 h4 h5 h6=>exact .items h1 h2 h3 h4 (h5.tr t) (h6.tr t)
theorem bK.own (r:bK C X Pn h I wr a o l):I∈wr∧∀ b∈wr,∃ ob n,h.get? b=some ob∧ob.cls=.type n∧¬bG (.type n)∧n ≠ "frame" ∧ n ≠ "code" := by
 cases r with
 | list h1=>obtain ⟨x,e,c,d⟩:=h1;exact ⟨by simp,fun b hb=>by simp at hb;subst hb;exact ⟨x,_,e,c,by simp [bG],by decide,by decide⟩⟩
 | tup h1=>obtain ⟨x,e,c,d⟩:=h1;exact ⟨by simp,fun b hb=>by simp at hb;subst hb;exact ⟨x,_,e,c,by simp [bG],by decide,by decide⟩⟩
 | range h1=>exact ⟨by simp,fun b hb=>by simp at hb;subst hb;exact ⟨_,_,h1,rfl,by simp [bG],by decide,by decide⟩⟩
 | rev h1=>obtain ⟨x,e,c,d⟩:=h1;exact ⟨by simp,fun b hb=>by simp at hb;subst hb;exact ⟨x,_,e,c,by simp [bG],by decide,by decide⟩⟩
 | enum h1 h2=>
  obtain ⟨x,e,c,d⟩:=h2
  refine ⟨by simp,fun b hb=>?_⟩
  simp at hb
  rcases hb with rfl | rfl
  ·exact ⟨_,_,h1,rfl,by simp [bG],by decide,by decide⟩
  ·exact ⟨x,_,e,c,by simp [bG],by decide,by decide⟩
 | items h1=>exact ⟨by simp,fun b hb=>by simp at hb;subst hb;exact ⟨_,_,h1,rfl,by simp [bG],by decide,by decide⟩⟩
theorem bK.j4 (r:bK C X Pn h I wr a o l):∀ b∈wr,∀ ob,h.get? b=some ob→¬bG ob.cls:=fun b hb ob e=>by
 obtain ⟨ob',n,e',hc,hr,_⟩:=r.own.2 b hb
 rw [e] at e';cases e'
 rw [hc];exact hr
theorem gc {b c:Addr} {ob oc:Obj} {n:String} (hb:h.get? b=some ob) (hc:h.get? c=some oc) (e:oc.cls=.type n) (ne:ob.cls≠.type n):b≠c:=fun q=>by
 subst q;rw [hb] at hc;cases hc;exact ne e
theorem gg {tg:Expr} {v:Value} {ob:Obj} {n:String} {Q:Unit→Shared→Prop} (ht:tgtOk tg false=true) (ho:s.heap.get? I=some ob) (hc:ob.cls=.type n)
  (hn:(["enumerate","zip","dict_itemiterator","dict_reverseitemiterator","odict_iterator","itertools.zip_longest","itertools.pairwise"].contains n)=false) (q:Q () s):
  wpAny (model C.prog C.w) A (letOwnedTupleGo tg (.ref I) v) Q E s:=by
 cases tg <;> simp [tgtOk] at ht
 case Name=>exact wpAny_pure q
 case Tuple=>
  cases v with
  | ref b=>
   unfold letOwnedTupleGo
   refine wpAny_bind (wpAny_load ho ?_)
   obtain ⟨c,d,dt,sl⟩:=ob
   simp only at hc;subst hc
   cases dt with
   | fields vs=>
    show wpAny _ A (if ((["enumerate","zip","dict_itemiterator","dict_reverseitemiterator","odict_iterator","itertools.zip_longest","itertools.pairwise"].contains n)&&vs[0]?==some (rawInt b))=true then _ else _) Q E s
    rw [hn,Bool.false_and,if_neg (by simp)]
    exact wpAny_pure q
   | _=>exact wpAny_pure q
  | _=>exact wpAny_pure q
theorem mP {n:Nat} {x:Int} {v:V} {l:List V} (e:bN n x=v::l):∃ m,n=m + 1∧v=.int x∧l=bN m (x + 1):=by
 cases n with
 | zero=>cases e
 | succ m=>
  have e:V.int x::bN m (bR x (.ofNat 1))=v::l:=e
  rw [gP] at e
  cases e;exact ⟨m,rfl,rfl,rfl⟩
theorem bK.next {L:List V} {v:V} {tg:Expr} {Q:Value→Shared→Prop} (hlt:∀ b,X b→∃ o,s.heap.get? b=some o) (r:bK C X Pn s.heap I wr a o L) (e:L=v::l) (ht:tgtOk tg o=true)
  (hQ:∀ val s',gx wr s s'→RepV C X s'.heap v val→bK C X Pn s'.heap I wr a o l→Q val s'):
  wpAny (model C.prog C.w) A (pyNext (.ref I)) (fun r s₁=>∃ val,r=some val∧wpAny (model C.prog C.w) A (letOwnedTupleGo tg (.ref I) val) (fun _ s₂=>Q val s₂) E s₁) E s:=by
 have hnew:¬X s.heap.objs.size:=fun q=>let ⟨_,ho⟩:=hlt _ q;Nat.lt_irrefl _ (Heap.lt_size ho)
 have hW:=r.j4
 cases r with
 | list h1 h2 h3 h4=>
  rename_i k vs
  subst e
  have hlt:k < vs.length:=by
   have:=h4.length;simp at this;omega
  rw [List.drop_eq_getElem_cons hlt,RepVs.dY] at h4
  obtain ⟨oI,eI,cI,dI⟩:=id h1
  obtain ⟨z,n,ea⟩:=id h2
  have hne:a≠I:=gc ea eI cI (by simp [cy])
  refine wpAny_pyNext_list_item h1 h2.isList (x:=vs[k]) (by simp) fun h' hit hs=>⟨_,rfl,?_⟩
  obtain ⟨oI',eI',cI',_⟩:=id hit
  have T:Tr X s.heap X h':=fun b ob eb hc hx=>⟨hs.extBut b ob (fun q=>hW b (by simp [q]) ob eb hc) eb,hx⟩
  refine gg (I:=I) ht eI' cI' (by decide) (hQ _ _ ⟨fun b ob hb eb=>hs.extBut b ob (by simpa using hb) eb,rfl,rfl⟩ (h4.1.tr T) (.list hit ⟨z,n,hs.extBut a _ hne ea⟩ h3 (h4.2.tr T)))
 | tup h1 h2 h3 h4=>
  rename_i k vs
  subst e
  have hlt:k < vs.length:=by
   have:=h4.length;simp at this;omega
  rw [List.drop_eq_getElem_cons hlt,RepVs.dY] at h4
  obtain ⟨oI,eI,cI,dI⟩:=id h1
  obtain ⟨z,n,ea⟩:=id h2
  have hne:a≠I:=gc ea eI cI (by simp [lq])
  refine wpAny_pyNext_tuple_item h1 h2.ec (x:=vs[k]) (by simp) fun h' hit hs=>⟨_,rfl,?_⟩
  obtain ⟨oI',eI',cI',_⟩:=id hit
  have T:Tr X s.heap X h':=fun b ob eb hc hx=>⟨hs.extBut b ob (fun q=>hW b (by simp [q]) ob eb hc) eb,hx⟩
  refine gg (I:=I) ht eI' cI' (by decide) (hQ _ _ ⟨fun b ob hb eb=>hs.extBut b ob (by simpa using hb) eb,rfl,rfl⟩ (h4.1.tr T) (.tup hit ⟨z,n,hs.extBut a _ hne ea⟩ h3 (h4.2.tr T)))
 | range h1=>
  obtain ⟨m,rfl,rfl,rfl⟩:=mP e
  refine wpAny_pyNext_range_item h1 (by omega) fun h' hit hs=>⟨_,rfl,?_⟩
  have e2:((m + 1:Nat):Int) - 1=(m:Int):=by omega
  rw [e2] at hit
  refine gg (I:=I) ht hit rfl (by decide) (hQ _ _ ⟨fun b ob hb eb=>hs.extBut b ob (by simpa using hb) eb,rfl,rfl⟩ (by simp [RepV]) (.range hit))
 | rev h1 h2 h3 hk h4=>
  rename_i k vs
  subst e
  cases k with
  | zero=>simp [RepVs] at h4
  | succ k=>
   have hlt:k < vs.length:=hk
   have et:vs.take (k + 1)=vs.take k++[vs[k]]:=by simp
   rw [et,List.reverse_append,List.reverse_singleton,List.singleton_append,RepVs.dY] at h4
   obtain ⟨oI,eI,cI,dI⟩:=id h1
   obtain ⟨z,n,ea⟩:=id h2
   have hne:a≠I:=gc ea eI cI (by simp [cy])
   have e3:((k + 1:Nat):Int) - 1=(k:Int):=by omega
   rw [e3] at h1
   refine wpAny_pyNext_rev_item h1 h2.isList (x:=vs[k]) (by simp) fun h' hit hs=>⟨_,rfl,?_⟩
   obtain ⟨oI',eI',cI',_⟩:=id hit
   have T:Tr X s.heap X h':=fun b ob eb hc hx=>⟨hs.extBut b ob (fun q=>hW b (by simp [q]) ob eb hc) eb,hx⟩
   refine gg (I:=I) ht eI' cI' (by decide) (hQ _ _ ⟨fun b ob hb eb=>hs.extBut b ob (by simpa using hb) eb,rfl,rfl⟩ (h4.1.tr T) (.rev hit ⟨z,n,hs.extBut a _ hne ea⟩ h3 (by omega) (h4.2.tr T)))
 | enum h1 h2 h3 h4 h5=>
  rename_i it k vs ll old
  cases ll with
  | nil=>cases e
  | cons u ll=>
   have e:V.tup [.int (.ofNat k),u]::lJ ll (k + 1)=v::l:=e
   cases e
   have hlt:k < vs.length:=by
    have:=h5.length;simp at this;omega
   rw [List.drop_eq_getElem_cons hlt,RepVs.dY] at h5
   obtain ⟨oI,eI,cI,dI⟩:=id h2
   obtain ⟨z,n,ea⟩:=id h3
   have hn1:a≠it:=gc ea eI cI (by simp [cy])
   have hn2:a≠I:=gc ea h1 rfl (by simp [cy])
   have hn3:I≠it:=gc h1 eI cI (by simp)
   have hT:I≠s.heap.objs.size:=Nat.ne_of_lt (Heap.lt_size h1)
   cases tg <;> simp [tgtOk] at ht
   refine wpAny_pyNext_enum_item h1 h2 h3.isList (x:=vs[k]) (by simp) hn3 fun h' hit hit2 htup _ hs=>⟨_,rfl,?_⟩
   refine wpAny_letOwnedTupleGo_enum hit fun bu he2 eO=>?_
   have kp:∀ b ob,b≠I→b≠it→s.heap.get? b=some ob→bu.get? b=some ob:=fun b ob hb hb' eb=>eO.extBut b ob hb (hs b ob hb hb' eb)
   have T:Tr X s.heap X bu:=fun b ob eb hc hx=>⟨kp b ob (fun q=>hW b (by simp [q]) ob eb hc) (fun q=>hW b (by simp [q]) ob eb hc) eb,hx⟩
   have htup2:TupAt bu s.heap.objs.size [.int (k:Int) s.toks,vs[k]]:=⟨by simp [most],0,eO.extBut _ _ (Ne.symm hT) htup⟩
   refine hQ _ _ ⟨fun b ob hb eb=>kp b ob (fun q=>hb (by simp [q])) (fun q=>hb (by simp [q])) eb,rfl,rfl⟩ ?_ ?_
   ·simp only [RepV]
    exact ⟨_,_,rfl,hnew,htup2,.cons (by simp [RepV]) (.cons (h5.1.tr T) .nil)⟩
   ·exact .enum (by simpa using he2) (hit2.extBut eO.extBut (Ne.symm hn3)) ⟨z,n,kp a _ hn2 hn1 ea⟩ h4 (h5.2.tr T)
 | items h1 h2 h3 h4 h5 h6=>
  rename_i k ep es ok ov ks xs
  cases ks with
  | nil=>cases e
  | cons u ks=>cases xs with
   | nil=>cases e
   | cons y xs=>
    have e:V.tup [u,y]::qU ks xs=v::l:=e
    cases e
    have hlt:k < es.length:=by
     have:=h5.length;simp at this;omega
    rw [List.drop_eq_getElem_cons hlt,List.map_cons,RepVs.dY] at h5 h6
    have hn2:a≠I:=gc h2 h1 rfl (by simp [cH])
    have hT:I≠s.heap.objs.size:=Nat.ne_of_lt (Heap.lt_size h1)
    cases tg <;> simp [tgtOk] at ht
    refine rD h1 h2 (e:=es[k]) (by simp) fun h' hit htup hs=>⟨_,rfl,?_⟩
    refine wpAny_letOwnedTupleGo_items hit fun bu he2 eO=>?_
    have kp:∀ b ob,b≠I→s.heap.get? b=some ob→bu.get? b=some ob:=fun b ob hb eb=>eO.extBut b ob hb (hs b ob hb eb)
    have T:Tr X s.heap X bu:=fun b ob eb hc hx=>⟨kp b ob (fun q=>hW b (by simp [q]) ob eb hc) eb,hx⟩
    have htup2:TupAt bu s.heap.objs.size [es[k].key,es[k].val]:=⟨by simp [most],0,eO.extBut _ _ (Ne.symm hT) htup⟩
    refine hQ _ _ ⟨fun b ob hb eb=>kp b ob (fun q=>hb (by simp [q])) eb,rfl,rfl⟩ ?_ ?_
    ·simp only [RepV]
     exact ⟨_,_,rfl,hnew,htup2,.cons (h5.1.tr T) (.cons (h6.1.tr T) .nil)⟩
    ·exact .items he2 (kp a _ hn2 h2) h3 h4 (h5.2.tr T) (h6.2.tr T)
theorem bK.stop {L:List V} {Q:Option Value→Shared→Prop} (hh:A.handled=none) (r:bK C X Pn s.heap I wr a o L) (e:L=[]) (hQ:∀ s',gx wr s s'→Q none s'):
  wpAny (model C.prog C.w) A (pyNext (.ref I)) Q E s:=by
 cases r with
 | list h1 h2 h3 h4=>
  rename_i k vs
  subst e
  have hge:vs.length≤k:=by have:=h4.length;simp at this;omega
  exact wpAny_pyNext_list_end hh h1 h2.isList (by simp;omega) fun h' he=>hQ _ ⟨fun b ob hb eb=>he b ob (by simpa using hb) eb,rfl,rfl⟩
 | tup h1 h2 h3 h4=>
  rename_i k vs
  subst e
  have hge:vs.length≤k:=by have:=h4.length;simp at this;omega
  exact wpAny_pyNext_tuple_end hh h1 h2.ec (by simp;omega) fun h' he=>hQ _ ⟨fun b ob hb eb=>he b ob (by simpa using hb) eb,rfl,rfl⟩
 | range h1=>
  rename_i x n
  cases n with
  | succ n=>cases e
  | zero=>exact wpAny_pyNext_range_end hh h1 (by omega) fun h' he=>hQ _ ⟨fun b ob hb eb=>he b ob (by simpa using hb) eb,rfl,rfl⟩
 | rev h1 h2 h3 hk h4=>
  rename_i k vs
  subst e
  have hk0:k=0:=by have:=h4.length;rw [List.length_reverse,List.length_take,List.length_nil] at this;omega
  subst hk0
  exact wpAny_pyNext_rev_end hh h1 fun h' he=>hQ _ ⟨fun b ob hb eb=>he b ob (by simpa using hb) eb,rfl,rfl⟩
 | enum h1 h2 h3 h4 h5=>
  rename_i it k vs ll old
  cases ll with
  | cons u ll=>cases e
  | nil=>
   have hge:vs.length≤k:=by have:=h5.length;simp at this;omega
   exact wpAny_pyNext_enum_end hh h1 h2 h3.isList (by simp;omega) fun h' he=>hQ _ ⟨fun b ob hb eb=>he b ob (fun q=>hb (by simp [q])) eb,rfl,rfl⟩
 | items h1 h2 h3 h4 h5 h6=>
  rename_i k ep es ok ov ks xs
  have hl:=h5.length
  have hl':=h6.length
  have hge:es.length≤k:=by
   cases ks with
   | nil=>simp at hl;omega
   | cons u ks=>cases xs with
    | nil=>simp at hl';omega
    | cons y xs=>cases e
  exact sO hh h1 h2 (by simp;omega) fun h' he=>hQ _ ⟨fun b ob hb eb=>he b ob (by simpa using hb) eb,rfl,rfl⟩
theorem jM:entryFor table "dict_itemiterator.__iter__" = some Builtin.«dict_keyiterator.__iter__»:=
 entryFor_alias (id' := "dict_keyiterator.__iter__") (by kernel_rfl) rfl (by decide +kernel) (by kernel_rfl)
theorem bK.self {L:List V} {Q:Value→Shared→Prop} (r:bK C X Pn s.heap I wr a o L) (h:Q (.ref I) s):wpAny (model C.prog C.w) A (pyIter (.ref I)) Q E s:=by
 cases r with
 | list h1=>exact wpAny_pyIter_listiter h1 h
 | tup h1=>exact wpAny_pyIter_tupleiter h1 h
 | range h1=>exact wpAny_pyIter_rangeiter h1 h
 | rev h1=>exact wpAny_pyIter_revIter h1 h
 | enum h1=>exact wpAny_pyIter_enum h1 h
 | items h1=>
  have hT:s.TypeIs (.ref I) "dict_itemiterator" := ⟨_,h1,rfl⟩
  refine wpAny_pyIter_slot hT PySem.F.slot_dict_itemiterator_iter (wpAny_call_entry PySem.F.slot_dict_itemiterator_iter hT jM ?_ (PySem.F.args_dict_itemiterator_iter_1 _))
  show wpAny _ _ (ret (.ref I)) _ _ s
  exact wpAny_pure ⟨_,rfl,"dict_itemiterator",_,hT,PySem.F.slot_dict_itemiterator_next.lookup,h⟩
end
def dj:List Str:=["len","abs","any","dict","list","tuple","sorted","str","sum","max","min","range","enumerate","reversed","isinstance"]
structure dv (C:Cfg) (fns:List (Str×Nat)) (glb:List (Str×V)) (mg mb:Str→Option Value):Prop where
 g:C.h₀.Ns mainGlobals mg
 b:C.h₀.Ns builtinsNs mb
 bi:∀ x:Str,x ≠ "__name__" → mb x=bootBuiltins x
 free:∀ x∈dj,mg x=none
 defs:∀ x i,fns.lookup x=some i→mg x=some (.ref (C.fa i))
 fobj:∀ x i,fns.lookup x=some i→∃ o fd,C.h₀.get? (C.fa i)=some o∧o.data=.func fd
 consts:∀ x v,glb.lookup x=some v→∃ val,mg x=some val∧RepV C (fun _=>False) C.h₀ v val
 nolimit:C.h₀.NoLimit
 sys:∃ o,C.h₀.get? sysModules=some o
 cls:∃ q,C.cls=.ref q
section
variable {C:Cfg} {fns:List (Str×Nat)} {glb:List (Str×V)} {mg mb:Str→Option Value} {cx:Cx} {b:Bool} {X Pn:AP} {s s':Shared} {A:Around} {n:Nat} {ρ:Fr} {p p':List V} {env:Env} {Q E:Value→Shared→Prop}
theorem Base.ns {h:Heap} (hb:Base C h) {a:Addr} {m:Str→Option Value} (x:C.h₀.Ns a m):h.Ns a m:=x.at' fun o e=>hb a o e
theorem Base.rep {h:Heap} (hb:Base C h) (hf:∀ b,X b→C.h₀.get? b=none) {v:V} {val:Value} (r:RepV C (fun _=>False) C.h₀ v val):RepV C X h v val:=
 r.tr fun a o e _ _=>⟨hb a o e,fun hx=>by rw [hf a hx] at e;cases e⟩
theorem il {x:Str} {pos:Pos} {val:Value} (W:dv C fns glb mg mb) (hv:Vw C cx X Pn env ρ p s.heap) (hx:aM x=true) (hG:cx.du x=true) (hm:mg x=some val) (q:Q val s):
  wpAny (model C.prog C.w) A (eval (.Name x pos) env) Q E s:=
 Name_function_global hv.kind (hv.glob x hG) (loadGlobal_global (by rw [hv.globals];exact hv.base.ns W.g) hm q) (bW hx)
theorem dg {x:Str} {pos:Pos} {val:Value} (W:dv C fns glb mg mb) (hv:Vw C cx X Pn env ρ p s.heap) (hx:aM x=true) (hG:cx.du x=true) (hm:x∈dj) (hb:bootBuiltins x=some val) (q:Q val s):
  wpAny (model C.prog C.w) A (eval (.Name x pos) env) Q E s:=
 Name_function_global hv.kind (hv.glob x hG) (loadGlobal_builtin (mg:=mg) (mb:=mb) (by rw [hv.globals];exact hv.base.ns W.g) (W.free x hm) (by rw [hv.builtins];exact hv.base.ns W.b)
  (by rw [W.bi x (by rintro rfl;revert hm;decide)];exact hb) q) (bW hx)
theorem az.glob {x:Str} {pos:Pos} {v:V} (W:dv C fns glb mg mb) (hx:aM x=true) (hG:cx.du x=true) (hl:glb.lookup x=some v):az C cx b (.Name x pos) (cK v):=by
 intro n call hc X Pn env ρ p s A Q E hv hk hr N
 obtain ⟨val,hm,hrep⟩:=W.consts x v hl
 exact il W hv hx hG hm (N.ok rfl (.refl hv.base) hv.au (hv.base.rep hv.fresh hrep))
theorem lU {e:Expr} {pos:Pos} (hs:∀ x p,e≠.Starred x p):backTo pos (starEach [e] env)=[(false,eval e env)]:=by rw [aJ hs];rfl
theorem jP {e f:Expr} {pos:Pos} (hs:∀ x p,e≠.Starred x p) (hs':∀ x p,f≠.Starred x p):backTo pos (starEach [e,f] env)=[(false,eval e env),(false,eval f env)]:=by
 rw [aJ hs,aJ hs'];rfl
inductive lP:Value→Prop
 | fn (id:String):lP (.builtin id)
 | ty (T:String):lP (.type T)
theorem mC {f:Value} (hf:lP f) {M:Model} {pos:Pos} {first:List Value} {args:List (Bool×Sem Value)} (hplain:args.any (·.1)=false)
  (h:wpAny M A (evalArgs f true args []) (fun a s₁=>wpAny M A (PySem.call f (first++a.pos) a.kw) Q E s₁) E s):wpAny M A (callWith pos f first args []) Q E s:=by
 cases hf with
 | fn id=>exact callWith_builtin hplain h
 | ty T=>exact PyProof.Rows.callWith_type hplain h
theorem jD {f:Value} (hf:lP f) {M:Model} {pos:Pos} {t:Sem Value} (h:wpAny M A t (fun v s₁=>wpAny M A (PySem.call f [v]) Q E s₁) E s):wpAny M A (callWith pos f [] [(false,t)] []) Q E s:=
 mC hf rfl (evalArgs_plain (spliced_cons (wpAny_mono h (fun _ _ aG=>spliced_nil aG) fun _ _ x=>x)))
theorem call2 {f:Value} (hf:lP f) {M:Model} {pos:Pos} {t u:Sem Value} (h:wpAny M A t (fun v s₁=>wpAny M A u (fun w s₂=>wpAny M A (PySem.call f [v,w]) Q E s₂) E s₁) E s):
  wpAny M A (callWith pos f [] [(false,t),(false,u)] []) Q E s:=
 mC hf rfl (evalArgs_plain (spliced_cons (wpAny_mono h (fun _ _ aG=>spliced_cons (wpAny_mono aG (fun _ _ bu=>spliced_nil bu) fun _ _ x=>x)) fun _ _ x=>x)))
theorem az.b1 {f:Str} {g:V→Option V} {fv:Value} {x:Expr} {d:aq} {np pos:Pos} (W:dv C fns glb mg mb) (hf:aM f=true) (hG:cx.du f=true) (hm:f∈dj) (hb:bootBuiltins f=some fv) (hB:lP fv)
  (hx:az C cx true x d) (hs:∀ e p,x≠.Starred e p) (ho:fR C g (fun v=>PySem.call fv [v])):az C cx b (.Call (.Name f np) [x] [] pos) (Mine.c1 g d):=by
 intro n call hc X Pn env ρ p s A Q E hv hk hr N
 have N:=N.o
 rw [show (Mine.c1 g d call ρ p).out=(d call ρ p).out.bind fun a p=>(@Option.rec V (fun _=>Res) Res.stuck (fun v=>Res.ok v p) (g a)).out from cv _ _] at N
 refine wpAny_Call_NameR (dg W hv hf hG hm hb ?_)
 rw [lU hs]
 refine jD hB (hx.run hc hv hk hr N fun v p₁ val s₁ hn v1 k₁ hval N1=>?_)
 cases hg:g v with
 | none=>rw [hg] at N1;exact absurd rfl N1.1
 | some r=>
  rw [hg] at N1
  exact ho n X Pn p₁ s₁ A Q E v r val (v1.pre k₁ hr) hg hval.b fun val' s' hkp hrep=>N1.kp v1.base v1.au hkp _ (.of hrep)
theorem az.b2 {f:Str} {g:V→V→Option V} {fv:Value} {x y:Expr} {d d':aq} {np pos:Pos} (W:dv C fns glb mg mb) (hf:aM f=true) (hG:cx.du f=true) (hm:f∈dj) (hb:bootBuiltins f=some fv) (hB:lP fv)
  (hx:az C cx true x d) (hs:∀ e p,x≠.Starred e p) (hy:az C cx true y d') (hs':∀ e p,y≠.Starred e p) (ho:d9 C g (fun v w=>PySem.call fv [v,w])):az C cx b (.Call (.Name f np) [x,y] [] pos) (Mine.c2 g d d'):=by
 intro n call hc X Pn env ρ p s A Q E hv hk hr N
 have N:=N.o
 rw [show (Mine.c2 g d d' call ρ p).out=(d call ρ p).out.bind fun a p=>(@Res.rec (fun _=>Res) Res.stuck (fun b p=>@Option.rec V (fun _=>Res) Res.stuck (fun v=>Res.ok v p) (g a b)) Res.exc (d' call ρ p)).out from cv _ _] at N
 refine wpAny_Call_NameR (dg W hv hf hG hm hb ?_)
 rw [jP hs hs']
 refine call2 hB (hx.run hc hv hk hr N fun v p₁ val s₁ hn v1 k₁ hval N1=>?_)
 rw [cv] at N1
 refine hy.run hc v1 k₁ hr N1 fun w aO val' s₂ bT v2 k₂ hval' N2=>?_
 cases hg:g v w with
 | none=>rw [hg] at N2;exact absurd rfl N2.1
 | some r=>
  rw [hg] at N2
  exact ho n X Pn aO s₂ A Q E v w r val val' (v2.pre k₂ hr) hg (hval.b.ext bT.ext v1.pnX) hval'.b fun val'' s' hkp hrep=>N2.kp v2.base v2.au hkp _ (.of hrep)
end
section
variable {C:Cfg} {cx:Cx} {b:Bool} {X Pn:AP} {s s':Shared} {A:Around} {n:Nat} {ρ:Fr} {p p':List V} {env:Env} {Q E:Value→Shared→Prop}
theorem mB {T id:String} {B:Builtin} {v:Value} {n:Nat} {Q:Value→Shared→Prop} (hT:s.TypeIs v T) (slot:PySem.Slot T "__len__" id)
  (entry:entryFor table id=some B) (args:argsOk id ⟨[v],[]⟩) (g:∀ (E:Value→Shared→Prop) (Q':Fin→Shared→Prop) (A':Around),Q' (.done (.ret (.int n s.toks))) { s with toks:=s.toks + 1 }→wpAny (model C.prog C.w) A' (B ⟨[v],[]⟩) Q' E s) (hfit:n≤100000)
  (h:Q (.int n (s.toks + 1)) { s with toks:=s.toks + 1 + 1 }):wpAny (model C.prog C.w) A (call (.builtin "len") [v]) Q E s:=by
 refine Calls.call_function_entry kind_len plain_len entry_len (args_len1 _) ?_
 unfold Builtin.«len»
 refine wpAny_bind (m:=oneArg "len" _) (wpAny_pure ?_)
 refine wpAny_bind (m:=callSpecial? v (Str.ofString "__len__")) (wpAny_callSpecial?_slot (name:=Str.ofString "__len__") hT slot
  (wpAny_call_entry slot hT entry (g _ _ _ ⟨_,rfl,?_⟩) args))
 show wpAny _ _ _ _ _ { s with toks:=s.toks + 1 }
 refine wpAny_bind (wpAny_holding (wpAny_pure ?_))
 refine wpAny_bind (wpAny_letGo ?_)
 show wpAny _ _ (if (n:Int) < 0 then _ else _) _ _ _
 rw [if_neg (by omega)]
 show wpAny _ _ (if (n:Int)≥2 ^ 63 then _ else _) _ _ _
 rw [if_neg (by omega)]
 exact wpAny_bind (wpAny_mkInt (wpAny_pure ⟨_,rfl,h⟩))
theorem AM:fR C aD (fun v=>PySem.call (.builtin "len") [v]):=by
 intro n X Pn p s A Q E a v va P hf ha h
 have hm:most=8000:=rfl
 cases a <;> simp only [aD] at hf <;> (try cases hf)
 case tup l=>
  obtain ⟨a,vs,rfl,⟨hz,k,ht⟩,hl⟩:=ha.tup
  have hlen:=hl.length
  refine PySem.P.len_tuple (n:=k) (items:=vs.toArray) ht (by simp;omega) (h _ _ (.toks _) ?_)
  rw [bD];simp [RepV,hlen]
 case lst l=>
  obtain ⟨a,vs,rfl,ht,hl⟩:=ha.lst
  have hlen:=hl.length
  have hz:=ht.1
  refine call_len_list (items:=vs.toArray) ht.isList (by simp;omega) (h _ _ (.toks _) ?_)
  rw [bD];simp [RepV,hlen]
 case aQ ks xs=>
  obtain ⟨d,es,rfl,⟨⟨hsys,hz⟩,k,hd⟩,h1,h2,h3,h4⟩:=ha.aQ
  have hlen:=h1.length
  have hT:s.TypeIs (.ref d) "dict" := ⟨_,hd,rfl⟩
  refine mB (C:=C) (n:=es.length) hT F.slot_dict_len F.entry_dict_len (F.args_dict_len_1 _) (fun E' Q' A' hq=>?_) (by omega) (h _ _ (.toks _) ?_)
  ·show wpAny _ _ (dictSize d >>= _) _ _ s
   unfold dictSize
   refine wpAny_bind (wpAny_bind (wpAny_dictEntries hd rfl (wpAny_pure ?_)))
   show wpAny _ _ (Builtin.Dict.pendingCount d >>= _) _ _ s
   refine wpAny_bind (wpAny_pendingCount_other hsys ?_)
   refine wpAny_bind (wpAny_mkInt (wpAny_pure ?_))
   simpa using hq
  ·rw [bD];simp only [List.length_map] at hlen;simp [RepV,hlen]
theorem AO:fR C gB (fun v=>PySem.call (.builtin "abs") [v]):=by
 intro n X Pn p s A Q E a v va P hf ha h
 cases a <;> simp only [gB] at hf <;> (try cases hf)
 case int i=>
  obtain ⟨t,rfl⟩:=ha.int
  refine call_abs_int fun u tk=>h _ _ (.toks _) ?_
  have e:yA i=if i < 0 then -i else i:=by
   cases i with
   | ofNat n=>rw [if_neg (by simp only [Int.ofNat_eq_natCast];omega)];rfl
   | negSucc n=>rw [if_pos (Int.negSucc_lt_zero n)];rfl
  rw [← e];simp [RepV]
theorem yv:d9 C gK (fun v w=>PySem.call (.builtin "max") [v,w]):=by
 intro n X Pn p s A Q E a b v va vb P hf ha hb h
 cases a <;> cases b <;> simp only [gK] at hf <;> (try cases hf)
 case int.int x y=>
  obtain ⟨t,rfl⟩:=ha.int;obtain ⟨u,rfl⟩:=hb.int
  refine max_two_ints P.room.handled fun h' tk hk=>h _ _ ⟨hk,rfl,rfl⟩ ?_
  simp only [RepV]
  unfold fX;rw [d5]
  by_cases hxy:y > x
  ·rw [if_pos hxy,decide_eq_true hxy];exact ⟨u,rfl⟩
  ·rw [if_neg hxy,decide_eq_false hxy];exact ⟨t,rfl⟩
theorem yu:d9 C n8 (fun v w=>PySem.call (.builtin "min") [v,w]):=by
 intro n X Pn p s A Q E a b v va vb P hf ha hb h
 cases a <;> cases b <;> simp only [n8] at hf <;> (try cases hf)
 case int.int x y=>
  obtain ⟨t,rfl⟩:=ha.int;obtain ⟨u,rfl⟩:=hb.int
  refine min_two_ints P.room.handled fun h' tk hk=>h _ _ ⟨hk,rfl,rfl⟩ ?_
  simp only [RepV]
  unfold xT;rw [d5]
  by_cases hxy:y < x
  ·rw [if_pos hxy,decide_eq_true hxy];exact ⟨u,rfl⟩
  ·rw [if_neg hxy,decide_eq_false hxy];exact ⟨t,rfl⟩
theorem w3:fR C ff (fun v=>PySem.call (.builtin "isinstance") [v,.type "str"]):=by
 intro n X Pn p s A Q E a v va P hf ha h
 cases a <;> simp only [ff] at hf <;> (try cases hf)
 case str x=>
  obtain ⟨y,t,rfl,_⟩:=ha.str
  exact IsiPair.str_str (h _ _ .refl (by simp [RepV]))
 case tup l=>
  obtain ⟨a,vs,rfl,⟨hz,k,ht⟩,hl⟩:=ha.tup
  exact call_isinstance (isinstance_false_tuple (a:=a) (by decide +kernel) F.isi_meta_str PySem.F.sub_tuple_str) ⟨⟨_,ht,rfl⟩,h _ _ (.toks _) (by simp [RepV])⟩
 case lst l=>
  obtain ⟨a,vs,rfl,⟨hz,k,ht⟩,hl⟩:=ha.lst
  exact call_isinstance (isinstance_false_list (a:=a) (by decide +kernel) F.isi_meta_str PySem.F.sub_list_str) ⟨⟨_,ht,rfl⟩,h _ _ (.toks _) (by simp [RepV])⟩
theorem yw:fR C cV (fun v=>PySem.call (.type "list") [v]):=by
 intro n X Pn p s A Q E a v va P hf ha h
 have hm:most=8000:=rfl
 have fin:∀ {T:String} {a:Addr} {vs:List Value} {l:List V} {o:Obj} {k:Nat},(T = "list" ∨ T = "tuple")→s.heap.get? a=some o→o.cls=.type T→o.data=.seq vs.toArray k→vs.length≤most→RepVs C X s.heap l vs→v=.lst l→
   wpAny (model C.prog C.w) A (PySem.call (.type "list") [.ref a]) Q E s:=by
  intro T a vs l o k hT ho hc hd hz hl e
  subst e
  refine call_list_seq a hT ho hc hd (fun h' c' hk hn=>?_) (by simp [aT];omega)
  have kp:Kp s { s with heap:=h' }:=⟨hk,rfl,rfl⟩
  refine h _ _ kp ?_
  simp only [RepV]
  exact ⟨_,vs,rfl,fun hx=>let ⟨_,ho⟩:=P.lt _ hx;Nat.lt_irrefl _ (Heap.lt_size ho),⟨hz,c',hn⟩,hl.tr kp.tr⟩
 cases a <;> simp only [cV,itemsOf] at hf <;> (try cases hf)
 case tup l=>
  obtain ⟨a,vs,rfl,⟨hz,k,ht⟩,hl⟩:=ha.tup
  exact fin (.inr rfl) ht rfl rfl hz hl rfl
 case lst l=>
  obtain ⟨a,vs,rfl,⟨hz,k,ht⟩,hl⟩:=ha.lst
  exact fin (.inl rfl) ht rfl rfl hz hl rfl
theorem w0:fR C d0 (fun v=>PySem.call (.type "tuple") [v]):=by
 intro n X Pn p s A Q E a v va P hf ha h
 have hm:most=8000:=rfl
 cases a <;> simp only [d0] at hf <;> (try cases hf)
 case lst l=>
  obtain ⟨a,vs,rfl,ht,hl⟩:=ha.lst
  have hz:=ht.1
  refine call_tuple_list ht.isList (fun h' hk=>?_) (by simp [aT];omega)
  have kp:Kp s { s with heap:=h' }:=⟨hk,rfl,rfl⟩
  have hP:aZ C n X Pn p A { s with heap:=h' }:=
   ⟨P.room,P.stk.ext (kp.nx (Pn:=Pn) P.base).ext P.au,kp.au P.au,P.pnX,(kp.nx (Pn:=Pn) P.base).ext.base,fun b hb=>let ⟨o,ho⟩:=P.lt b hb;⟨o,kp.keep _ _ ho⟩,P.fresh,P.tab.keeps kp.keep⟩
  exact h _ _ (kp.trans (.push _)) (RepV.md hP (hl.tr kp.tr) hz)
theorem nP {h:Heap}:∀ {l:List V} {r:Bool} {vs:List Value},anyL l=some r→RepVs C X h l vs→∃ bs:List Bool,vs=bs.map Value.bool∧r=bs.any id
 | [],r,vs,e,q=>by
  simp only [anyL] at e;cases e
  simp only [RepVs] at q;subst q
  exact ⟨[],rfl,rfl⟩
 | v::l,r,vs,e,q=>by
  simp only [RepVs] at q
  obtain ⟨x,rest,rfl,q1,q2⟩:=q
  cases v with
  | bool b=>
   simp only [RepV] at q1;subst q1
   cases hl:anyL l with
   | none=>simp [anyL,hl] at e
   | some c=>
    obtain ⟨bs,rfl,rfl⟩:=nP hl q2
    refine ⟨b::bs,rfl,?_⟩
    simp only [anyL,hl,Option.some.injEq] at e
    subst e
    cases b <;> rfl
  | _=>simp [anyL] at e
theorem rY {Q:Value→Shared→Prop} {a:Addr} {vs:List Value} (hl:LstAt s.heap a vs)
  (h:∀ s₂:Shared,(s₂.heap.IsListIter s.heap.objs.size a 0∧s₂.heap.IsList a vs.toArray)→(∀ b∈[s.heap.objs.size,a],b < s₂.heap.objs.size)→a≠s.heap.objs.size→
   (∀ h' tk,(∀ b o,b∉[s.heap.objs.size]→s₂.heap.get? b=some o→h'.get? b=some o)→Kp s { s₂ with heap:=h',toks:=tk })→Q (.ref s.heap.objs.size) s₂):
  wpAny (model C.prog C.w) A (pyIter (.ref a)) Q E s:=by
 have hlt:a < s.heap.objs.size:=by obtain ⟨_,n,e⟩:=hl;exact Heap.lt_size e
 refine wpAny_pyIter_list hl.isList (h _ ⟨⟨_,Heap.get?_push_size _ rfl,rfl,rfl⟩,hl.isList.push _⟩ (fun b hb=>?_) (Nat.ne_of_lt hlt) fun h' tk hk=>⟨fun b o e=>hk b o (fun q=>?_) (Heap.get?_push_of_some _ e),rfl,rfl⟩)
 ·show b < (s.heap.push _).objs.size
  rw [Heap.size_push]
  simp at hb
  rcases hb with rfl | rfl
  ·exact Nat.lt_succ_self _
  ·exact Nat.lt_succ_of_lt hlt
 ·simp at q;subst q;exact Nat.lt_irrefl _ (Heap.lt_size e)
theorem AN:fR C anyF (fun v=>PySem.call (.builtin "any") [v]):=by
 intro n X Pn p s A Q E a v va P hf ha h
 cases a <;> simp only [anyF] at hf <;> (try cases hf)
 case lst l=>
  obtain ⟨r,hr,rfl⟩:=fO hf
  obtain ⟨a,vs,rfl,ht,hl⟩:=ha.lst
  obtain ⟨bs,rfl,hb⟩:=nP hr hl
  refine call_any_walk (rY (C:=C) ht fun s₂ st _ hne hkp=>⟨s.heap.objs.size,_,_,(bs.map Value.bool).toArray.size,_,_,fun i=>(bs[i]?).getD false,rfl,Walks.list (A:=A.in1) P.room.handled _ a hne (bs.map Value.bool).toArray,st,fun i v s' Q' E' hP hQ=>?_,fun h' tk hk=>?_⟩)
  ·simp only [List.getElem?_toArray,List.getElem?_map,Option.map_eq_some_iff] at hP
   obtain ⟨q,e,rfl⟩:=hP
   simp only [e,Option.getD_some] at hQ
   exact wpAny_truthy_bool hQ
  ·refine h _ _ (hkp h' tk hk) ?_
   have e:((List.range (bs.map Value.bool).toArray.size).any fun i=>(bs[i]?).getD false)=bs.any id:=by
    rw [List.size_toArray,List.length_map];exact PyProof.Rows.LSm.range_any bs
   rw [e,hb];simp [RepV]
theorem eK {h:Heap}:∀ {l:List V} {is:List Int} {vs:List Value},allInts l=some is→RepVs C X h l vs→IntsAre vs is
 | [],is,vs,e,q=>by
  simp only [allInts] at e;cases e
  simp only [RepVs] at q;subst q
  exact .nil
 | v::l,is,vs,e,q=>by
  simp only [RepVs] at q
  obtain ⟨x,rest,rfl,q1,q2⟩:=q
  cases v with
  | int i=>
   simp only [RepV] at q1
   obtain ⟨t,rfl⟩:=q1
   cases hl:allInts l with
   | none=>simp [allInts,hl] at e
   | some is'=>
    simp only [allInts,hl,Option.some.injEq] at e
    subst e
    exact .cons _ _ (eK hl q2)
  | _=>simp [allInts] at e
theorem qi:∀ (l:List Int) (m:Int),iY l m=m + l.sum
 | [],m=>by simp [iY]
 | i::r,m=>by rw [iY,qi r,gP,List.sum_cons];omega
theorem AJ:fR C sumF (fun v=>PySem.call (.builtin "sum") [v]):=by
 intro n X Pn p s A Q E a v va P hf ha h
 cases a <;> simp only [sumF] at hf <;> (try cases hf)
 case lst l=>
  obtain ⟨a,vs,rfl,ht,hl⟩:=ha.lst
  cases hi:allInts l with
  | none=>rw [hi] at hf;cases hf
  | some is=>
   rw [hi] at hf;cases hf
   have hI:=eK hi hl
   obtain ⟨xs,hx⟩:=hI.allInts.items
   have hl':s.heap.IsList a (intItems xs):=hx ▸ ht.isList
   refine sum_intListG P.room.handled hl' fun h' tk t' hk=>h _ _ ⟨hk,rfl,rfl⟩ ?_
   have e1:is=xs.toList.map (·.1):=by
    rw [← nums_intItems,← hx]
    exact (show numsOf vs.toArray.toList=is from hI.numsOf).symm
   have e2:preSum (numAt xs) xs.size=is.sum:=by
    rw [preSum_eq,List.take_of_length_le (by simp),e1]
   rw [e2,qi];simp [RepV]
theorem j6:∀ (l:List Int) (m:Int),maxL l m∈m::l∧∀ a∈m::l,a≤maxL l m
 | [],m=>by simp [maxL]
 | i::r,m=>by
  have ih:=j6 r (fX m i)
  have e:fX m i=if m < i then i else m:=by
   unfold fX;rw [d5]
   by_cases h:m < i
   ·rw [decide_eq_true h,if_pos h]
   ·rw [decide_eq_false h,if_neg h]
  show maxL r (fX m i)∈_∧∀ a∈m::i::r,a≤maxL r (fX m i)
  have hmi:m≤fX m i∧i≤fX m i∧(fX m i=m∨fX m i=i):=by rw [e];split <;> omega
  have h0:=ih.2 (fX m i) (by simp)
  refine ⟨?_,fun a ha=>?_⟩
  ·rcases List.mem_cons.mp ih.1 with q | q
   ·rw [q];rcases hmi.2.2 with q | q <;> rw [q] <;> simp
   ·exact List.mem_cons_of_mem _ (List.mem_cons_of_mem _ q)
  ·rcases List.mem_cons.mp ha with rfl | ha
   ·omega
   ·rcases List.mem_cons.mp ha with rfl | ha
    ·omega
    ·exact ih.2 a (List.mem_cons_of_mem _ ha)
theorem wB {a:Addr} {vs:List Value} {i:Int} {r:List Int} (hh:A.handled=none) (ht:LstAt s.heap a vs) (hI:IntsAre vs (i::r)) (h:∀ t s',Kp s s'→Q (.int (maxL r i) t) s'):
  wpAny (model C.prog C.w) A (PySem.call (.builtin "max") [.ref a]) Q E s:=by
 obtain ⟨xs,e⟩:=hI.allInts.items
 have hns:i::r=xs.toList.map (·.1):=by rw [← hI.numsOf,← nums_intItems,← e]
 have hlen:(i::r).length=xs.size:=by rw [hns,List.length_map,Array.length_toList]
 have hl':s.heap.IsList a (intItems xs):=e ▸ ht.isList
 refine max_intList hh hl' (by rw [← hlen];simp) fun v h' tk hv hk=>?_
 obtain ⟨t,rfl⟩:=intItems_at hv
 obtain ⟨h1,h2⟩:=argBest_gt (numAt xs) (xs.size - 1)
 have hm:=j6 r i
 have hz:0 < xs.size:=by rw [← hlen];simp
 have e1:numAt xs (argBest (fun i j=>decide (numAt xs i > numAt xs j)) (xs.size - 1))∈i::r:=by
  rw [hns,numAt_eq];exact getD_mem (by rw [List.length_map,Array.length_toList];omega)
 have e2:=hm.2 _ e1
 have e3:maxL r i≤numAt xs (argBest (fun i j=>decide (numAt xs i > numAt xs j)) (xs.size - 1)):=by
  have:=hm.1
  rw [hns] at this
  obtain ⟨j,hj,q⟩:=mem_getD this
  rw [List.length_map,Array.length_toList] at hj
  rw [← q,← numAt_eq];exact h2 j (by omega)
 have e4:numAt xs (argBest (fun i j=>decide (numAt xs i > numAt xs j)) (xs.size - 1))=maxL r i:=by omega
 rw [e4]
 exact h t _ ⟨hk,rfl,rfl⟩
theorem digits_eq:∀ (n:Nat),n < 1000→digits 5 n []=(Str.ofString (toString (n:Int))).cps.toList:=by decide +kernel
theorem AK:fR C strF (fun v=>PySem.call (.type "str") [v]):=by
 intro n X Pn p s A Q E a v va P hf ha h
 cases a with
 | int i=>
  obtain ⟨t,rfl⟩:=ha.int
  cases i with
  | ofNat m=>
   cases hb:Nat.blt m 1000 with
   | false=>simp [strF,hb] at hf
   | true=>
    simp only [strF,hb,Option.some.injEq] at hf
    subst hf
    rw [blt_dec,decide_eq_true_eq] at hb
    have hlog:(Int.ofNat m).natAbs.log2 < 1920:=by
     by_cases h0:m=0
     ·subst h0;decide
     ·exact (Nat.log2_lt (show (Int.ofNat m).natAbs≠0 from h0)).mpr (Nat.lt_of_lt_of_le (show (Int.ofNat m).natAbs < 1000 from hb) (Nat.le_trans (show 1000≤2 ^ 10 by decide) (Nat.pow_le_pow_right (by decide) (by decide))))
    refine PySem.P.str_of_int hlog (h _ _ (.toks _) ?_)
    simp only [RepV]
    exact ⟨_,_,rfl,(digits_eq m hb).symm⟩
  | negSucc m=>simp [strF] at hf
 | _=>simp [strF] at hf
end
theorem ka (x:Int):∀ (l:List Int),(insI x l).Perm (x::l)
 | []=>.refl _
 | y::r=>by
  unfold insI
  split
  ·exact .refl _
  ·exact ((ka x r).cons y).trans (.swap x y r)
theorem kT (x:Int):∀ (l:List Int),l.Pairwise (·≤·)→(insI x l).Pairwise (·≤·)
 | [],_=>by simp [insI]
 | y::r,h=>by
  obtain ⟨h1,h2⟩:=List.pairwise_cons.mp h
  unfold insI
  split
  ·rename_i hlt
   rw [d5,decide_eq_true_eq] at hlt
   refine List.pairwise_cons.mpr ⟨fun z hz=>?_,h⟩
   rcases List.mem_cons.mp hz with rfl | hz
   ·omega
   ·have:=h1 z hz;omega
  ·rename_i hlt
   rw [d5,decide_eq_false_iff_not] at hlt
   refine List.pairwise_cons.mpr ⟨fun z hz=>?_,kT x r h2⟩
   rcases List.mem_cons.mp ((ka x r).mem_iff.mp hz) with rfl | hz
   ·omega
   ·exact h1 z hz
theorem ja:∀ (l:List Int),(jb l).Perm l
 | []=>.refl _
 | x::r=>(ka x _).trans ((ja r).cons x)
theorem jU:∀ (l:List Int),(jb l).Pairwise (·≤·)
 | []=>.nil
 | x::r=>kT x _ (jU r)
theorem rk {l m:List Int} (hp:m.Perm l) (hs:m.Pairwise (·≤·)):m=jb l:=
 List.Perm.eq_of_pairwise (le:=(·≤·)) (fun a b _ _ h1 h2=>Int.le_antisymm h1 h2) hs (jU l) (hp.trans (ja l).symm)
section
variable {C:Cfg} {X Pn:AP} {s s':Shared} {A:Around} {n:Nat} {p:List V} {Q E:Value→Shared→Prop}
theorem ints_rep {h:Heap}:∀ {vs:List Value} {ns:List Int},IntsAre vs ns→RepVs C X h (ns.map .int) vs
 | _,_,.nil=>.nil
 | _,_,.cons x t r=>.cons (by simp [RepV]) (ints_rep r)
theorem lY {src:Value} {vs:List Value} {Good:Array Value→Prop} (hcol:∀ (Q':List Value→Shared→Prop) (A':Around) (E':Value→Shared→Prop),A'.units≤A.units + 10→A'.handled=A.handled→(∀ s',Kp s s'→Q' vs s')→wpAny (model C.prog C.w) A' (collect src) Q' E' s) (h64:vs.length < 64)
  (hsort:∀ (n:Nat) (s:Shared) (a:Addr) (A':Around) (P:Fin→Shared→Prop) (E':Value→Shared→Prop),s.heap.get? a=some (seqObj "list" vs.toArray n)→(∀ out,Good out→P (.done (.ret .none)) { s with heap:=sortedHeap s.heap a vs out })→wpAny (model C.prog C.w) A' (Builtin.«list.sort» ⟨[.ref a],[]⟩) P E' s)
  (h:∀ a s' out e,Good out→Kp s s'→s.heap.get? a=none→s'.heap.get? a=some (seqObj "list" out e)→Q (.ref a) s'):wpAny (model C.prog C.w) A (PySem.call (.builtin "sorted") [src]) Q E s:=by
 refine Calls.call_function_entry kind_sorted plain_sorted entry_sorted (args_sorted1 _) ?_
 unfold Builtin.«sorted»
 refine wpAny_bind (m:=checkCount "sorted" 1 1 _) (wpAny_pure ?_)
 refine wpAny_bind (hcol _ A.in1 _ (by show A.units + 1≤_;omega) rfl fun s₁ k₁=>?_)
 refine wpAny_bind (wpAny_newList ?_)
 have hoL:(s₁.heap.push (seqObj "list" vs.toArray 0)).get? s₁.heap.objs.size=some (seqObj "list" vs.toArray 0):=Heap.get?_push_size _ rfl
 show wpAny _ _ _ _ _ { s₁ with heap:=s₁.heap.push (seqObj "list" vs.toArray 0) }
 refine wpAny_bind (wpAny_holding (wpAny_call_entry slot_list_sort ⟨_,hoL,rfl⟩ entry_list_sort (hsort 0 { s₁ with heap:=s₁.heap.push (seqObj "list" vs.toArray 0) } _ _ _ _ hoL fun out hg=>⟨_,rfl,?_⟩) (args_list_sort _)))
 obtain ⟨e,he⟩:=sortedHeap_at (h:=s₁.heap.push (seqObj "list" vs.toArray 0)) (a:=s₁.heap.objs.size) (vs:=vs) (out:=out) hoL
 refine wpAny_pure ⟨_,rfl,h s₁.heap.objs.size _ out e hg ⟨fun b o eb=>?_,k₁.gens,k₁.os⟩ ?_ he⟩
 ·have eb:=k₁.keep b o eb
  have hlt:=Heap.lt_size eb
  rw [sortedHeap_old (Nat.ne_of_lt hlt) (by rw [size_push'];exact Nat.lt_succ_of_lt hlt)]
  exact Heap.get?_push_of_some _ eb
 ·cases q:s.heap.get? s₁.heap.objs.size with
  | none=>rfl
  | some o=>have:=Heap.lt_size (k₁.keep _ _ q);exact absurd this (Nat.lt_irrefl _)
theorem uC {a:Addr} {vs:List Value} (hl:LstAt s.heap a vs) (Q':List Value→Shared→Prop) (A':Around) (E':Value→Shared→Prop) (h:∀ s',Kp s s'→Q' vs s'):wpAny (model C.prog C.w) A' (collect (.ref a)) Q' E' s:=by
 have hm:most=8000:=rfl
 refine collect_list hl.isList (h _ ⟨fun b o eb=>?_,rfl,rfl⟩) (by have:=hl.1;rw [aT];omega)
 rw [Heap.get?_update_ne _ _ _ _ (Nat.ne_of_lt (Heap.lt_size eb))]
 exact Heap.get?_push_of_some _ eb
theorem tF {src:Value} {vs:List Value} {ns:List Int} (P:aZ C n X Pn p A s) (hI:IntsAre vs ns) (h64:vs.length < 64) (hcol:∀ (Q':List Value→Shared→Prop) (A':Around) (E':Value→Shared→Prop),A'.units≤A.units + 10→A'.handled=A.handled→(∀ s',Kp s s'→Q' vs s')→wpAny (model C.prog C.w) A' (collect src) Q' E' s)
  (h:∀ val s',Kp s s'→RepV C X s'.heap (.lst ((jb ns).map .int)) val→Q val s'):wpAny (model C.prog C.w) A (PySem.call (.builtin "sorted") [src]) Q E s:=by
 refine lY (Good:=fun out=>∃ ns',IntsAre out.toList ns'∧ns'.Perm ns∧ns'.Pairwise (·≤·)) hcol h64 (fun n s a A' P' E' ho hP=>list_sort_tree ho hI h64 fun out ns' a1 a2 a3=>hP out ⟨ns',a1,a2,a3⟩) fun a s' out e hg k hn he=>?_
 obtain ⟨ns',a1,a2,a3⟩:=hg
 have e':=rk a2 a3
 subst e'
 have hXa:¬X a:=fun q=>by obtain ⟨o,eo⟩:=P.lt a q;rw [hn] at eo;cases eo
 have hr:=ints_rep (C:=C) (X:=X) (h:=s'.heap) a1
 have hlen:=hr.length
 refine h _ s' k ?_
 simp only [RepV]
 refine ⟨a,out.toList,rfl,hXa,⟨?_,e,he⟩,hr⟩
 have h1:(jb ns).length=ns.length:=(ja ns).length_eq
 have h2:vs.length=ns.length:=by have:=(ints_rep (C:=C) (X:=X) (h:=s.heap) hI).length;simpa using this
 rw [hlen,List.length_map,h1,← h2]
 show _≤8000;omega
theorem j9 (x:List Nat):∀ (l:List (List Nat)),(insS x l).Perm (x::l)
 | []=>.refl _
 | y::r=>by
  unfold insS
  split
  ·exact .refl _
  ·exact ((j9 x r).cons y).trans (.swap x y r)
theorem kS (x:List Nat):∀ (l:List (List Nat)),l.Pairwise (·≤·)→(insS x l).Pairwise (·≤·)
 | [],_=>by simp [insS]
 | y::r,h=>by
  obtain ⟨h1,h2⟩:=List.pairwise_cons.mp h
  unfold insS
  split
  ·rename_i hlt
   rw [ik,decide_eq_true_eq] at hlt
   have hxy:x≤y:=List.le_of_lt hlt
   refine List.pairwise_cons.mpr ⟨fun z hz=>?_,h⟩
   rcases List.mem_cons.mp hz with rfl | hz
   ·exact hxy
   ·exact List.le_trans hxy (h1 z hz)
  ·rename_i hlt
   rw [ik,decide_eq_false_iff_not] at hlt
   refine List.pairwise_cons.mpr ⟨fun z hz=>?_,kS x r h2⟩
   rcases List.mem_cons.mp ((j9 x r).mem_iff.mp hz) with rfl | hz
   ·exact hlt
   ·exact h1 z hz
theorem lZ:∀ (l:List (List Nat)),(i0 l).Perm l
 | []=>.refl _
 | x::r=>(j9 x _).trans ((lZ r).cons x)
theorem jT:∀ (l:List (List Nat)),(i0 l).Pairwise (·≤·)
 | []=>.nil
 | x::r=>kS x _ (jT r)
theorem rj {l m:List (List Nat)} (hp:m.Perm l) (hs:m.Pairwise (·≤·)):m=i0 l:=
 List.Perm.eq_of_pairwise (le:=(·≤·)) (fun a b _ _ h1 h2=>List.le_antisymm h1 h2) hs (jT l) (hp.trans (lZ l).symm)
theorem nq:∀ (ss:List Str) (p:Str),risingS p ss=true→((p::ss).map fun x=>x.cps.toList).Pairwise (·≤·)
 | [],p,_=>by simp
 | x::r,p,h=>by
  unfold risingS at h
  rw [Bool.and_eq_true] at h
  have ih:=nq r x h.2
  have hpx:p.cps.toList≤x.cps.toList:=by
   have:=h.1
   rw [ltCps_eq] at this
   simpa using this
  rw [List.map_cons]
  refine List.pairwise_cons.mpr ⟨fun z hz=>?_,ih⟩
  rw [List.map_cons] at hz ih
  rcases List.mem_cons.mp hz with rfl | hz
  ·exact hpx
  ·exact List.le_trans hpx ((List.pairwise_cons.mp ih).1 z hz)
theorem ri:∀ (ss:List Str),sortedS ss=true→(ss.map fun x=>x.cps.toList).Pairwise (·≤·)
 | [],_=>.nil
 | x::r,h=>nq r x h
theorem ly {h:Heap}:∀ {vs:List Value} {ss:List Str},StrsAre vs ss→RepVs C X h (ss.map fun x=>.str x.cps.toList) vs
 | _,_,.nil=>.nil
 | _,_,.cons x t r=>.cons (by simp only [RepV];exact ⟨x,t,rfl,rfl⟩) (ly r)
theorem kq {h:Heap}:∀ {l:List V} {is:List (List Nat)} {vs:List Value},allStrs l=some is→RepVs C X h l vs→∃ ss,StrsAre vs ss∧ss.map (fun x=>x.cps.toList)=is
 | [],is,vs,e,r=>by simp only [RepVs] at r;subst r;cases e;exact ⟨[],.nil,rfl⟩
 | v::l,is,vs,e,r=>by
  simp only [RepVs] at r
  obtain ⟨x,q,rfl,h1,h2⟩:=r
  cases v with
  | str a=>
   unfold allStrs at e
   cases ha:allStrs l with
   | none=>rw [ha] at e;cases e
   | some m=>
    rw [ha] at e;cases e
    obtain ⟨ss,g1,g2⟩:=kq ha h2
    simp only [RepV] at h1
    obtain ⟨y,t,rfl,rfl⟩:=h1
    exact ⟨y::ss,.cons y t g1,by rw [List.map_cons,g2]⟩
  | _=>cases e
theorem tE {src:Value} {vs:List Value} {ss:List Str} (P:aZ C n X Pn p A s) (hI:StrsAre vs ss) (h64:vs.length < 64) (hcol:∀ (Q':List Value→Shared→Prop) (A':Around) (E':Value→Shared→Prop),A'.units≤A.units + 10→A'.handled=A.handled→(∀ s',Kp s s'→Q' vs s')→wpAny (model C.prog C.w) A' (collect src) Q' E' s)
  (h:∀ val s',Kp s s'→RepV C X s'.heap (.lst ((i0 (ss.map fun x=>x.cps.toList)).map .str)) val→Q val s'):wpAny (model C.prog C.w) A (PySem.call (.builtin "sorted") [src]) Q E s:=by
 refine lY (Good:=fun out=>∃ ss',StrsAre out.toList ss'∧ss'.Perm ss∧sortedS ss'=true) hcol h64 (fun n s a A' P' E' ho hP=>list_sort_treeK strKind_oneLt ho hI.keysOf (fun v1 v2 rest e=>keyKind_strs (by rw [← e];exact hI)) h64 fun st' hp hs=>by
  obtain ⟨ss',h1,h2,h3⟩:=sorted_out_str hI hp hs
  exact hP _ ⟨ss',h1,h2,h3⟩) fun a s' out e hg k hn he=>?_
 obtain ⟨ss',a1,a2,a3⟩:=hg
 have e':=rj (a2.map fun x=>x.cps.toList) (ri _ a3)
 have hXa:¬X a:=fun q=>by obtain ⟨o,eo⟩:=P.lt a q;rw [hn] at eo;cases eo
 have hr:=ly (C:=C) (X:=X) (h:=s'.heap) a1
 have hlen:=hr.length
 have er:(ss'.map fun x=>V.str x.cps.toList)=(i0 (ss.map fun x=>x.cps.toList)).map .str:=by rw [← e',List.map_map];rfl
 rw [er] at hr
 refine h _ s' k ?_
 simp only [RepV]
 refine ⟨a,out.toList,rfl,hXa,⟨?_,e,he⟩,hr⟩
 have h2:vs.length=ss.length:=by have:=(ly (C:=C) (X:=X) (h:=s.heap) hI).length;simpa using this
 rw [hlen,List.length_map,a2.length_eq,← h2]
 show _≤8000;omega
end
section
variable {prog:Program} {w:World} {A:Around} {E:Value→Shared→Prop} {s:Shared}
theorem pe {d:Addr} {es:List DictEntry} {ep:Nat} {Q:Value→Shared→Prop} (hd:(d==sysModules)=false) (ho:s.heap.get? d=some (cH es ep))
  (hQ:Q (.ref s.heap.objs.size) { s with heap:=s.heap.push { cls:=.type "dict_keyiterator",data:=.fields #[.ref d,.int 0 0,.int es.length 0,.int ep 0] } }):
  wpAny (model prog w) A (pyIter (.ref d)) Q E s:=by
 have hT:s.TypeIs (.ref d) "dict" := ⟨_,ho,rfl⟩
 refine wpAny_pyIter_slot hT F.slot_dict_iter (wpAny_call_entry F.slot_dict_iter hT F.entry_dict_iter ?_ (F.args_dict_iter_1 _))
 unfold Builtin.«dict.__iter__»
 refine wpAny_bind ?_
 unfold Builtin.Dict.dictSlotNone
 refine wpAny_bind (wpAny_notOrdered_dict hT ?_)
 show wpAny _ _ (pure (Value.ref d)) _ _ s
 refine wpAny_pure ?_
 show wpAny _ _ (Builtin.Dict.showsAll d >>= _) _ _ s
 unfold Builtin.Dict.showsAll
 rw [if_neg (by rw [hd];exact Bool.false_ne_true)]
 refine wpAny_bind (wpAny_pure ?_)
 refine wpAny_bind (wpAny_dictEntries ho rfl ?_)
 refine wpAny_bind (wpAny_dictEpoch ho rfl ?_)
 refine wpAny_bind (wpAny_newObj_type (wpAny_pure ⟨_,rfl,"dict_keyiterator",_,⟨_,Heap.get?_push_size _ rfl,rfl⟩,F.slot_dict_keyiterator_next.lookup,?_⟩))
 simpa [rawInt] using hQ
theorem sJ {it d:Addr} {i ep:Nat} {es:List DictEntry} {e:DictEntry} {Q:Option Value→Shared→Prop} (hit:s.heap.IsKeyIter it d i es.length ep)
  (hod:s.heap.get? d=some (cH es ep)) (hx:es[i]?=some e)
  (hQ:∀ h',h'.IsKeyIter it d (i + 1) es.length ep→Heap.SameBut it s.heap h'→Q (some e.key) { s with heap:=h' }):
  wpAny (model prog w) A (pyNext (.ref it)) Q E s:=by
 obtain ⟨o,ho,hc,hd⟩:=id hit
 unfold pyNext
 refine wpAny_bind (wpAny_attempt (wpAny_callSpecial?_slot (name:=Str.ofString "__next__") hit.typeIs F.slot_dict_keyiterator_next
  (wpAny_call_entry F.slot_dict_keyiterator_next hit.typeIs F.entry_dict_keyiterator_next ?_ (F.args_dict_keyiterator_next_1 _))))
 refine wpAny_bind (wpAny_pure ?_)
 refine wpAny_bind ?_
 refine wpAny_bind ?_
 first | refine wpAny_bind (wpAny_typeNameOfWhole_keyiter hit.typeIs (wpAny_pure ?_)) | refine wpAny_bind (wpAny_typeNameOf_keyiter hit.typeIs (wpAny_pure ?_))
 refine wpAny_bind (wpAny_fieldsOf ho hd ?_)
 have hown:Builtin.Dict_items.ownsTuple "dict_keyiterator" = false:=by decide
 simp only [hown,Bool.false_eq_true,if_false]
 show wpAny _ _ (if (Value.ref d==Value.none)=true then _ else _) _ _ s
 rw [if_neg (show ¬((Value.ref d==Value.none)=true) from Bool.false_ne_true)]
 refine wpAny_bind (wpAny_pure ?_)
 refine wpAny_bind (wpAny_dictEntries hod rfl ?_)
 rw [if_neg (by simp)]
 refine wpAny_bind (wpAny_pure ?_)
 refine wpAny_bind (wpAny_dictEpoch hod rfl ?_)
 rw [if_neg (by simp)]
 refine wpAny_pure ?_
 have hga:es.toArray[i]?=some e:=by simpa using hx
 simp only [show ¬((i:Int) < 0) from by omega,if_false,Int.toNat_natCast,hga]
 refine wpAny_bind ?_
 first | refine wpAny_bind (wpAny_typeNameOfWhole_keyiter hit.typeIs (wpAny_pure ?_)) | refine wpAny_bind (wpAny_typeNameOf_keyiter hit.typeIs (wpAny_pure ?_))
 refine wpAny_bind (wpAny_isOneOf_keyiter hit.typeIs ?_)
 show wpAny _ _ (setField (.ref it) 1 (rawInt ((i:Int) + 1)) >>= _) _ _ s
 refine wpAny_bind (wpAny_setField ho hd (by simp) ?_)
 have hit':(s.heap.update it (Obj.mapFields (·.setIfInBounds 1 (rawInt ((i:Int) + 1))))).IsKeyIter it d (i + 1) es.length ep:=
  ⟨_,Heap.get?_update_self _ ho (Obj.isFreed_of_fields (Obj.data_mapFields hd _)),(Obj.cls_mapFields ..).trans hc,by rw [Obj.data_mapFields hd];simp [rawInt]⟩
 refine wpAny_bind (wpAny_holding ?_)
 refine wpAny_bind (wpAny_isOneOf_keyiter (s:={ s with heap:=s.heap.update it (Obj.mapFields (·.setIfInBounds 1 (rawInt ((i:Int) + 1)))) }) hit'.typeIs ?_)
 show wpAny _ _ (pure e.key) _ _ _
 exact wpAny_pure (wpAny_pure ⟨_,rfl,wpAny_pure (hQ _ hit' (Heap.SameBut.update ..))⟩)
theorem uh {it d:Addr} {i ep:Nat} {es:List DictEntry} {Q:Option Value→Shared→Prop} (hh:A.handled=none) (hit:s.heap.IsKeyIter it d i es.length ep)
  (hod:s.heap.get? d=some (cH es ep)) (hx:es[i]?=none)
  (hQ:∀ h',Heap.ExtBut it s.heap h'→Q none { s with heap:=h' }):wpAny (model prog w) A (pyNext (.ref it)) Q E s:=by
 obtain ⟨o,ho,hc,hd⟩:=id hit
 unfold pyNext
 refine wpAny_bind (wpAny_attempt (wpAny_callSpecial?_slot (name:=Str.ofString "__next__") hit.typeIs F.slot_dict_keyiterator_next
  (wpAny_call_entry F.slot_dict_keyiterator_next hit.typeIs F.entry_dict_keyiterator_next ?_ (F.args_dict_keyiterator_next_1 _))))
 refine wpAny_bind (wpAny_pure ?_)
 refine wpAny_bind ?_
 refine wpAny_bind ?_
 first | refine wpAny_bind (wpAny_typeNameOfWhole_keyiter hit.typeIs (wpAny_pure ?_)) | refine wpAny_bind (wpAny_typeNameOf_keyiter hit.typeIs (wpAny_pure ?_))
 refine wpAny_bind (wpAny_fieldsOf ho hd ?_)
 have hown:Builtin.Dict_items.ownsTuple "dict_keyiterator" = false:=by decide
 simp only [hown,Bool.false_eq_true,if_false]
 show wpAny _ _ (if (Value.ref d==Value.none)=true then _ else _) _ _ s
 rw [if_neg (show ¬((Value.ref d==Value.none)=true) from Bool.false_ne_true)]
 refine wpAny_bind (wpAny_pure ?_)
 refine wpAny_bind (wpAny_dictEntries hod rfl ?_)
 rw [if_neg (by simp)]
 refine wpAny_bind (wpAny_pure ?_)
 refine wpAny_bind (wpAny_dictEpoch hod rfl ?_)
 rw [if_neg (by simp)]
 refine wpAny_pure ?_
 have hga:es.toArray[i]?=none:=by simpa using hx
 simp only [show ¬((i:Int) < 0) from by omega,if_false,Int.toNat_natCast,hga]
 refine wpAny_bind ?_
 first | refine wpAny_bind (wpAny_typeNameOfWhole_keyiter hit.typeIs (wpAny_pure ?_)) | refine wpAny_bind (wpAny_typeNameOf_keyiter hit.typeIs (wpAny_pure ?_))
 show wpAny _ _ (setField (.ref it) 0 .none >>= _) _ _ s
 refine wpAny_bind (wpAny_setField ho hd (by simp) ?_)
 show wpAny _ _ (newExc (.type "StopIteration") [] >>= _) _ _ _
 refine wpAny_bind ?_
 simp only [newExc,newTuple]
 refine wpAny_bind (wpAny_newObj_type ?_ (by size_fits))
 refine wpAny_bind (m:=firstArgMember _ _) (wpAny_of_eq (a:=Value.none) (by first | rfl | (simp only [firstArgMember];rfl)) ?_)
 refine wpAny_newObj_type ?_ (by size_fits)
 simp only [raiseNew]
 refine wpAny_bind (wpAny_handled ?_)
 rw [show A.in1.handled=none from hh]
 refine wpAny_bind (wpAny_pure (wpAny_throw ?_))
 refine wpAny_bind (wpAny_isInstance (T := "StopIteration") (b:=true) ⟨_,Heap.get?_push_size _ rfl,rfl⟩ isSubtype_stop ?_)
 exact wpAny_pure (hQ _ (((Heap.SameBut.update ..).extBut.push _).push _))
end
section
variable {prog:Program} {w:World} {A:Around} {E:Value→Shared→Prop} {s:Shared}
theorem lR (hh:A.handled=none) (I d:Addr) (hne:d≠I) (es:List DictEntry) (ep:Nat):
  Walks prog w A I [I,d] [I] es.length (fun i v=>(es.map (·.key))[i]?=some v) (fun i h=>h.IsKeyIter I d i es.length ep∧h.get? d=some (cH es ep)) where
 sub:=fun b hb=>by simp at hb;simp [hb]
 frame:=fun _ _ _ st hk=>⟨st.1.at fun o e=>hk I (by simp) o e,hk d (by simp) _ st.2⟩
 item:=fun i s Q E hi st hQ=>by
  have hx:es[i]?=some es[i]:=by simp [hi]
  refine sJ st.1 st.2 hx fun h' hit' hs'=>?_
  exact hQ _ h' s.toks (by simp [hi]) ⟨hit',hs'.extBut d _ hne st.2⟩ fun b o hb e=>hs'.extBut b o (fun h=>hb (by simp [h])) e
 done:=fun s Q E st hQ=>uh hh st.1 st.2 (by simp) fun h' he'=>hQ h' s.toks fun b o hb e=>he' b o (fun h=>hb (by simp [h])) e
 self:=fun _ _ _ _ st hQ=>wpAny_pyIter_keyiter st.1 hQ
theorem sP {vs:List Value} {acc:Array Value} (h:ItemsOf (fun i v=>vs[i]?=some v) acc vs.length):acc.toList=vs:=by
 obtain ⟨h1,h2⟩:=h
 refine List.ext_getElem? fun i=>?_
 rw [Array.getElem?_toList]
 cases q:acc[i]? with
 | some v=>exact (h2 i v q).symm
 | none=>rw [Array.getElem?_eq_none_iff] at q;rw [List.getElem?_eq_none (by omega)]
theorem qd {d:Addr} {es:List DictEntry} {Q:List Value→Shared→Prop} (hh:A.handled=none) (hd:dE s.heap d es) (h:∀ s',Kp s s'→Q (es.map (·.key)) s'):
  wpAny (model prog w) A (collect (.ref d)) Q E s:=by
 obtain ⟨⟨hsys,hz⟩,ep,ho⟩:=hd
 have hm:most=8000:=rfl
 unfold collect
 refine wpAny_bind (wpAny_runValue (codeAny_builtin F.entry_proto_collect ?_))
 rw [Around.under_plainId F.plain_proto_collect _]
 show wpAny _ A.in1 (newList [] >>= fun l=>again (.builtin "list.__iadd__" ⟨[l,.ref d],[]⟩)) _ _ s
 refine wpAny_bind (wpAny_newObj_type ?_)
 refine wpAny_pure ⟨plainId_quiet F.plain_list_iadd _,codeAny_builtin F.entry_list_iadd ?_⟩
 rw [Around.under_plainId F.plain_list_iadd _]
 have hdS:d < s.heap.objs.size:=Heap.lt_size ho
 have fk:(s.heap.push { cls:=.type "list",data:=.seq ([]:List Value).toArray }).get? d=some (cH es ep):=Heap.get?_push_of_some _ ho
 have hS1:(s.heap.push { cls:=.type "list",data:=.seq ([]:List Value).toArray }).get? s.heap.objs.size=some { cls:=.type "list",data:=.seq ([]:List Value).toArray }:=Heap.get?_push_size _ rfl
 have hT1:Shared.TypeIs { s with heap:=s.heap.push { cls:=.type "list",data:=.seq ([]:List Value).toArray } } (.ref d) "dict" := ⟨_,fk,rfl⟩
 have hz1:(s.heap.push { cls:=.type "list",data:=.seq ([]:List Value).toArray }).objs.size=s.heap.objs.size + 1:=Heap.size_push _ _
 have hk1:∀ b o,s.heap.get? b=some o→(s.heap.push { cls:=.type "list",data:=.seq ([]:List Value).toArray }).get? b=some o:=fun b o e=>Heap.get?_push_of_some _ e
 generalize hh1:s.heap.push { cls:=.type "list",data:=.seq ([]:List Value).toArray }=aG at *
 show wpAny _ A.in1 (Builtin.List.listExtendWith (.ref s.heap.objs.size) (.ref d) (.ref s.heap.objs.size)) _ _ _
 unfold Builtin.List.listExtendWith
 refine wpAny_bind (wpAny_typeOf hT1 ?_)
 have h1:Builtin.List.listSameRef (.ref s.heap.objs.size) (.ref d)=false:=by show (s.heap.objs.size==d)=false;rw [beq_eq_false_iff_ne];exact Nat.ne_of_gt hdS
 rw [if_neg (by rw [h1];decide)]
 refine wpAny_bind (pe (s:={ s with heap:=aG }) hsys fk ?_)
 have hSI:s.heap.objs.size < aG.objs.size:=by rw [hz1];exact Nat.lt_succ_self _
 have hdI:d≠aG.objs.size:=Nat.ne_of_lt (Nat.lt_trans hdS hSI)
 show wpAny _ A.in1 _ _ _ { s with heap:=aG.push { cls:=.type "dict_keyiterator",data:=.fields #[.ref d,.int 0 0,.int es.length 0,.int ep 0] } }
 have hI2:(aG.push { cls:=.type "dict_keyiterator",data:=.fields #[.ref d,.int 0 0,.int es.length 0,.int ep 0] }).IsKeyIter aG.objs.size d 0 es.length ep:=⟨_,Heap.get?_push_size _ rfl,rfl,rfl⟩
 have gh:(aG.push { cls:=.type "dict_keyiterator",data:=.fields #[.ref d,.int 0 0,.int es.length 0,.int ep 0] }).get? d=some (cH es ep):=Heap.get?_push_of_some _ fk
 have hS2:(aG.push { cls:=.type "dict_keyiterator",data:=.fields #[.ref d,.int 0 0,.int es.length 0,.int ep 0] }).get? s.heap.objs.size=some { cls:=.type "list",data:=.seq ([]:List Value).toArray }:=Heap.get?_push_of_some _ hS1
 have ir:∀ b o,s.heap.get? b=some o→(aG.push { cls:=.type "dict_keyiterator",data:=.fields #[.ref d,.int 0 0,.int es.length 0,.int ep 0] }).get? b=some o:=fun b o e=>Heap.get?_push_of_some _ (hk1 b o e)
 generalize aG.push { cls:=.type "dict_keyiterator",data:=.fields #[.ref d,.int 0 0,.int es.length 0,.int ep 0] }=bu at *
 have hT2:Shared.TypeIs { s with heap:=bu } (.ref d) "dict" := ⟨_,gh,rfl⟩
 refine wpAny_bind (wpAny_holding ?_)
 unfold Builtin.List.listLengthHint
 refine wpAny_bind (wpAny_specialOf hT2 F.slot_dict_len.lookup ?_)
 (generalize hid:("dict.__len__" : String)=id0;(fail_if_success (clear hid id0));wp_delta;rw [show splitId id0=some ("dict","__len__") from by subst hid;decide +kernel];subst hid)
 refine wpAny_bind (wpAny_isInstance (b:=true) hT2 (by rw [isSubtype_type];kernel_rfl) ?_)
 show wpAny _ A.in1 (typeOf (.ref d) >>= _) _ _ _
 refine wpAny_bind (wpAny_typeOf hT2 ?_)
 refine wpAny_pure ?_
 show wpAny _ A.in1 (rule "list.extend.makes-room" >>= fun _=>Builtin.List.listTouch (.ref s.heap.objs.size) >>= fun _=>
  again (.builtin "list.extend.loop" ⟨[.ref s.heap.objs.size,.ref aG.objs.size,.ref s.heap.objs.size],[]⟩)) _ _ _
 refine wpAny_bind (wpAny_rule ?_)
 refine wpAny_bind ?_
 show wpAny _ A.in1 (updateSeq s.heap.objs.size (·.push .none) >>= fun _=>updateSeq s.heap.objs.size (·.pop)) _ _ _
 refine wpAny_bind (wpAny_updateSeq hS2 rfl ?_)
 have hS3:=Heap.get?_update_self (Obj.mapSeq (·.push Value.none)) hS2 rfl
 refine wpAny_updateSeq hS3 rfl ?_
 have hS4:=Heap.get?_update_self (Obj.mapSeq (·.pop)) hS3 rfl
 have oth:∀ b o,b≠s.heap.objs.size→bu.get? b=some o→((bu.update s.heap.objs.size (Obj.mapSeq (·.push Value.none))).update s.heap.objs.size (Obj.mapSeq (·.pop))).get? b=some o:=
  fun b o hb e=>(Heap.get?_update_other _ _ (Ne.symm hb)).trans ((Heap.get?_update_other _ _ (Ne.symm hb)).trans e)
 have W:=(lR (prog:=prog) (w:=w) (A:=A.in1) (by exact hh) aG.objs.size d hdI es ep).toS
 refine wpAny_pure ⟨plainId_quiet F.plain_extend_loop _,codeAny_extend_loopS W (by rw [aT];omega) _ (fun q=>by rcases List.mem_cons.mp q with q | q;exact absurd q (Nat.ne_of_lt hSI);exact absurd (List.mem_singleton.mp q) (Nat.ne_of_gt hdS)) _ es.length 0 _ _ _ rfl (Nat.zero_le _)
  ⟨hI2.at fun o e=>oth _ _ (Nat.ne_of_gt hSI) e,oth _ _ (Nat.ne_of_lt hdS) gh⟩ hS4 (ItemsOf.nil _) fun s' acc' c' hm' hS' hacc=>?_⟩
 show wpAny _ A (load s.heap.objs.size >>= _) _ _ s'
 refine wpAny_bind (wpAny_load hS' ?_)
 have he:acc'.toList=es.map (·.key):=sP (by simpa using hacc)
 refine wpAny_pure ?_
 show Q acc'.toList s'
 rw [he]
 refine h s' ⟨fun b o e=>hm'.heap b o ?_ (oth b o (Nat.ne_of_lt (Heap.lt_size e)) (ir b o e)),hm'.gens,hm'.os⟩
 have hb:=Heap.lt_size e
 exact fun q=>by rcases List.mem_cons.mp q with q | q;exact absurd q (Nat.ne_of_lt hb);exact absurd (List.mem_singleton.mp q) (Nat.ne_of_lt (Nat.lt_trans hb hSI))
end
section
variable {C:Cfg} {X Pn:AP} {s s':Shared} {A:Around} {n:Nat} {p:List V} {Q E:Value→Shared→Prop}
theorem oA {src:Value} {vs:List Value} {l r:List V} (P:aZ C n X Pn p A s) (hR:RepVs C X s.heap l vs) (hs:sortL l=some r) (hcol:∀ (Q':List Value→Shared→Prop) (A':Around) (E':Value→Shared→Prop),A'.units≤A.units + 10→A'.handled=A.handled→(∀ s',Kp s s'→Q' vs s')→wpAny (model C.prog C.w) A' (collect src) Q' E' s)
  (h:∀ val s',Kp s s'→RepV C X s'.heap (.lst r) val→Q val s'):wpAny (model C.prog C.w) A (PySem.call (.builtin "sorted") [src]) Q E s:=by
 unfold sortL at hs
 have hl:=hR.length
 split at hs
 ·cases hs
 ·rename_i hsh
  have h64:vs.length < 64:=by have:=cu hsh;omega
  split at hs
  ·rename_i hi;cases hs
   exact tF P (eK hi hR) h64 hcol h
  ·split at hs
   ·rename_i hi;cases hs
    obtain ⟨ss,h1,rfl⟩:=kq hi hR
    exact tE P h1 h64 hcol h
   ·cases hs
theorem uJ:fR C sortedF (fun v=>PySem.call (.builtin "sorted") [v]):=by
 intro n X Pn p s A Q E a v va P hf ha h
 cases a <;> simp only [sortedF] at hf <;> (try cases hf)
 case lst l=>
  obtain ⟨a,vs,rfl,ht,hl⟩:=ha.lst
  split at hf
  ·rename_i hs;cases hf
   exact oA P hl hs (fun Q' A' E' _ _ hq=>uC ht Q' A' E' hq) h
  ·cases hf
 case aQ ks xs=>
  obtain ⟨d,es,rfl,hd,h1,_,_,_⟩:=ha.aQ
  split at hf
  ·rename_i hs;cases hf
   exact oA P h1 hs (fun Q' A' E' _ hh hq=>qd (by rw [hh];exact P.room.handled) hd hq) h
  ·cases hf
theorem wC {d:Addr} {es:List DictEntry} {i:Int} {r:List Int} (hh:A.handled=none) (hd:dE s.heap d es) (hI:IntsAre (es.map (·.key)) (i::r)) (h:∀ t s',Kp s s'→Q (.int (maxL r i) t) s'):
  wpAny (model C.prog C.w) A (PySem.call (.builtin "max") [.ref d]) Q E s:=by
 obtain ⟨⟨hsys,hz⟩,ep,ho⟩:=hd
 obtain ⟨xs,e⟩:=hI.allInts.items
 have hns:i::r=xs.toList.map (·.1):=by rw [← hI.numsOf,← nums_intItems,← e]
 have hlen:(i::r).length=xs.size:=by rw [hns,List.length_map,Array.length_toList]
 have hel:es.length=xs.size:=by rw [← Array.size_map (f:=fun p:Int×Tok=>Value.int p.1 p.2),show xs.map (fun p=>Value.int p.1 p.2)=(es.map (·.key)).toArray from e.symm];simp
 have hat:∀ j v,(es.map (·.key))[j]?=some v→∃ t,v=Value.int (numAt xs j) t:=fun j v q=>intItems_at (by rw [← e];simpa using q)
 have hlt:d < s.heap.objs.size:=Heap.lt_size ho
 refine call_max_walk (pe hsys ho ⟨s.heap.objs.size,_,_,_,_,_,_,rfl,lR (A:=A.in1) hh _ d (Nat.ne_of_lt hlt) es ep,⟨⟨_,Heap.get?_push_size _ rfl,rfl,rfl⟩,Heap.get?_push_of_some _ ho⟩,fun b hb=>?_,by rw [hel,← hlen];simp,CmpOf.ints_gt (numAt xs) hat,fun v h' tk hP hk=>?_⟩)
 ·show b < (s.heap.push _).objs.size
  rw [Heap.size_push]
  rcases List.mem_cons.mp hb with rfl | hb
  ·exact Nat.lt_succ_self _
  ·rw [List.mem_singleton.mp hb];exact Nat.lt_succ_of_lt hlt
 ·obtain ⟨t,rfl⟩:=hat _ _ hP
  rw [hel]
  obtain ⟨h1,h2⟩:=argBest_gt (numAt xs) (xs.size - 1)
  have hm:=j6 r i
  have hz:0 < xs.size:=by rw [← hlen];simp
  have e1:numAt xs (argBest (fun i j=>decide (numAt xs i > numAt xs j)) (xs.size - 1))∈i::r:=by
   rw [hns,numAt_eq];exact getD_mem (by rw [List.length_map,Array.length_toList];omega)
  have e2:=hm.2 _ e1
  have e3:maxL r i≤numAt xs (argBest (fun i j=>decide (numAt xs i > numAt xs j)) (xs.size - 1)):=by
   have:=hm.1
   rw [hns] at this
   obtain ⟨j,hj,q⟩:=mem_getD this
   rw [List.length_map,Array.length_toList] at hj
   rw [← q,← numAt_eq];exact h2 j (by omega)
  have e4:numAt xs (argBest (fun i j=>decide (numAt xs i > numAt xs j)) (xs.size - 1))=maxL r i:=by omega
  rw [e4]
  refine h t _ ⟨fun b o e=>hk b o (fun q=>?_) (Heap.get?_push_of_some _ e),rfl,rfl⟩
  rw [List.mem_singleton.mp q] at e
  exact absurd (Heap.lt_size e) (Nat.lt_irrefl _)
theorem AL:fR C maxF (fun v=>PySem.call (.builtin "max") [v]):=by
 intro n X Pn p s A Q E a v va P hf ha h
 cases a <;> simp only [maxF] at hf <;> (try cases hf)
 case lst l=>
  obtain ⟨a,vs,rfl,ht,hl⟩:=ha.lst
  split at hf
  ·rename_i hi;cases hf
   exact wB P.room.handled ht (eK hi hl) fun t s' k=>h _ _ k (by simp [RepV])
  ·cases hf
 case aQ ks xs=>
  obtain ⟨d,es,rfl,hd,h1,_,_,_⟩:=ha.aQ
  split at hf
  ·rename_i hi;cases hf
   exact wC P.room.handled hd (eK hi h1) fun t s' k=>h _ _ k (by simp [RepV])
  ·cases hf
end
theorem cG {j:Nat} (h:16≤j) (ρ:Fr):ay j ρ=.undef:=by
 match j,h with
 | j + 16,_=>rfl
theorem bO (k j:Nat) (ρ:Fr) (v:Slot):ay k (sets j ρ v)=if k=j∧j < 16 then v else ay k ρ:=by
 obtain ⟨s0,s1,s2,s3,s4,s5,s6,s7,s8,s9,s10,s11,s12,s13,s14,s15⟩:=ρ
 by_cases hj:j < 16
 ·by_cases hk:k < 16
  ·match j,hj with
   | 0,_ | 1,_ | 2,_ | 3,_ | 4,_ | 5,_ | 6,_ | 7,_ | 8,_ | 9,_ | 10,_ | 11,_ | 12,_ | 13,_ | 14,_ | 15,_=>
    match k,hk with
    | 0,_ | 1,_ | 2,_ | 3,_ | 4,_ | 5,_ | 6,_ | 7,_ | 8,_ | 9,_ | 10,_ | 11,_ | 12,_ | 13,_ | 14,_ | 15,_=>rfl
    | k + 16,h=>exact absurd h (by omega)
   | j + 16,h=>exact absurd h (by omega)
  ·rw [cG (by omega),if_neg (by omega),cG (by omega)]
 ·rw [if_neg (by omega)]
  match j,hj with
  | 0,h | 1,h | 2,h | 3,h | 4,h | 5,h | 6,h | 7,h | 8,h | 9,h | 10,h | 11,h | 12,h | 13,h | 14,h | 15,h=>exact absurd (by decide) h
  | j + 16,_=>rfl
section
variable {C:Cfg} {cx cx':Cx} {b:Bool} {X X' Pn:AP} {h h':Heap} {s s':Shared} {A:Around} {n:Nat} {ρ:Fr} {p p':List V} {env:Env} {Q E:Value→Shared→Prop}
theorem OwnR.tr {v:V} {a:Addr} (t:Tr X h X' h') (k:∀ o,h.get? a=some o→Kc o→h'.get? a=some o) (r:OwnR C X h v a):OwnR C X' h' v a:=by
 cases v <;> simp only [OwnR] at r ⊢
 case lst l=>obtain ⟨vs,⟨z,n,x⟩,y⟩:=r;exact ⟨vs,⟨z,n,k _ x (aW rfl (by decide))⟩,y.tr t⟩
 case aQ ks xs=>obtain ⟨es,⟨z,n,x⟩,y,w,q⟩:=r;exact ⟨es,⟨z,n,k _ x (aW rfl (by decide))⟩,y.tr t,w.tr t,q⟩
theorem OwnR.obj {v:V} {a:Addr} (r:OwnR C X h v a):∃ o,h.get? a=some o∧bG o.cls:=by
 cases v <;> simp only [OwnR] at r
 case lst l=>obtain ⟨vs,⟨z,n,x⟩,y⟩:=r;exact ⟨_,x,.inr (.inl rfl)⟩
 case aQ ks xs=>obtain ⟨es,⟨z,n,x⟩,y,w,q⟩:=r;exact ⟨_,x,.inr (.inr (.inl rfl))⟩
theorem RepV.obj {v:V} {a:Addr} (r:RepV C X h v (.ref a)):¬X a∧∃ o,h.get? a=some o∧bG o.cls:=by
 cases v with
 | none=>simp [RepV] at r
 | bool b=>simp [RepV] at r
 | int i=>simp [RepV] at r
 | str i=>simp [RepV] at r
 | tup l=>simp only [RepV] at r;obtain ⟨a',vs,e,hx,⟨z,n,ho⟩,_⟩:=r;cases e;exact ⟨hx,_,ho,.inl rfl⟩
 | lst l=>simp only [RepV] at r;obtain ⟨a',vs,e,hx,⟨z,n,ho⟩,_⟩:=r;cases e;exact ⟨hx,_,ho,.inr (.inl rfl)⟩
 | aQ k x=>simp only [RepV] at r;obtain ⟨a',es,e,hx,⟨z,n,ho⟩,_⟩:=r;cases e;exact ⟨hx,_,ho,.inr (.inr (.inl rfl))⟩
 | clo f c=>simp only [RepV] at r;obtain ⟨a',cs,vs,e,hx,⟨o,fd,_,ho,hc,_⟩,_⟩:=r;cases e;exact ⟨hx,o,ho,.inr (.inr (.inr (.inl (.inl hc))))⟩
theorem cE.obj {sl:Slot} {a:Addr} (R:aY C X Pn h p) (r:cE C X Pn h sl (.ref a)) (hu:sl≠.undef):∃ o,h.get? a=some o:=by
 cases sl with
 | undef=>exact absurd rfl hu
 | val v=>obtain ⟨_,o,ho,_⟩:=RepV.obj r;exact ⟨o,ho⟩
 | own v=>obtain ⟨a',e,_,_,q⟩:=r;cases e;obtain ⟨o,ho,_⟩:=q.obj;exact ⟨o,ho⟩
 | au=>obtain ⟨P,e,hp⟩:=r;cases e;obtain ⟨vs,⟨_,n,ho⟩,_⟩:=R.at_ a hp;exact ⟨_,ho⟩
theorem aY.tr (R:aY C X Pn h p) (t:Tr X h X' h') (k:∀ b o,Pn b→h.get? b=some o→Kc o→h'.get? b=some o):aY C X' Pn h' p:=
 ⟨R.one,fun P hP=>let ⟨vs,⟨z,n,a⟩,c⟩:=R.at_ P hP;⟨vs,⟨z,n,k P _ hP a (aW rfl (by decide))⟩,c.tr t⟩⟩
theorem cE.tr {sl:Slot} {val:Value} (r:cE C X Pn h sl val) (hX:∀ b,X b→X' b) (t:Tr X h X' h') (k:∀ b o,val=.ref b→h.get? b=some o→Kc o→h'.get? b=some o):cE C X' Pn h' sl val:=by
 cases sl with
 | undef=>trivial
 | val v=>exact RepV.tr t r
 | own v=>obtain ⟨a,e,hx,hn,q⟩:=r;exact ⟨a,e,hX a hx,hn,q.tr t fun o ho hc=>k a o e ho hc⟩
 | au=>exact r
theorem kr {a:Addr} {m m':Str→Option Value} (x:h.Ns a m) (y:h.Ns a m'):m=m':=by
 obtain ⟨o,es,ep,ho,hd,hk,hm⟩:=x
 obtain ⟨o',es',ep',ho',hd',hk',hm'⟩:=y
 rw [ho] at ho';cases ho'
 rw [hd] at hd';cases hd'
 funext n
 rw [← hm,← hm']
structure Loc (C:Cfg) (X Pn:AP) (env:Env) (h:Heap):Prop where
 ns:∃ m,h.Ns env.locals m
 inX:X env.locals
 new:C.h₀.get? env.locals=none
theorem Loc.l9 (L:Loc C X Pn env h) (R:aY C X Pn h p):¬Pn env.locals:=let ⟨_,hm⟩:=L.ns;gJ R hm
theorem Loc.ext (L:Loc C X Pn env h) (R:aY C X Pn h p) (e:Ext C Pn h h'):Loc C X Pn env h':=
 let ⟨_,hm⟩:=L.ns;⟨⟨_,mE e (L.l9 R) hm⟩,L.inX,L.new⟩
structure bc (cx:Cx):Prop where
 inj:∀ x y j,cx.vars.lookup x=some j→cx.vars.lookup y=some j→x=y
 lt:∀ x j,cx.vars.lookup x=some j→j < cx.next
theorem bo {L:Addr} (hs:Heap.SameBut L h h') (ha:X L):Tr X h X h':=fun a o e _ hx=>⟨hs.extBut a o (fun q=>hx (q ▸ ha)) e,hx⟩
theorem cA.sameBut {L c:Addr} {v:Value} {m:Str→Option Value} (hs:Heap.SameBut L h h') (hn:h.Ns L m) (x:cA h c v):cA h' c v:=by
 obtain ⟨o,ho,hc,hd⟩:=x
 refine ⟨o,hs.extBut c o (fun q=>?_) ho,hc,hd⟩
 subst q
 obtain ⟨o',es,ep,ho',hd',_⟩:=hn
 rw [ho] at ho';cases ho'
 rw [hd] at hd';cases hd'
theorem Vw.bind {x:Str} {j:Nat} {sl:Slot} {val:Value} (v:Vw C cx X Pn env ρ p h) (hsc:cx'.sc=cx.sc) (hmu:cx'.muts=cx.muts) (hcp:cx'.caps=cx.caps) (ho:∀ v,sl=.own v→cx.muts.contains x=true) (hcx:∀ y k,cx'.vars.lookup y=some k→(y=x∧k=j)∨(y≠x∧k≠j∧cx.vars.lookup y=some k))
  (L:Loc C X Pn env h) (hk:env.kindOf x=some .local)
  {m:Str→Option Value} (hm:h.Ns env.locals m) (hn:h'.Ns env.locals (fun y=>if y=x then some val else m y)) (hs:Heap.SameBut env.locals h h') (hr:cE C X Pn h sl val) (hv:val≠.ref env.locals):
  Vw C cx' X Pn env (sets j ρ sl) p h':=by
 have t:=bo (X:=X) hs L.inX
 have hnp:=L.l9 v.au
 have tk:∀ {sl':Slot} {val':Value},val'≠.ref env.locals→cE C X Pn h sl' val'→cE C X Pn h' sl' val':=fun hne r=>
  r.tr (fun _ q=>q) t fun b o e ho _=>hs.extBut b o (fun q=>hne (q ▸ e)) ho
 have ow:∀ y k w,cx'.vars.lookup y=some k→ay k (sets j ρ sl)=.own w→cx'.muts.contains y=true:=fun y k w hy hg=>by
  rw [hmu]
  rw [bO] at hg
  rcases hcx y k hy with ⟨rfl,rfl⟩ | ⟨_,hkj,hy'⟩
  ·by_cases h16:k < 16
   ·rw [if_pos ⟨rfl,h16⟩] at hg;exact ho w hg
   ·rw [if_neg (by omega),cG (by omega)] at hg;cases hg
  ·rw [if_neg (fun q=>hkj q.1)] at hg;exact v.own y k w hy' hg
 refine { own:=ow,caps:=by rw [hcp];exact v.caps,code:=by rw [hcp];exact v.code,tab:=v.tab.but (W:=fun b=>b=env.locals) (fun b o e q=>hs.extBut b o q e) (fun b q=>q ▸ NC.ij hm),kind:=v.kind,globals:=v.globals,builtins:=v.builtins,kinds:=by rw [hsc];exact v.kinds,cells:=v.cells,vars:=fun y k hy hu=>?_,au:=v.au.tr t fun b o hb ho _=>hs.extBut b o (fun q=>hnp (q ▸ hb)) ho,pnX:=v.pnX,base:=fun b o e=>hs.extBut b o (fun q=>by subst q;rw [L.new] at e;cases e) (v.base b o e),lt:=fun b hb=>?_,fresh:=v.fresh }
 ·rw [bO] at hu ⊢
  rcases hcx y k hy with ⟨rfl,rfl⟩ | ⟨hyx,hkj,hy'⟩
  ·by_cases h16:k < 16
   ·rw [if_pos ⟨rfl,h16⟩] at hu ⊢
    refine ⟨val,?_,tk hv hr,hv⟩
    unfold Reads;rw [hk];exact ⟨_,hn,if_pos rfl⟩
   ·rw [if_neg (by omega),cG (by omega)] at hu;exact absurd rfl hu
  ·rw [if_neg (fun q=>hkj q.1)] at hu ⊢
   obtain ⟨val',a,c,d⟩:=v.vars y k hy' hu
   refine ⟨val',?_,tk d c,d⟩
   unfold Reads at a ⊢
   split at a
   ·obtain ⟨m',hm',hv'⟩:=a
    rw [kr hm' hm] at hv'
    exact ⟨_,hn,by simp only [hyx,if_false];exact hv'⟩
   ·obtain ⟨c',q,r⟩:=a;exact ⟨c',q,r.sameBut hs hm⟩
   ·obtain ⟨c',q,r⟩:=a;exact ⟨c',q,r.sameBut hs hm⟩
   ·exact a.elim
 ·obtain ⟨o,ho⟩:=v.lt b hb
  by_cases q:b=env.locals
  ·subst q;obtain ⟨o',es,ep,ho',_⟩:=hn;exact ⟨o',ho'⟩
  ·exact ⟨o,hs.extBut b o q ho⟩
theorem Vw.store {x:Str} {j:Nat} {sl:Slot} {val:Value} (v:Vw C cx X Pn env ρ p h) (O:bc cx) (L:Loc C X Pn env h) (hk:env.kindOf x=some .local) (hj:cx.vars.lookup x=some j)
  {m:Str→Option Value} (hm:h.Ns env.locals m) (hn:h'.Ns env.locals (fun y=>if y=x then some val else m y)) (hs:Heap.SameBut env.locals h h') (hr:cE C X Pn h sl val) (hv:val≠.ref env.locals) (ho:∀ v,sl=.own v→cx.muts.contains x=true):
  Vw C cx X Pn env (sets j ρ sl) p h':=
 v.bind rfl rfl rfl ho (fun y k hy=>by
  by_cases q:y=x
  ·subst q;rw [hj] at hy;cases hy;exact .inl ⟨rfl,rfl⟩
  ·exact .inr ⟨q,fun e=>q (O.inj y x j (e ▸ hy) hj),hy⟩) L hk hm hn hs hr hv
theorem Loc.store {x:Str} {val:Value} {m:Str→Option Value} (L:Loc C X Pn env h) (hn:h'.Ns env.locals (fun y=>if y=x then some val else m y)):Loc C X Pn env h':=⟨⟨_,hn⟩,L.inX,L.new⟩
theorem RepV.fE {v:V} {val:Value} (L:Loc C X Pn env h') (r:RepV C X h v val):val≠.ref env.locals:=fun e=>by
 subst e;exact (RepV.obj r).1 L.inX
end
theorem Out.bind_assoc {α β γ:Type} (o:Out α) (f:α→List V→Out β) (g:β→List V→Out γ):(o.bind f).bind g=o.bind fun v p=>(f v p).bind g:=by cases o <;> rfl
noncomputable def itO (r:Res):Out (List V):=r.out.bind fun v p=>match itemsOf v with
 | some l=>.ok l p
 | none=>.stuck
def dp (C:Cfg) (cx:Cx) (b:Bool) (e:Expr) (d:aq) (own:Bool):Prop:=
 ∀ (n:Nat) (call:Call),cL C n call→∀ (X Pn:AP) (env:Env) (ρ:Fr) (p:List V) (s:Shared) (A:Around) (Q E:Value→Shared→Prop),
  Vw C cx X Pn env ρ p s.heap→aN C A s.heap→cR A n→
  bh C X Pn (itO (d call ρ p)) (fun l s'=>∀ I wr a o,(o=true→own=true)→bK C X Pn s'.heap I wr a o l→(∀ c∈wr,s.heap.get? c=none)→(b=false→X a→a∈wr)→Q (.ref I) s') E s→
  wpAny (model C.prog C.w) A (eval e env) (fun x s₁=>wpAny (model C.prog C.w) A (pyIter x) Q E s₁) E s
section
variable {C:Cfg} {cx cx':Cx} {b:Bool} {X X' Pn:AP} {h h':Heap} {s s':Shared} {A:Around} {n:Nat} {ρ ρ':Fr} {p p':List V} {env:Env} {Q E:Value→Shared→Prop}
theorem dX (hn:Nx C Pn s s') (R:aY C X Pn s'.heap p) {c:Addr} (hc:s'.heap.get? c=none):s.heap.get? c=none:=by
 cases e:s.heap.get? c with
 | none=>rfl
 | some o=>obtain ⟨o',ho'⟩:=hn.ext.lt R c ⟨o,e⟩;rw [hc] at ho';cases ho'
theorem TupAt.push {a:Addr} {vs:List Value} (x:TupAt h a vs) (o:Obj):TupAt (h.push o) a vs:=let ⟨z,n,e⟩:=x;⟨z,n,Heap.get?_push_of_some _ e⟩
theorem LstAt.push {a:Addr} {vs:List Value} (x:LstAt h a vs) (o:Obj):LstAt (h.push o) a vs:=let ⟨z,n,e⟩:=x;⟨z,n,Heap.get?_push_of_some _ e⟩
theorem dp.plain {e:Expr} {d:aq} {own:Bool} (h:az C cx b e d):dp C cx b e d own:=by
 intro n call hc X Pn env ρ p s A Q E hv hk hr N
 refine h.run hc hv hk hr (f:=fun v p=>match itemsOf v with | some l=>.ok l p | none=>.stuck) N fun v p₁ val s₁ hn v1 k₁ hval N1=>?_
 have hfr:s.heap.get? s₁.heap.objs.size=none:=dX hn v1.au (bS _)
 cases v <;> simp only [itemsOf] at N1 <;> try exact absurd rfl N1.1
 case tup l=>
  obtain ⟨a,vs,rfl,ht,hl⟩:=hval.b.tup
  have hXa:¬X a:=by have:=hval.b.qY;simp only [RepV] at this;obtain ⟨a',_,e',hx,_⟩:=this;cases e';exact hx
  refine wpAny_pyIter_tuple ht.ec ?_
  refine N1.kp v1.base v1.au (Kp.push (s:=s₁) _) s₁.heap.objs.size [s₁.heap.objs.size] a false (fun q=>nomatch q) ?_ (fun c hc=>by simp at hc;subst hc;exact hfr) (fun _ q=>absurd q hXa)
  refine .tup (k:=0) ⟨_,Heap.get?_push_size _ rfl,rfl,rfl⟩ (ht.push _) (fun q=>hXa (v1.pnX _ q)) (by simpa using hl.tr (Kp.push (s:=s₁) _).tr)
 case lst l=>
  have key:∃ a vs,val=.ref a∧LstAt s₁.heap a vs∧RepVs C X s₁.heap l vs∧¬Pn a∧(b=false→¬X a):=by
   rcases hval.b with r | ⟨a,e,hn,r⟩
   ·simp only [RepV] at r;obtain ⟨a,vs,e,hx,q,w⟩:=r;exact ⟨a,vs,e,q,w,fun q=>hx (v1.pnX _ q),fun _=>hx⟩
   ·have r':=r
    simp only [OwnR] at r;obtain ⟨vs,q,w⟩:=r
    refine ⟨a,vs,e,q,w,hn,fun hb=>?_⟩
    subst hb e
    exact (RepV.obj hval).1
  obtain ⟨a,vs,rfl,ht,hl,hna,hXa⟩:=key
  refine wpAny_pyIter_list ht.isList ?_
  refine N1.kp v1.base v1.au (Kp.push (s:=s₁) _) s₁.heap.objs.size [s₁.heap.objs.size] a false (fun q=>nomatch q) ?_ (fun c hc=>by simp at hc;subst hc;exact hfr) (fun hb q=>absurd q (hXa hb))
  refine .list (k:=0) ⟨_,Heap.get?_push_size _ rfl,rfl,rfl⟩ (ht.push _) hna (by simpa using hl.tr (Kp.push (s:=s₁) _).tr)
theorem sE {l:List V} {x:Value} (hp:∀ b,Pn b→X b) (r:gE b C X Pn h (.lst l) x):∃ a vs,x=.ref a∧LstAt h a vs∧RepVs C X h l vs∧¬Pn a∧(b=false→¬X a):=by
 rcases r.b with q | ⟨a,e,hn,q⟩
 ·simp only [RepV] at q;obtain ⟨a,vs,e,hx,q,w⟩:=q;exact ⟨a,vs,e,q,w,fun q=>hx (hp _ q),fun _=>hx⟩
 ·have q':=q
  simp only [OwnR] at q;obtain ⟨vs,q,w⟩:=q
  refine ⟨a,vs,e,q,w,hn,fun hb=>?_⟩
  subst hb e
  exact (RepV.obj r).1
variable {fns:List (Str×Nat)} {glb:List (Str×V)} {mg mb:Str→Option Value}
theorem dp.jD {f:Str} {g:V→Option V} {T:String} {x:Expr} {d:aq} {np pos:Pos} {own:Bool} (W:dv C fns glb mg mb) (hf:aM f=true) (hG:cx.du f=true) (hm:f∈dj) (hb:bootBuiltins f=some (.type T))
  (hx:az C cx b x d) (hs:∀ e p,x≠.Starred e p)
  (ho:∀ (X Pn:AP) (s:Shared) (A:Around) (Q E:Value→Shared→Prop) (v w:V) (val:Value),A.handled=none→(∀ b,Pn b→X b)→g v=some w→gE b C X Pn s.heap v val→
   (∀ I wr a o l s',itemsOf w=some l→Kp s s'→(o=true→own=true)→bK C X Pn s'.heap I wr a o l→(∀ c∈wr,s.heap.get? c=none)→(b=false→X a→a∈wr)→Q (.ref I) s')→
   wpAny (model C.prog C.w) A (PySem.call (.type T) [val]) (fun x s₁=>wpAny (model C.prog C.w) A (pyIter x) Q E s₁) E s):dp C cx b (.Call (.Name f np) [x] [] pos) (Mine.c1 g d) own:=by
 intro n call hc X Pn env ρ p s A Q E hv hk hr N
 have e:itO (Mine.c1 g d call ρ p)=(d call ρ p).out.bind fun a p=>(@Option.rec V (fun _=>Res) Res.stuck (fun v=>Res.ok v p) (g a)).out.bind fun v p=>match itemsOf v with
   | some l=>.ok l p
   | none=>.stuck:=by
  unfold itO
  rw [show (Mine.c1 g d call ρ p).out=(d call ρ p).out.bind fun a p=>(@Option.rec V (fun _=>Res) Res.stuck (fun v=>Res.ok v p) (g a)).out from cv _ _]
  cases (d call ρ p).out <;> rfl
 rw [e] at N
 refine wpAny_Call_NameR (dg W hv hf hG hm hb ?_)
 rw [lU hs]
 refine Mine.jD (.ty T) (hx.run hc hv hk hr N fun v p₁ val s₁ hn v1 k₁ hval N1=>?_)
 cases hg:g v with
 | none=>rw [hg] at N1;exact absurd rfl N1.1
 | some w=>
  rw [hg] at N1
  refine ho X Pn s₁ A Q E v w val hr.handled v1.pnX hg hval fun I wr a o l s' hl hkp h1 h2 h3 h4=>?_
  have fK:(@Option.rec V (fun _=>Res) Res.stuck (fun v=>Res.ok v p₁) (some w)).out.bind (fun v p=>match itemsOf v with | some l=>Out.ok l p | none=>Out.stuck)=Out.ok l p₁:=by
   show (match itemsOf w with | some l=>Out.ok l p₁ | none=>Out.stuck)=_
   rw [hl]
  rw [fK] at N1
  exact N1.kp v1.base v1.au hkp I wr a o h1 h2 (fun c hc=>dX hn v1.au (h3 c hc)) h4
theorem fi {c:Addr} (hc:h.objs.size≤c):h.get? c=none:=by
 cases q:h.get? c with
 | none=>rfl
 | some o=>exact absurd (Heap.lt_size q) (Nat.not_lt.mpr hc)
theorem iC {a:Int} (h:gn a=true):-3000≤a∧a < 3000:=by
 have hl:=mf
 cases a with
 | ofNat n=>
  have h:Nat.blt n lid=true:=h
  rw [blt_dec,decide_eq_true_eq] at h
  simp only [Int.ofNat_eq_natCast];omega
 | negSucc n=>
  have h:Nat.blt n lid=true:=h
  rw [blt_dec,decide_eq_true_eq] at h
  rw [Int.negSucc_eq];omega
theorem nt {i j:Int} {t u:Tok} {vt:Tok} {r:Addr} (hr:IsRange s.heap r i j 1 t u vt) (hi:-(2 ^ 62)≤i∧i < 2 ^ 62) (hj:-(2 ^ 62)≤j∧j < 2 ^ 62)
  (h:∀ s',Kp s s'→bK C X Pn s'.heap s.heap.objs.size [s.heap.objs.size] s.heap.objs.size false (bN (iM (dw j i)) i)→Q (.ref s.heap.objs.size) s'):
  wpAny (model C.prog C.w) A (pyIter (.ref r)) Q E s:=by
 refine wpAny_pyIter_range hr (small_one hi.1 hi.2 hj.1 hj.2) (h _ (.push _) ?_)
 have e:Builtin.Range.rangeSize i j 1=((iM (dw j i):Nat):Int):=by
  rw [rangeSize_one,r9,iT]
  split <;> omega
 rw [e]
 exact .range (Heap.get?_push_size _ rfl)
theorem dp.xx {x:Expr} {d:aq} {np pos:Pos} {own:Bool} (W:dv C fns glb mg mb) (hG:cx.du "range" = true) (hx:az C cx b x d) (hs:∀ e p,x≠.Starred e p):dp C cx b (.Call (.Name "range" np) [x] [] pos) (Mine.c1 eA d) own:=by
 refine .jD W (by decide) hG (by decide) (T := "range") (by decide +kernel) hx hs fun X Pn s A Q E v w val hh hp hg hval h=>?_
 cases v <;> simp only [eA] at hg <;> (try cases hg)
 case int i=>
  obtain ⟨hb,hg⟩:=cJ hg
  cases hg
  have hb:=iC hb
  obtain ⟨t,rfl⟩:=hval.b.int
  refine call_range_1 ?_
  have K:Kp s { s with heap:=s.heap.push { cls:=.type "range",data:=.fields #[.int 0 s.toks,.int i t,.int 1 (s.toks + 1)] },toks:=s.toks + 1 + 1 }:=(Kp.push (s:=s) _).trans (.toks _)
  refine nt (C:=C) (X:=X) (Pn:=Pn) (i:=0) (j:=i) (IsRange.new ..) (by decide) (by omega) fun s' k it=>?_
  have e:dw i 0=i:=by rw [iT];omega
  rw [e] at it
  exact h _ _ _ false _ _ rfl (K.trans k) (fun q=>Bool.noConfusion q) it (fun c hc=>by simp at hc;subst hc;exact fi (Nat.le_succ _)) fun _ _=>by simp
theorem dp.xw {x y:Expr} {d d':aq} {np pos:Pos} {own:Bool} (W:dv C fns glb mg mb) (hG:cx.du "range" = true) (hx:az C cx b x d) (hs:∀ e p,x≠.Starred e p) (hy:az C cx b y d') (hs':∀ e p,y≠.Starred e p):
  dp C cx b (.Call (.Name "range" np) [x,y] [] pos) (Mine.c2 dO d d') own:=by
 intro n call hc X Pn env ρ p s A Q E hv hk hr N
 have e:itO (Mine.c2 dO d d' call ρ p)=(d call ρ p).out.bind fun a p=>(d' call ρ p).out.bind fun b p=>(@Option.rec V (fun _=>Res) Res.stuck (fun v=>Res.ok v p) (dO a b)).out.bind fun v p=>match itemsOf v with
   | some l=>.ok l p
   | none=>.stuck:=by
  unfold itO
  rw [show (Mine.c2 dO d d' call ρ p).out=(d call ρ p).out.bind fun a p=>(@Res.rec (fun _=>Res) Res.stuck (fun b p=>@Option.rec V (fun _=>Res) Res.stuck (fun v=>Res.ok v p) (dO a b)) Res.exc (d' call ρ p)).out from cv _ _]
  rw [Out.bind_assoc]
  congr 1;funext a p
  rw [cv,Out.bind_assoc]
 rw [e] at N
 refine wpAny_Call_NameR (dg W hv (by decide) hG (by decide) (val:=.type "range") (by decide +kernel) ?_)
 rw [jP hs hs']
 refine Mine.call2 (.ty "range") (hx.run hc hv hk hr N fun v p₁ val s₁ hn v1 k₁ hval N1=>?_)
 refine hy.run hc v1 k₁ hr N1 fun w aO val' s₂ bT v2 k₂ hval' N2=>?_
 cases v <;> cases w <;> (try exact absurd rfl N2.1)
 case int.int x y=>
  obtain ⟨t,rfl⟩:=hval.b.int;obtain ⟨u,rfl⟩:=hval'.b.int
  cases h1:gn x with
  | false=>simp only [dO,h1] at N2;exact absurd rfl N2.1
  | true=>
   cases h2:gn y with
   | false=>simp only [dO,h1,h2] at N2;exact absurd rfl N2.1
   | true=>
    simp only [dO,h1,h2] at N2
    have N2:bh C X Pn (.ok (bN (iM (dw y x)) x) aO) _ E s₂:=N2
    have hx':=iC h1
    have hy':=iC h2
    refine call_range_2 ?_
    have K:Kp s₂ { s₂ with heap:=s₂.heap.push { cls:=.type "range",data:=.fields #[.int x t,.int y u,.int 1 s₂.toks] },toks:=s₂.toks + 1 }:=(Kp.push (s:=s₂) _).trans (.toks _)
    refine nt (C:=C) (X:=X) (Pn:=Pn) (i:=x) (j:=y) (IsRange.new ..) (by omega) (by omega) fun s' k it=>?_
    exact N2.kp v2.base v2.au (K.trans k) _ _ _ false (fun q=>Bool.noConfusion q) it (fun c hc=>by simp at hc;subst hc;exact dX hn v1.au (dX bT v2.au (fi (Nat.le_succ _)))) fun _ _=>by simp
theorem dp.enum {x:Expr} {d:aq} {np pos:Pos} (W:dv C fns glb mg mb) (hG:cx.du "enumerate" = true) (hx:az C cx b x d) (hs:∀ e p,x≠.Starred e p):dp C cx b (.Call (.Name "enumerate" np) [x] [] pos) (Mine.c1 gM d) true:=by
 refine .jD W (by decide) hG (by decide) (T := "enumerate") (by decide +kernel) hx hs fun X Pn s A Q E v w val hh hp hg hval h=>?_
 cases v <;> simp only [gM] at hg <;> (try cases hg)
 case lst l=>
  obtain ⟨a,vs,rfl,ht,hl,hna,hXa⟩:=sE hp hval
  obtain ⟨z,k,ho⟩:=id ht
  refine call_enumerate_1 (items:=vs.toArray) ho fun h' he hit hz hk=>?_
  refine wpAny_pyIter_enum he ?_
  have K:Kp s { s with heap:=h' }:=⟨hk,rfl,rfl⟩
  refine h _ [s.heap.objs.size + 1,s.heap.objs.size] a true _ _ rfl K (fun _=>rfl) (.enum (k:=0) he hit (K.list ht) hna (by simpa using hl.tr K.tr)) (fun c hc=>?_) (fun hb q=>absurd q (hXa hb))
  simp at hc
  rcases hc with rfl | rfl
  ·exact fi (Nat.le_succ _)
  ·exact bS _
theorem dp.rev {x:Expr} {d:aq} {np pos:Pos} {own:Bool} (W:dv C fns glb mg mb) (hG:cx.du "reversed" = true) (hx:az C cx b x d) (hs:∀ e p,x≠.Starred e p):dp C cx b (.Call (.Name "reversed" np) [x] [] pos) (Mine.c1 iE d) own:=by
 refine .jD W (by decide) hG (by decide) (T := "reversed") (by decide +kernel) hx hs fun X Pn s A Q E v w val hh hp hg hval h=>?_
 cases v <;> simp only [iE] at hg <;> (try cases hg)
 case lst l=>
  obtain ⟨a,vs,rfl,ht,hl,hna,hXa⟩:=sE hp hval
  refine call_reversed_list (items:=vs.toArray) ht.isList ?_
  have hR:(s.heap.push (revObj a ((vs.toArray.size:Int) - 1))).IsRevIter s.heap.objs.size a ((vs.length:Int) - 1):=⟨_,Heap.get?_push_size _ rfl,rfl,by simp [revObj]⟩
  refine wpAny_pyIter_revIter hR ?_
  refine h _ [s.heap.objs.size] a false _ _ rfl (Kp.push (s:=s) _) (fun q=>nomatch q) (.rev (k:=vs.length) hR (ht.push _) hna (Nat.le_refl _) ?_) (fun c hc=>by simp at hc;subst hc;exact bS _) (fun hb q=>absurd q (hXa hb))
  rw [qo,List.append_nil,List.take_length]
  exact (hl.tr (Kp.push (s:=s) _).tr).reverse
theorem dp.items {o:Expr} {d:aq} {ap cp:Pos} (hx:az C cx b o d) (ho:gY o ap cp=true):dp C cx b (.Call (.Attribute o "items" ap) [] [] cp) (Mine.c1 fH d) true:=by
 intro n call hc X Pn env ρ p s A Q E hv hk hr N
 simp only [gY,Bool.and_eq_true] at ho
 have e:itO (Mine.c1 fH d call ρ p)=(d call ρ p).out.bind fun a p=>(@Option.rec V (fun _=>Res) Res.stuck (fun v=>Res.ok v p) (fH a)).out.bind fun v p=>match itemsOf v with
   | some l=>.ok l p
   | none=>.stuck:=by
  unfold itO
  rw [show (Mine.c1 fH d call ρ p).out=(d call ρ p).out.bind fun a p=>(@Option.rec V (fun _=>Res) Res.stuck (fun v=>Res.ok v p) (fH a)).out from cv _ _]
  cases (d call ρ p).out <;> rfl
 rw [e] at N
 refine wpAny_Call_method (T := "dict") (id := "dict.items") (fw ho.1 _ _) rfl ho.2 F.plainAttrs_dict F.slot_dict_items F.type_dict_items ?_
 refine hx.run hc hv hk hr N fun v p₁ val s₁ hn v1 k₁ hval N1=>?_
 cases v <;> (try exact absurd rfl N1.1)
 case aQ ks xs=>
  have N1:bh C X Pn (.ok (qU ks xs) p₁) _ E s₁:=N1
  have key:∃ a es,val=.ref a∧dE s₁.heap a es∧RepVs C X s₁.heap ks (es.map (·.key))∧RepVs C X s₁.heap xs (es.map (·.val))∧¬Pn a∧(b=false→¬X a):=by
   rcases hval.b with r | ⟨a,e,hn,r⟩
   ·simp only [RepV] at r;obtain ⟨a,es,e,hx,q,w,u,_⟩:=r;exact ⟨a,es,e,q,w,u,fun q=>hx (v1.pnX _ q),fun _=>hx⟩
   ·have r':=r
    simp only [OwnR] at r;obtain ⟨es,q,w,u,_⟩:=r
    refine ⟨a,es,e,q,w,u,hn,fun hb=>?_⟩
    subst hb e
    exact (RepV.obj hval).1
  obtain ⟨a,es,rfl,⟨⟨hsys,hz⟩,m,hd⟩,h1,h2,hna,hXa⟩:=key
  have hT:s₁.TypeIs (.ref a) "dict" := ⟨_,hd,rfl⟩
  refine ⟨hT,fun a' ea=>by cases ea;exact ⟨_,hd,rfl⟩,?_⟩
  refine Calls.callWith_builtin rfl (PySem.evalArgs_none ?_)
  refine wpAny_call_entry F.slot_dict_items hT F.entry_dict_items ?_ (F.args_dict_items_1 _)
  unfold Builtin.«dict.items»
  refine wpAny_bind ?_
  unfold Builtin.Dict.noArgs
  refine wpAny_bind (wpAny_notOrdered_dict hT ?_)
  show wpAny _ _ (pure a) _ _ s₁
  refine wpAny_pure ?_
  show wpAny _ _ (Builtin.Dict.showsAll a >>= _) _ _ s₁
  unfold Builtin.Dict.showsAll
  rw [if_neg (by rw [hsys];exact Bool.false_ne_true)]
  refine wpAny_bind (wpAny_pure ?_)
  refine wpAny_bind (wpAny_newObj_type (wpAny_pure ⟨_,rfl,?_⟩))
  have hv':(s₁.heap.push { cls:=.type "dict_items",data:=.fields #[.ref a] }).IsItemsView s₁.heap.objs.size a:=⟨_,Heap.get?_push_size _ rfl,rfl,rfl⟩
  refine sM hv' (Heap.get?_push_of_some _ hd) hz ?_
  have K:Kp s₁ { s₁ with heap:=(s₁.heap.push { cls:=.type "dict_items",data:=.fields #[.ref a] }).push { cls:=.type "dict_itemiterator",data:=.fields #[.none,.bool false,.ref a,.int 0 0,.int es.length 0,.int m 0,.none,.none] } }:=
   (Kp.push (s:=s₁) _).trans (.push _)
  refine N1.kp v1.base v1.au K _ _ a true (fun _=>rfl) (.items (k:=0) (Heap.get?_push_size _ rfl) (K.keep _ _ hd) hna hz (by simpa using h1.tr K.tr) (by simpa using h2.tr K.tr)) (fun c hc=>?_) (fun hb q=>absurd q (hXa hb))
  simp at hc;subst hc
  exact dX hn v1.au (fi (Nat.le_succ _))
end
section
variable {C:Cfg} {cx cx':Cx} {b:Bool} {X X' Pn:AP} {h h':Heap} {s s':Shared} {A:Around} {n:Nat} {ρ ρ':Fr} {p p':List V} {env:Env} {E:Value→Shared→Prop}
theorem ee {x:Str} (h:cP cx x=true):cx.vars.lookup x=none∧cx.sc.lookup x=some .local∧aM x=true:=by
 unfold cP at h
 simp only [Bool.and_eq_true,Option.isNone_iff_eq_none,beq_iff_eq] at h
 exact ⟨h.1.1,h.1.2,h.2⟩
theorem bA {x y:Str} {j:Nat} {l:List (Str×Nat)}:List.lookup y ((x,j)::l)=if y=x then some j else l.lookup y:=by
 rw [List.lookup_cons]
 by_cases h:y=x
 ·simp [h]
 ·have:(y==x)=false:=by simpa using h
  simp [this,h]
def bQ (cx:Cx) (x:Str):Cx:={ cx with vars:=(x,cx.next)::cx.vars,next:=cx.next + 1 }
theorem gd {x:Str} (O:bc cx):bc (bQ cx x):=by
 refine ⟨fun y z j hy hz=>?_,fun y j hy=>?_⟩
 ·simp only [bQ,bA] at hy hz
  split at hy <;> split at hz
  ·simp_all
  ·cases hy;exact absurd (O.lt _ _ hz) (Nat.lt_irrefl _)
  ·cases hz;exact absurd (O.lt _ _ hy) (Nat.lt_irrefl _)
  ·exact O.inj y z j hy hz
 ·simp only [bQ,bA] at hy ⊢
  split at hy
  ·cases hy;omega
  ·have:=O.lt _ _ hy;omega
theorem nf {x:Str} (O:bc cx) (y:Str) (k:Nat) (hy:(bQ cx x).vars.lookup y=some k):(y=x∧k=cx.next)∨(y≠x∧k≠cx.next∧cx.vars.lookup y=some k):=by
 simp only [bQ,bA] at hy
 split at hy
 ·cases hy;exact .inl ⟨‹_›,rfl⟩
 ·refine .inr ⟨‹_›,fun e=>?_,hy⟩
  have:=O.lt _ _ hy;omega
theorem nA (hk:env.scope.kind=.function):(env.scope.kind==.class||(env.scope.kind==.module&&env.locals !=env.globals))=false:=by rw [hk];rfl
theorem Vw.j8 (v:Vw C cx X Pn env ρ p h) {x:Str} (hx:cx.sc.lookup x=some .local):env.kindOf x=some .local:=(v.kinds x .local hx).1 (by simp)
theorem bind1 {x:Str} {px:Pos} {v:V} {val:Value} {Q:Unit→Shared→Prop} (O:bc cx) (hx:cx.sc.lookup x=some .local) (hv:Vw C cx X Pn env ρ p s.heap) (L:Loc C X Pn env s.heap) (hr:RepV C X s.heap v val)
  (hQ:∀ s',gx [env.locals] s s'→Vw C (bQ cx x) X Pn env (sets cx.next ρ (.val v)) p s'.heap→Loc C X Pn env s'.heap→Q () s'):wpAny (model C.prog C.w) A (assign (.Name x px) env val) Q E s:=by
 obtain ⟨m,hm⟩:=L.ns
 have hk:=hv.j8 hx
 refine wpAny_assign_Name (wpAny_storeName_local hk hm (fun h' hn hs=>?_) (nA hv.kind))
 exact hQ _ ⟨fun c o hc e=>hs.extBut c o (by simpa using hc) e,rfl,rfl⟩ (hv.bind rfl rfl rfl (fun _ q=>nomatch q) (nf O) L hk hm hn hs (sl:=.val v) hr (RepV.fE L hr)) (L.store hn)
theorem Vw.kp (v:Vw C cx X Pn env ρ p s.heap) (k:Kp s s'):Vw C cx X Pn env ρ p s'.heap:=v.next (k.nx (Pn:=Pn) v.base).ext (k.au v.au)
theorem Loc.kp (L:Loc C X Pn env s.heap) (k:Kp s s'):Loc C X Pn env s'.heap:=let ⟨m,hm⟩:=L.ns;⟨⟨m,hm.at' fun o e=>k.keep _ o e⟩,L.inX,L.new⟩
theorem gx.trans {w:List Addr} {s'':Shared} (a:gx w s s') (b:gx w s' s''):gx w s s'':=⟨fun x o hx e=>b.keep x o hx (a.keep x o hx e),b.gens.trans a.gens,b.os.trans a.os⟩
theorem Kp.w {w:List Addr} (k:Kp s s'):gx w s s':=⟨fun x o _ e=>k.keep x o e,k.gens,k.os⟩
theorem uH {t:Expr} {tg:d8} {v:V} {val:Value} {Q:Unit→Shared→Prop} (hb:bindC cx t=some cx') (ht:tgtOf cx'.vars t=some tg) (O:bc cx) (hh:A.handled=none) (hv:Vw C cx X Pn env ρ p s.heap) (L:Loc C X Pn env s.heap)
  (e:cM tg v ρ=some ρ') (hr:RepV C X s.heap v val) (hQ:∀ s',gx [env.locals] s s'→Vw C cx' X Pn env ρ' p s'.heap→Loc C X Pn env s'.heap→Q () s'):wpAny (model C.prog C.w) A (assign t env val) Q E s:=by
 unfold bindC at hb
 split at hb
 ·rename_i x px
  cases hf:cP cx x with
  | false=>rw [hf] at hb;cases hb
  | true=>
   rw [hf] at hb
   simp only [Option.some.injEq] at hb
   obtain ⟨f1,f2,f3⟩:=ee hf
   have hc:cx'=bQ cx x:=hb.symm
   subst hc
   simp only [tgtOf,bQ,bA,if_true,Option.some.injEq] at ht
   subst ht
   simp only [cM,Option.some.injEq] at e
   subst e
   exact bind1 O f2 hv L hr hQ
 ·rename_i x px y py k pt
  cases hf:(cP cx x&&cP cx y&&x !=y) with
  | false=>rw [hf] at hb;cases hb
  | true=>
   rw [hf] at hb
   simp only [Option.some.injEq] at hb
   simp only [Bool.and_eq_true,bne_iff_ne,ne_eq] at hf
   obtain ⟨⟨fx,fy⟩,hne⟩:=hf
   obtain ⟨f1,f2,f3⟩:=ee fx
   obtain ⟨g1,g2,g3⟩:=ee fy
   have hc:cx'=bQ (bQ cx x) y:=hb.symm
   subst hc
   have l1:(bQ (bQ cx x) y).vars.lookup x=some cx.next:=by simp [bQ,bA,hne]
   have l2:(bQ (bQ cx x) y).vars.lookup y=some (cx.next + 1):=by simp [bQ,bA]
   simp only [tgtOf,l1,l2,Option.some.injEq] at ht
   subst ht
   have key:∃ u w,v=.tup [u,w]∧ρ'=sets (cx.next + 1) (sets cx.next ρ (.val u)) (.val w):=by
    cases v <;> simp only [cM] at e <;> (try cases e)
    case tup l=>
     match l,e with
     | [u,w],e=>exact ⟨u,w,rfl,by simpa using e.symm⟩
     | [],e=>cases e
     | [_],e=>cases e
     | _::_::_::_,e=>cases e
   obtain ⟨u,w,rfl,rfl⟩:=key
   simp only [RepV] at hr
   obtain ⟨a,vs,rfl,hxa,⟨hz,m,ho⟩,hl⟩:=hr
   simp only [RepVs] at hl
   obtain ⟨vu,r1,rfl,hu,vw,r2,rfl,hw,rfl⟩:=hl
   refine wpAny_assign_Tuple (items:=#[vu,vw]) hh ⟨_,ho,rfl,_,rfl⟩ rfl rfl fun aG he=>?_
   have K:Kp s { s with heap:=aG }:=⟨fun b o eb=>he b o (fun q=>by subst q;rw [bS] at eb;cases eb) eb,rfl,rfl⟩
   show wpAny _ _ (do holding [vw] (assign (.Name x px) env vu);assignInOrder [assign (.Name y py) env] [vw]) Q E _
   refine wpAny_bind (wpAny_holding (bind1 (s:={ s with heap:=aG }) O f2 (hv.kp K) (L.kp K) (hu.tr K.tr) fun s₂ k₂ v2 L2=>?_))
   show wpAny _ _ (do holding [] (assign (.Name y py) env vw);assignInOrder [] []) Q E _
   have hw2:RepV C X s₂.heap w vw:=by
    refine (hw.tr K.tr).tr fun b o eb _ hx=>⟨k₂.keep b o (fun q=>?_) eb,hx⟩
    simp at q;subst q;exact hx L.inX
   refine wpAny_bind (wpAny_holding (bind1 (gd O) g2 v2 L2 hw2 fun aP bk v3 L3=>?_))
   exact wpAny_pure (hQ _ (K.w.trans (k₂.trans bk)) v3 L3)
 ·cases hb
inductive gO (C:Cfg) (cx:Cx):List Expr→List aq→Prop
 | nil:gO C cx [] []
 | cons {e:Expr} {d:aq} {es:List Expr} {ds:List aq}:cQ C cx e d→gO C cx es ds→gO C cx (e::es) (d::ds)
theorem p9 {es:List Expr}:(forIn es false fun c r=>if r=true then do let ok ← isTrue c env (eval c env);pure (ForInStep.yield ok) else pure (ForInStep.yield r))=(pure false:Sem Bool):=by
 induction es with
 | nil=>rfl
 | cons e es ih=>
  rw [List.forIn_cons]
  simp only [Bool.false_eq_true,if_false]
  exact ih
theorem gO.run {es:List Expr} {ds:List aq} (h:gO C cx es ds):∀ {n:Nat} {call:Call},cL C n call→∀ {X Pn:AP} {env:Env} {ρ:Fr} {p:List V} {s:Shared} {A:Around} {Q:Bool→Shared→Prop} {E:Value→Shared→Prop},
  Vw C cx X Pn env ρ p s.heap→aN C A s.heap→cR A n→bh C X Pn (tests ds call ρ p).out (nv Q) E s→
  wpAny (model C.prog C.w) A (forIn es true fun c r=>if r=true then do let ok ← isTrue c env (eval c env);pure (ForInStep.yield ok) else pure (ForInStep.yield r)) Q E s:=by
 induction h with
 | nil=>
  intro n call hc X Pn env ρ p s A Q E hv hk hr N
  have N:bh C X Pn (Out.ok (V.bool true) p) (nv Q) E s:=N
  obtain ⟨q,e,hq⟩:=N.gF hv.base hv.au
  cases e
  exact wpAny_pure hq
 | @cons e d es ds h1 h2 ih=>
  intro n call hc X Pn env ρ p s A Q E hv hk hr N
  rw [List.forIn_cons]
  simp only [if_true]
  have jr:(tests (d::ds) call ρ p).out=(d call ρ p).out.bind fun v p=>(@V.rec (fun _=>Res) (fun _=>Unit) Res.stuck (fun q=>@Bool.rec (fun _=>Res) (Res.ok (V.bool false) p) (tests ds call ρ p) q) (fun _=>Res.stuck) (fun _=>Res.stuck) (fun _ _=>Res.stuck) (fun _ _=>Res.stuck) (fun _ _ _ _=>Res.stuck) (fun _ _ _=>Res.stuck) () (fun _ _ _ _=>()) v).out:=cv _ _
  rw [jr] at N
  refine wpAny_bind (wpAny_bind (h1 n call hc X Pn env ρ p s A _ E hv hk hr (bp.o.mpr (N.bind fun v p₁ s₁ _ hn hp N1=>?_))))
  cases v with
  | bool q=>
   refine ⟨q,rfl,wpAny_pure ?_⟩
   have v1:=hv.next hn.ext hp
   have k₁:=hk.ext hn.ext hv.au
   cases q with
   | true=>exact ih hc v1 k₁ hr N1
   | false=>
    show wpAny _ _ (forIn es false _) _ _ _
    rw [p9]
    have N1:bh C X Pn (Out.ok (V.bool false) p₁) (nv Q) E s₁:=N1
    obtain ⟨q,e,hq⟩:=N1.gF v1.base v1.au
    cases e
    exact wpAny_pure hq
  | _=>exact absurd rfl N1.1
end
section
variable {C:Cfg} {X X' Pn:AP} {h h':Heap} {s s':Shared} {A:Around} {n:Nat} {p p':List V} {E:Value→Shared→Prop}
theorem RepVs.set:∀ {l:List V} {vs:List Value} {n:Nat} {x:V} {v:Value},RepVs C X h l vs→RepV C X h x v→RepVs C X h (l.set n x) (vs.set n v)
 | [],_,_,_,_,a,_=>by simp only [RepVs] at a;subst a;simpa using RepVs.nil
 | y::ys,_,0,_,_,a,b=>by
  simp only [RepVs] at a
  obtain ⟨w,r,rfl,q1,q2⟩:=a
  exact .cons b q2
 | y::ys,_,n + 1,_,_,a,b=>by
  simp only [RepVs] at a
  obtain ⟨w,r,rfl,q1,q2⟩:=a
  exact .cons q1 (RepVs.set q2 b)
theorem jL {w:World}:∀ (l m:List V),hashVs w (l++m)=hashVs w l++hashVs w m
 | [],_=>by simp [hashVs]
 | a::l,m=>by simp [hashVs,jL l m]
theorem ji {α β:Type} (f:α→β) (g:α→α) (hg:∀ a,f (g a)=f a):∀ (l:List α) (n:Nat),(l.modify n g).map f=l.map f
 | [],0=>rfl
 | [],_ + 1=>rfl
 | a::l,0=>by simp [hg]
 | a::l,n + 1=>by simp [ji f g hg l n]
theorem iR {α β:Type} (f:α→β) (g:α→α) (b:β) (hg:∀ a,f (g a)=b):∀ (l:List α) (n:Nat),(l.modify n g).map f=(l.map f).set n b
 | [],0=>rfl
 | [],_ + 1=>rfl
 | a::l,0=>by simp [hg]
 | a::l,n + 1=>by simp [iR f g b hg l n]
theorem oX {a:Addr} {vs:List Value} {f:Array Value→Array Value} {ws:List Value} {Q:Unit→Shared→Prop} (hl:LstAt s.heap a vs) (hf:f vs.toArray=ws.toArray) (hz:ws.length≤most)
  (hQ:∀ h',Heap.SameBut a s.heap h'→LstAt h' a ws→Q () { s with heap:=h' }):wpAny (model C.prog C.w) A (updateSeq a f) Q E s:=by
 obtain ⟨z,n,ho⟩:=hl
 have hm:most=8000:=rfl
 have e:Obj.mapSeq f (cy vs n)=cy ws n∨∃ n',Obj.mapSeq f (cy vs n)=cy ws n':=by
  right
  obtain ⟨n',hd'⟩:=Obj.data_mapSeq (o:=cy vs n) (xs:=vs.toArray) (n:=n) rfl f
  refine ⟨n',?_⟩
  rw [hf] at hd'
  unfold Obj.mapSeq cy at *
  simpa [hf] using hd'
 have e:∃ n',Obj.mapSeq f (cy vs n)=cy ws n':=e.elim (fun q=>⟨n,q⟩) id
 obtain ⟨n',e⟩:=e
 refine wpAny_updateSeq ho rfl (hQ _ (Heap.SameBut.update ..) ⟨hz,n',?_⟩) (by rw [aT,List.size_toArray];omega) (by rw [hf,aT,List.size_toArray];omega)
 rw [Heap.get?_update_self _ ho (by rw [e];rfl),e]
theorem kh {d:Addr} {ks xs ks' xs':List V} {k v:V} {key val:Value} {Q:Unit→Shared→Prop} (hd:OwnR C X s.heap (.aQ ks xs) d) (hX:X d) (hput:dJ ks xs k v=some (ks',xs'))
  (hkey:RepV C X s.heap k key) (hval:RepV C X s.heap v val) (hu:A.units + 100 < cLine)
  (hQ:∀ h' tk,Heap.SameBut d s.heap h'→OwnR C X h' (.aQ ks' xs') d→Q () { s with heap:=h',toks:=tk }):wpAny (model C.prog C.w) A (dictSet d key val) Q E s:=by
 simp only [OwnR] at hd
 obtain ⟨es,hI,hks,hxs,hh,hok⟩:=hd
 obtain ⟨⟨hsys,hz⟩,n,ho⟩:=hI
 have hm:most=8000:=rfl
 unfold dJ at hput
 cases hx:keyOk 8 k with
 | false=>rw [hx] at hput;cases hput
 | true=>
  rw [hx] at hput
  cases hf:cD ks k 0 with
  | none=>rw [hf] at hput;cases hput
  | some o=>
   rw [hf] at hput
   unfold dictSet
   try with_reducible refine wpAny_holding ?_
   refine wpAny_bind (lB (C:=C) (X:=X) 8 k key _ _ _ _ hx hkey (by omega) fun tk=>?_)
   unfold dictSetHashed
   try with_reducible refine wpAny_holding ?_
   refine wpAny_bind (jz (C:=C) (X:=X) (s:={ s with toks:=tk }) ho hks hh hok hx hkey hu hf ?_)
   cases o with
   | some m=>
    have hput:some (ks,setAt xs m v)=some (ks',xs'):=hput
    cases hput
    refine wpAny_bind (wpAny_rule (wpAny_bind (wpAny_updateDict (s:={ s with toks:=tk }) ho rfl (wpAny_point ?_))))
    have hs:Heap.SameBut d s.heap (s.heap.update d (Obj.mapDict fun x=>x.modify m fun e=>{ e with val:=val })):=Heap.SameBut.update ..
    refine hQ _ tk hs ?_
    have T:=bo (X:=X) hs hX
    simp only [OwnR]
    refine ⟨es.modify m fun e=>{ e with val:=val },⟨⟨hsys,by simpa using hz⟩,?_⟩,?_,?_,?_,hok⟩
    ·obtain ⟨n',hd'⟩:∃ n',(Obj.mapDict (fun x=>x.modify m fun e=>{ e with val:=val }) (cH es n))=cH (es.modify m fun e=>{ e with val:=val }) n':=by
      refine ⟨n,?_⟩
      unfold Obj.mapDict cH
      simp
     exact ⟨n',by rw [Heap.get?_update_self _ ho (by rw [hd'];rfl),hd']⟩
    ·rw [ji (f:=fun e:DictEntry=>e.key) (g:=fun e=>{ e with val:=val }) (hg:=fun _=>rfl)];exact hks.tr T
    ·rw [iR (f:=fun e:DictEntry=>e.val) (g:=fun e=>{ e with val:=val }) (b:=val) (hg:=fun _=>rfl),lz];exact RepVs.set (hxs.tr T) (hval.tr T)
    ·rw [ji (f:=fun e:DictEntry=>e.hash) (g:=fun e=>{ e with val:=val }) (hg:=fun _=>rfl)];exact hh
   | none=>
    have hput:(@Bool.rec (fun _=>Option (List V×List V)) none (some (app ks [k],app xs [v])) (short lid ks))=some (ks',xs'):=hput
    obtain ⟨hsh,hput⟩:=cJ hput
    cases hput
    have hlen:=hks.length
    rw [List.length_map] at hlen
    have hsz:=cU hsh
    have hl:lid=3000:=rfl
    refine wpAny_bind (wpAny_rule (wpAny_updateDictKeys (s:={ s with toks:=tk }) ho rfl ?_ (by rw [aT,List.size_toArray];omega)))
    have hs:Heap.SameBut d s.heap (s.heap.update d (Obj.mapDictKeys fun x=>x.push ⟨hashV C.w k,key,val⟩)):=Heap.SameBut.update ..
    refine hQ _ tk hs ?_
    have T:=bo (X:=X) hs hX
    simp only [OwnR]
    refine ⟨es++[⟨hashV C.w k,key,val⟩],⟨⟨hsys,by simp;omega⟩,?_⟩,?_,?_,?_,?_⟩
    ·obtain ⟨n',hd'⟩:∃ n',(Obj.mapDictKeys (fun x=>x.push ⟨hashV C.w k,key,val⟩) (cH es n))=cH (es++[⟨hashV C.w k,key,val⟩]) n':=by
      refine ⟨n + 1,?_⟩
      unfold Obj.mapDictKeys cH
      simp
     exact ⟨n',by rw [Heap.get?_update_self _ ho (by rw [hd'];rfl),hd']⟩
    ·rw [List.map_append,eJ];exact (hks.tr T).append (.cons (hkey.tr T) .nil)
    ·rw [List.map_append,eJ];exact (hxs.tr T).append (.cons (hval.tr T) .nil)
    ·rw [List.map_append,hh,eJ,jL];simp [hashVs]
    ·intro q hq
     rw [eJ] at hq
     rcases List.mem_append.mp hq with hq | hq
     ·exact hok q hq
     ·simp at hq;subst hq;exact hx
end
inductive Kd where
 | l (elt:Expr)
 | d (k:Expr) (u:Bool) (ck:Nat) (cp:Pos)
def Kd.elt:Kd→Expr
 | .l e=>e
 | .d k _ _ _=>k
def Kd.expr:Kd→List Comprehension→Scope→Pos→Expr
 | .l e,gs,sc,pos=>.ListComp e gs sc pos
 | .d k u ck cp,gs,sc,pos=>.DictComp k (.Constant (.bool u) ck cp) gs sc pos
noncomputable def Kd.emit (K:Kd) (acc:Value) (env:Env):Sem Unit:=match K with
 | .l e=>do let _ ← call (.builtin "list.append") [acc,← eval e env]
 | .d k u ck cp=>do
  let kv ← eval k env
  let vv ← holding [kv] (eval (.Constant (.bool u) ck cp) env)
  match acc with
  | .ref D=>do
   standAt { k.pos with endLine:=cp.endLine,endCol:=cp.endCol }
   holding [kv,vv] (dictSet D kv vv)
  | _=>unsupported "internal:dictcomp"
noncomputable def Kd.inner (K:Kd) (gs:List Comprehension) (sc:Scope) (pos:Pos) (i:Nat) (acc:Value) (env:Env) (k:Sem Fin):Sem Fin:=match gs[i]? with
 | some g'=>do
  let x ← eval g'.iter env
  standAt g'.iter.pos
  let x ← if g'.is_async !=0 then foldedIterable g'.iter x else foldedSetIterable g'.iter env x
  let _ ← runOwn (.compStart (K.expr gs sc pos) i (← holding [x] (if g'.is_async !=0 then asyncIter x else pyIter x)) acc env) env
  k
 | none=>do
  K.emit acc env
  k
theorem turn_eq (K:Kd) (gs:List Comprehension) (sc:Scope) (pos:Pos) (i:Nat) (t src:Expr) (ifs:List Expr) (h:gs[i]?=some ⟨t,src,ifs,0⟩) (it acc:Value) (env:Env):
  compTurn (K.expr gs sc pos) i it acc env=(do
   standAt src.pos
   match ← pyNext it with
   | none=>pure (.done .next)
   | some v=>
    letOwnedTupleGo t it v
    assign t env v
    let ok ← forIn ifs true fun c r=>if r=true then do let ok ← isTrue c env (eval c env);pure (ForInStep.yield ok) else pure (ForInStep.yield r)
    if ok=true then K.inner gs sc pos (i + 1) acc env (again (.compLoop (K.expr gs sc pos) i it acc env))
    else again (.compLoop (K.expr gs sc pos) i it acc env)):=by
 cases K with
 | l e=>
  unfold compTurn Kd.expr
  simp only [h]
  rfl
 | d k u ck cp=>
  unfold compTurn Kd.expr
  simp only [h]
  rfl
noncomputable def accV:Kd→List V→Option V
 | .l _,m=>some (.lst m)
 | .d _ u _ _,m=>keysD m (.bool u) [] []
def Fits (K:Kd) (m:List V):Prop:=short lid m=true∧∃ v,accV K m=some v
def fs (C:Cfg) (K:Kd) (X:AP) (h:Heap) (m:List V) (D:Addr):Prop:=∃ v,accV K m=some v∧OwnR C X h v D
theorem jk (u k:V) (r ks vs:List V):keysD (k::r) u ks vs=match dJ ks vs k u with | some (ks,vs)=>keysD r u ks vs | none=>none:=rfl
theorem hM (u:V):∀ (l m:List V) (ks vs:List V),keysD (l++m) u ks vs=match keysD l u ks vs with
  | some (.aQ ks vs)=>keysD m u ks vs
  | _=>none
 | [],_,_,_=>rfl
 | k::r,m,ks,vs=>by
  rw [List.cons_append,jk,jk]
  cases dJ ks vs k u with
  | none=>rfl
  | some q=>exact hM u r m q.1 q.2
theorem nD (u:V):∀ (l:List V) (ks vs:List V) (r:V),keysD l u ks vs=some r→∃ ks vs,r=.aQ ks vs
 | [],ks,vs,r,e=>by cases e;exact ⟨_,_,rfl⟩
 | k::l,ks,vs,r,e=>by
  unfold keysD at e
  cases hp:dJ ks vs k u with
  | none=>rw [hp] at e;cases e
  | some q=>rw [hp] at e;exact nD u l q.1 q.2 r e
theorem tI {α:Type} {n:Nat} {l:List α} (h:l.length≤n):short n l=true:=by
 induction l generalizing n with
 | nil=>cases n <;> rfl
 | cons a l ih=>
  cases n with
  | zero=>simp at h
  | succ n=>exact ih (by simpa using h)
theorem Fits.left {K:Kd} {m k:List V} (h:Fits K (m++k)):Fits K m:=by
 obtain ⟨h1,v,h2⟩:=h
 refine ⟨tI (by have:=cU h1;simp at this;omega),?_⟩
 cases K with
 | l e=>exact ⟨_,rfl⟩
 | d k' u ck cp=>
  simp only [accV] at h2 ⊢
  rw [hM] at h2
  cases hk:keysD m (.bool u) [] [] with
  | none=>rw [hk] at h2;cases h2
  | some r=>exact ⟨r,rfl⟩
def Y2 (Pn:AP) (D L:Addr):AP:=fun b=>Pn b∨b=D∨b=L
def X2 (X:AP) (D L:Addr):AP:=fun b=>X b∨b=D∨b=L
def YW (Y:AP) (wr:List Addr):AP:=fun b=>Y b∨b∈wr
section
variable {C:Cfg} {cx cx' ci:Cx} {b:Bool} {X X' Y Pn:AP} {h h':Heap} {s s':Shared} {A:Around} {n:Nat} {ρ ρ':Fr} {p p':List V} {env:Env} {E:Value→Shared→Prop} {wr:List Addr} {D L:Addr}
theorem Ext.grow (e:Ext C Pn h h') (hY:∀ b,Pn b→Y b):Ext C Y h h':=⟨e.base,fun b o g hp=>e.keep b o g fun q=>hp (hY b q),fun b o g hp=>e.data b o g fun q=>hp (hY b q),fun X x=>(e.tab X x).mono fun c q _=>⟨q.1,fun r=>q.2.1 (hY c r),q.2.2⟩⟩
theorem Nx.grow (e:Nx C Pn s s') (hY:∀ b,Pn b→Y b):Nx C Y s s':=⟨e.ext.grow hY,e.gens,e.os⟩
theorem Ext.shrink (e:Ext C Y h h') (hY:∀ b,Y b→Pn b∨h.get? b=none):Ext C Pn h h':=
 have k:∀ b o,h.get? b=some o→¬Pn b→¬Y b:=fun b o g hp q=>(hY b q).elim hp fun r=>by rw [g] at r;cases r
 ⟨e.base,fun b o g hp=>e.keep b o g (k b o g hp),fun b o g hp=>e.data b o g (k b o g hp),fun X x=>(e.tab X x).mono fun c q _=>⟨q.1,let ⟨o,g⟩:=q.2.2;k c o g q.2.1,q.2.2⟩⟩
theorem Nx.shrink (e:Nx C Y s s') (hY:∀ b,Y b→Pn b∨s.heap.get? b=none):Nx C Pn s s':=⟨e.ext.shrink hY,e.gens,e.os⟩
theorem gx.base (k:gx wr s s') (h0:∀ c∈wr,C.h₀.get? c=none) (hb:Base C s.heap):Base C s'.heap:=fun b o e=>k.keep b o (fun q=>by rw [h0 b q] at e;cases e) (hb b o e)
theorem gx.nx (k:gx wr s s') (hb:Base C s'.heap) (hY:∀ c∈wr,Y c) (hn:∀ c∈wr,NC s.heap c):Nx C Y s s':=
 have k':∀ b o,s.heap.get? b=some o→¬Y b→s'.heap.get? b=some o:=fun b o e q=>k.keep b o (fun m=>q (hY b m)) e
 ⟨⟨hb,fun b o e q _=>k' b o e q,fun b o e q=>⟨o,k' b o e q,rfl,.inr rfl⟩,fun X x=>x.but (W:=fun b=>b∈wr) (fun b o e q=>k.keep b o q e) hn fun b q=>.inl q.1⟩,k.gens,k.os⟩
structure ku (C:Cfg) (X:AP) (s s':Shared):Prop where
 tab:dm C X s.heap→dm C X s'.heap
 keep:∀ b o,s.heap.get? b=some o→bG o.cls∨X b→s'.heap.get? b=some o
 base:Base C s'.heap
theorem gx.gp (k:gx wr s s') (hX:∀ c∈wr,¬X c) (h0:∀ c∈wr,C.h₀.get? c=none) (hr:∀ b∈wr,∀ ob,s.heap.get? b=some ob→¬bG ob.cls) (hb:Base C s.heap) (hn:∀ c∈wr,NC s.heap c):ku C X s s':=
 ⟨fun x=>x.but (W:=fun b=>b∈wr) (fun b o e q=>k.keep b o q e) hn,fun b o e q=>k.keep b o (fun m=>q.elim (hr b m o e) (hX b m)) e,k.base h0 hb⟩
theorem ku.tr (k:ku C X s s'):Tr X s.heap X s'.heap:=fun a o e hc hx=>⟨k.keep a o e (.inl hc),hx⟩
theorem ku.own {v:V} {a:Addr} (k:ku C X s s') (r:OwnR C X s.heap v a):OwnR C X s'.heap v a:=by
 obtain ⟨o,ho,hc⟩:=r.obj
 exact r.tr k.tr fun o' e' _=>k.keep a o' e' (.inl (by rw [ho] at e';cases e';exact hc))
theorem Reads.gp {x:Str} {val:Value} (k:ku C X s s') (hL:X env.locals) (r:Reads env s.heap x val):Reads env s'.heap x val:=by
 unfold Reads at r ⊢
 split at r
 ·obtain ⟨m,hn,hm⟩:=r;exact ⟨m,hn.at' fun o e=>k.keep _ o e (.inr hL),hm⟩
 ·obtain ⟨c,hc,o,ho,hcl,hd⟩:=r;exact ⟨c,hc,o,k.keep c o ho (.inl (by rw [hcl];exact .inr (.inr (.inr (.inr rfl))))),hcl,hd⟩
 ·obtain ⟨c,hc,o,ho,hcl,hd⟩:=r;exact ⟨c,hc,o,k.keep c o ho (.inl (by rw [hcl];exact .inr (.inr (.inr (.inr rfl))))),hcl,hd⟩
 ·exact r.elim
theorem aY.gp (R:aY C X Pn s.heap p) (hp:∀ b,Pn b→X b) (k:ku C X s s'):aY C X Pn s'.heap p:=R.tr k.tr fun b o hb ho _=>k.keep b o ho (.inr (hp b hb))
theorem cE.gp {sl:Slot} {val:Value} (r:cE C X Pn s.heap sl val) (k:ku C X s s'):cE C X Pn s'.heap sl val:=by
 cases sl with
 | undef=>trivial
 | val v=>exact RepV.tr k.tr r
 | own v=>obtain ⟨a,e,hx,hn,q⟩:=r;exact ⟨a,e,hx,hn,k.own q⟩
 | au=>exact r
theorem Vw.gp (v:Vw C cx X Pn env ρ p s.heap) (hL:X env.locals) (k:ku C X s s'):Vw C cx X Pn env ρ p s'.heap where
 kind:=v.kind
 globals:=v.globals
 builtins:=v.builtins
 kinds:=v.kinds
 cells:=v.cells
 vars x j hx hu:=by
  obtain ⟨val,a,c,d⟩:=v.vars x j hx hu
  exact ⟨val,a.gp k hL,c.gp k,d⟩
 own:=v.own
 caps:=v.caps
 code:=v.code
 tab:=k.tab v.tab
 au:=v.au.gp v.pnX k
 pnX:=v.pnX
 base:=k.base
 lt c hc:=let ⟨o,ho⟩:=v.lt c hc;⟨o,k.keep c o ho (.inr hc)⟩
 fresh:=v.fresh
theorem Loc.gp (l:Loc C X Pn env s.heap) (k:ku C X s s'):Loc C X Pn env s'.heap:=let ⟨_,hm⟩:=l.ns;⟨⟨_,hm.at' fun o e=>k.keep _ o e (.inr l.inX)⟩,l.inX,l.new⟩
theorem fs.gp {K:Kd} {m:List V} (r:fs C K X s.heap m D) (k:ku C X s s'):fs C K X s'.heap m D:=let ⟨v,e,q⟩:=r;⟨v,e,k.own q⟩
theorem fs.ext {K:Kd} {m:List V} (r:fs C K X h m D) (e:Ext C Pn h h') (hp:∀ b,Pn b→X b) (hD:¬Pn D):fs C K X h' m D:=let ⟨v,e',q⟩:=r;⟨v,e',q.ext e hp hD⟩
def gk (cx:Cx) (ρ:Fr):Prop:=∀ x j v,cx.vars.lookup x=some j→ay j ρ≠.own v
theorem Vw.grown {o:Obj} (v:Vw C cx X Pn env ρ p h) (hno:gk cx ρ) (hs:Heap.SameBut D h h') (hX:X D) (hD:¬Pn D) (hDL:D≠env.locals) (hcl:∃ o,h.get? D=some o∧o.cls≠.type "cell") (hnc:NC h D) (ho:h'.get? D=some o):Vw C cx X Pn env ρ p h':=by
 have t:=bo (X:=X) hs hX
 have cell:∀ {c:Addr} {w:Value},cA h c w→cA h' c w:=fun {c w} x=>by
  obtain ⟨j2,h1,hc,hd⟩:=x
  refine ⟨j2,hs.extBut c j2 (fun q=>?_) h1,hc,hd⟩
  subst q
  obtain ⟨o',ho',hne⟩:=hcl
  rw [h1] at ho';cases ho';exact hne hc
 refine { kind:=v.kind,globals:=v.globals,builtins:=v.builtins,kinds:=v.kinds,cells:=v.cells,vars:=fun x j hx hu=>?_,own:=v.own,caps:=v.caps,code:=v.code,tab:=v.tab.but (W:=fun b=>b=D) (fun b o e q=>hs.extBut b o q e) (fun b q=>q ▸ hnc),au:=v.au.tr t fun b o hb ho _=>hs.extBut b o (fun q=>hD (q ▸ hb)) ho,pnX:=v.pnX,base:=fun b o e=>hs.extBut b o (fun q=>by subst q;rw [v.fresh _ hX] at e;cases e) (v.base b o e),lt:=fun b hb=>?_,fresh:=v.fresh }
 ·obtain ⟨val,a,c,d⟩:=v.vars x j hx hu
  refine ⟨val,?_,?_,d⟩
  ·unfold Reads at a ⊢
   split at a
   ·obtain ⟨m,hn,hm⟩:=a;exact ⟨m,hn.at' fun o e=>hs.extBut _ o (Ne.symm hDL) e,hm⟩
   ·obtain ⟨c,hc,q⟩:=a;exact ⟨c,hc,cell q⟩
   ·obtain ⟨c,hc,q⟩:=a;exact ⟨c,hc,cell q⟩
   ·exact a.elim
  ·cases hg:ay j ρ with
   | undef=>trivial
   | val w=>rw [hg] at c;exact RepV.tr t c
   | own w=>exact absurd hg (hno x j w hx)
   | au=>rw [hg] at c;exact c
 ·by_cases q:b=D
  ·subst q;exact ⟨o,ho⟩
  ·obtain ⟨o',ho'⟩:=v.lt b hb;exact ⟨o',hs.extBut b o' q ho'⟩
theorem Loc.grown (l:Loc C X Pn env h) (hs:Heap.SameBut D h h') (hDL:D≠env.locals):Loc C X Pn env h':=let ⟨_,hm⟩:=l.ns;⟨⟨_,hm.at' fun o e=>hs.extBut _ o (Ne.symm hDL) e⟩,l.inX,l.new⟩
end
section
variable {C:Cfg} {cx cx' ci:Cx} {b:Bool} {X X' Y Pn:AP} {h h':Heap} {s s':Shared} {A:Around} {n:Nat} {ρ ρ':Fr} {p p':List V} {env:Env} {E:Value→Shared→Prop} {wr:List Addr} {D L:Addr} {call:Call}
theorem Ends.of_ok {r:Res} {v:V} {Q:Value→Shared→Prop} (e:r=.ok v p') (h:∀ val s',Nx C Pn s s'→aY C X Pn s'.heap p'→gE b C X Pn s'.heap v val→Q val s'):Ends C b X Pn r Q E s:=by
 subst e
 exact ⟨by simp,fun v p e=>by cases e;exact h,fun _ _ e=>(nomatch e)⟩
theorem bh.of_ok {α:Type} {r:Out α} {v:α} {Q:α→Shared→Prop} (e:r=.ok v p') (h:∀ s',Nx C Pn s s'→aY C X Pn s'.heap p'→Q v s'):bh C X Pn r Q E s:=by
 subst e
 exact ⟨by simp,fun v p e=>by cases e;exact h,fun _ _ e=>(nomatch e)⟩
theorem OwnR.kD {v:V} {a:Addr} (r:OwnR C X h v a):∃ o,h.get? a=some o∧o.cls≠.type "cell" := by
 cases v <;> simp only [OwnR] at r
 case lst l=>obtain ⟨vs,⟨z,n,x⟩,y⟩:=r;exact ⟨_,x,by simp [cy]⟩
 case aQ ks xs=>obtain ⟨es,⟨z,n,x⟩,y,w,q⟩:=r;exact ⟨_,x,by simp [cH]⟩
theorem OwnR.nc {v:V} {a:Addr} (r:OwnR C X h v a):NC h a:=by
 cases v <;> simp only [OwnR] at r
 case lst l=>obtain ⟨vs,⟨z,n,x⟩,y⟩:=r;exact .gZ x rfl (by decide)
 case aQ ks xs=>obtain ⟨es,⟨z,n,x⟩,y,w,q⟩:=r;exact .gZ x rfl (by decide)
theorem fC {o:Obj} (hb:Base C s.heap) (hs:Heap.SameBut D s.heap h') (h0:C.h₀.get? D=none) (hY:Y D) (hn:NC s.heap D) (tk:Tok):Nx C Y s { s with heap:=h',toks:=tk }:=
 have k:∀ b o,s.heap.get? b=some o→¬Y b→h'.get? b=some o:=fun b o e q=>hs.extBut b o (fun r=>q (r ▸ hY)) e
 ⟨⟨fun b o e=>hs.extBut b o (fun q=>by subst q;rw [h0] at e;cases e) (hb b o e),fun b o e q _=>k b o e q,fun b o e q=>⟨o,k b o e q,rfl,.inr rfl⟩,fun X x=>x.but (W:=fun b=>b=D) (fun b o e q=>hs.extBut b o q e) (fun b q=>q ▸ hn) fun b q=>.inl q.1⟩,rfl,rfl⟩
theorem mh {u k:V} {m ks vs:List V} (e:keysD m u [] []=some (.aQ ks vs)):keysD (m++[k]) u [] []=match dJ ks vs k u with | some (ks,vs)=>some (.aQ ks vs) | none=>none:=by
 rw [hM,e]
 show keysD [k] u ks vs=_
 rw [jk]
 cases dJ ks vs k u <;> rfl
theorem uw {K:Kd} {d:aq} {m:List V} {v:V} {Q:Unit→Shared→Prop} (he:az C ci false K.elt d) (hc:cL C n call) (hv:Vw C ci X Pn env ρ p s.heap) (l:Loc C X Pn env s.heap) (hno:gk ci ρ) (hk:aN C A s.heap) (hr:cR A n)
  (hD:fs C K X s.heap m D) (hX:X D) (hDP:¬Pn D) (hDL:D≠env.locals) (e:d call ρ p=.ok v p') (hF:Fits K (m++[v]))
  (hQ:∀ s',Nx C (Y2 Pn D env.locals) s s'→Vw C ci X Pn env ρ p' s'.heap→Loc C X Pn env s'.heap→fs C K X s'.heap (m++[v]) D→Q () s'):wpAny (model C.prog C.w) A (K.emit (.ref D) env) Q E s:=by
 have hYD:Y2 Pn D env.locals D:=.inr (.inl rfl)
 cases K with
 | l elt=>
  show wpAny _ A (eval elt env >>= fun x=>PySem.call (.builtin "list.append") [.ref D,x] >>= fun _=>pure ()) _ _ _
  refine wpAny_bind (he n call hc X Pn env ρ p s A _ E hv hk hr (.of_ok e fun val s₁ hn hp hval=>?_))
  have v1:=hv.next hn.ext hp
  have jj:=l.ext hv.au hn.ext
  obtain ⟨w,ew,hD1⟩:=hD.ext hn.ext hv.pnX hDP
  simp only [accV,Option.some.injEq] at ew
  subst ew
  have hcl:=hD1.kD
  have hnc:=hD1.nc
  simp only [OwnR] at hD1
  obtain ⟨vs,hl,hvs⟩:=hD1
  have hT:s₁.TypeIs (.ref D) "list" := let ⟨_,k,ho⟩:=hl;⟨_,ho,rfl⟩
  refine wpAny_bind (wpAny_call_entry slot_list_append hT entry_list_append ?_ (args_list_append _ _))
  show wpAny _ _ (updateSeq D (·.push val) >>= fun _=>ret .none) _ _ s₁
  have hlen:=hvs.length
  have hsh:=cU hF.1
  have hm:most=8000:=rfl
  have hli:lid=3000:=rfl
  refine wpAny_bind (oX (ws:=vs++[val]) hl (by simp) (by simp at hsh ⊢;omega) fun bu hs jn=>?_)
  refine wpAny_pure ⟨_,rfl,wpAny_pure ?_⟩
  have T:=bo (X:=X) hs hX
  refine hQ _ ((hn.grow fun _ q=>.inl q).trans (fC (o:=default) v1.base hs (v1.fresh _ hX) hYD hnc _)) ?_ (jj.grown hs hDL) ⟨.lst (m++[v]),rfl,?_⟩
  ·obtain ⟨_,k,ho⟩:=jn;exact v1.grown hno hs hX hDP hDL hcl hnc ho
  ·simp only [OwnR];exact ⟨_,jn,(hvs.tr T).append (.cons (RepV.tr T hval) .nil)⟩
 | d k u ck cp=>
  show wpAny _ A (eval k env >>= fun kv=>holding [kv] (eval (.Constant (.bool u) ck cp) env) >>= fun vv=>standAt { k.pos with endLine:=cp.endLine,endCol:=cp.endCol } >>= fun _=>holding [kv,vv] (dictSet D kv vv)) _ _ _
  refine wpAny_bind (he n call hc X Pn env ρ p s A _ E hv hk hr (.of_ok e fun val s₁ hn hp hval=>?_))
  have v1:=hv.next hn.ext hp
  have jj:=l.ext hv.au hn.ext
  obtain ⟨w,ew,hD1⟩:=hD.ext hn.ext hv.pnX hDP
  simp only [accV] at ew
  obtain ⟨ks,xs,rfl⟩:=nD _ _ _ _ _ ew
  have hcl:=hD1.kD
  have hnc:=hD1.nc
  obtain ⟨_,w,ew'⟩:=hF
  simp only [accV] at ew'
  rw [mh ew] at ew'
  cases hput:dJ ks xs v (.bool u) with
  | none=>rw [hput] at ew';cases ew'
  | some q=>
   obtain ⟨ks',xs'⟩:=q
   refine wpAny_bind (wpAny_holding (wpAny_Constant_bool (wpAny_bind (wpAny_standAt (wpAny_holding ?_)))))
   refine kh hD1 hX hput hval (by simp [RepV]) (by have:=hr.units;omega) fun bu tk hs oh=>?_
   refine hQ _ ((hn.grow fun _ q=>.inl q).trans (fC (o:=default) v1.base hs (v1.fresh _ hX) hYD hnc _)) ?_ (jj.grown hs hDL) ⟨.aQ ks' xs',?_,oh⟩
   ·obtain ⟨o,ho,_⟩:=oh.obj;exact v1.grown hno hs hX hDP hDL hcl hnc ho
   ·simp only [accV];rw [mh ew,hput]
end
structure BX (cx cx':Cx) (ρ ρ':Fr):Prop where
 sc:cx'.sc=cx.sc
 muts:cx'.muts=cx.muts
 caps:cx'.caps=cx.caps
 vars:∀ x j,cx.vars.lookup x=some j→cx'.vars.lookup x=some j∧ay j ρ'=ay j ρ
section
variable {C:Cfg} {cx cx' ci:Cx} {b:Bool} {X X' Y Pn:AP} {h h':Heap} {s s':Shared} {A:Around} {n:Nat} {ρ ρ':Fr} {p p':List V} {env:Env} {E:Value→Shared→Prop} {wr:List Addr} {D L:Addr} {call:Call}
theorem k9 {t:Expr} (hb:bindC cx t=some cx'):(∃ x px,t=.Name x px∧cP cx x=true∧cx'=bQ cx x)∨
  (∃ x px y py k pt,t=.Tuple [.Name x px,.Name y py] k pt∧cP cx x=true∧cP cx y=true∧x≠y∧cx'=bQ (bQ cx x) y):=by
 unfold bindC at hb
 split at hb
 ·rename_i x px
  cases hf:cP cx x with
  | false=>rw [hf] at hb;cases hb
  | true=>
   rw [hf] at hb
   simp only [Option.some.injEq] at hb
   exact .inl ⟨x,px,rfl,hf,hb.symm⟩
 ·rename_i x px y py k pt
  cases hf:(cP cx x&&cP cx y&&x !=y) with
  | false=>rw [hf] at hb;cases hb
  | true=>
   rw [hf] at hb
   simp only [Option.some.injEq] at hb
   simp only [Bool.and_eq_true,bne_iff_ne,ne_eq] at hf
   exact .inr ⟨x,px,y,py,k,pt,rfl,hf.1.1,hf.1.2,hf.2,hb.symm⟩
 ·cases hb
theorem nd {x:Str} {sl:Slot} (O:bc cx) (hf:cx.vars.lookup x=none):BX cx (bQ cx x) ρ (sets cx.next ρ sl):=by
 refine ⟨rfl,rfl,rfl,fun y j hy=>?_⟩
 have hne:y≠x:=fun q=>by subst q;rw [hf] at hy;cases hy
 refine ⟨by simp [bQ,bA,hne,hy],?_⟩
 rw [bO,if_neg]
 intro q
 have:=O.lt y j hy
 omega
theorem BX.trans {cx'':Cx} {ρ'':Fr} (a:BX cx cx' ρ ρ') (b:BX cx' cx'' ρ' ρ''):BX cx cx'' ρ ρ'':=
 ⟨b.sc.trans a.sc,b.muts.trans a.muts,b.caps.trans a.caps,fun x j h=>let ⟨q,r⟩:=a.vars x j h;let ⟨q',r'⟩:=b.vars x j q;⟨q',r'.trans r⟩⟩
theorem jG {x:Str} {v:V} (O:bc cx) (hn:gk cx ρ):gk (bQ cx x) (sets cx.next ρ (.val v)):=by
 intro y j w hy
 rw [bO]
 rcases nf O y j hy with ⟨rfl,rfl⟩ | ⟨_,hj,hy'⟩
 ·by_cases h16:cx.next < 16
  ·rw [if_pos ⟨rfl,h16⟩];intro q;cases q
  ·rw [if_neg (by omega),cG (by omega)];intro q;cases q
 ·rw [if_neg (fun q=>hj q.1)];exact hn y j w hy'
theorem wZ {t:Expr} {tg:d8} {v:V} (hb:bindC cx t=some cx') (ht:tgtOf cx'.vars t=some tg) (O:bc cx) (e:cM tg v ρ=some ρ'):BX cx cx' ρ ρ'∧bc cx'∧(gk cx ρ→gk cx' ρ'):=by
 rcases k9 hb with ⟨x,px,rfl,hf,rfl⟩ | ⟨x,px,y,py,k,pt,rfl,fx,fy,hne,rfl⟩
 ·obtain ⟨f1,f2,f3⟩:=ee hf
  simp only [tgtOf,bQ,bA,if_true,Option.some.injEq] at ht
  subst ht
  simp only [cM,Option.some.injEq] at e
  subst e
  exact ⟨nd O f1,gd O,jG O⟩
 ·obtain ⟨f1,f2,f3⟩:=ee fx
  obtain ⟨g1,g2,g3⟩:=ee fy
  have l1:(bQ (bQ cx x) y).vars.lookup x=some cx.next:=by simp [bQ,bA,hne]
  have l2:(bQ (bQ cx x) y).vars.lookup y=some (cx.next + 1):=by simp [bQ,bA]
  simp only [tgtOf,l1,l2,Option.some.injEq] at ht
  subst ht
  have key:∃ u w,v=.tup [u,w]∧ρ'=sets (cx.next + 1) (sets cx.next ρ (.val u)) (.val w):=by
   cases v <;> simp only [cM] at e <;> (try cases e)
   case tup l=>
    match l,e with
    | [u,w],e=>exact ⟨u,w,rfl,by simpa using e.symm⟩
    | [],e=>cases e
    | [_],e=>cases e
    | _::_::_::_,e=>cases e
  obtain ⟨u,w,rfl,rfl⟩:=key
  have O':=gd (x:=x) O
  have hg:(bQ cx x).vars.lookup y=none:=by simp [bQ,bA,Ne.symm hne,g1]
  exact ⟨(nd O f1).trans (nd O' hg),gd O',fun hn=>jG O' (jG O hn)⟩
theorem Vw.drop (v:Vw C cx' X Pn env ρ' p h) (B:BX cx cx' ρ ρ'):Vw C cx X Pn env ρ p h where
 kind:=v.kind
 globals:=v.globals
 builtins:=v.builtins
 kinds:=by rw [← B.sc];exact v.kinds
 cells:=v.cells
 vars x j hx hu:=by
  obtain ⟨q,r⟩:=B.vars x j hx
  rw [← r] at hu ⊢
  exact v.vars x j q hu
 own x j w hx hg:=by
  obtain ⟨q,r⟩:=B.vars x j hx
  rw [← r] at hg;rw [← B.muts]
  exact v.own x j w q hg
 caps:=by rw [← B.caps];exact v.caps
 code:=by rw [← B.caps];exact v.code
 tab:=v.tab
 au:=v.au
 pnX:=v.pnX
 base:=v.base
 lt:=v.lt
 fresh:=v.fresh
inductive ia (C:Cfg):Bool→Cx→Cx→Expr→List Comprehension→G→Prop
 | one {cx ci:Cx} {elt:Expr} {d:aq}:az C ci false elt d→ia C false cx ci elt [] (bF d)
 | clause {b:Bool} {cx ci cx':Cx} {elt t src:Expr} {ifs:List Expr} {gs:List Comprehension} {sd:aq} {tg:d8} {cs:List aq} {g:G} {own:Bool}:
   dp C cx b src sd own→(∀ env x,foldedSetIterable src env x=pure x)→bindC ci t=some cx'→tgtOk t own=true→tgtOf cx'.vars t=some tg→gO C cx' ifs cs→ia C false cx' cx' elt gs g→
   ia C b cx ci elt (⟨t,src,ifs,0⟩::gs) (bB tg sd cs g)
theorem tA (K:Kd) (gs:List Comprehension) (sc:Scope) (pos:Pos) (i:Nat) (t src:Expr) (ifs:List Expr) (h:gs[i]?=some ⟨t,src,ifs,0⟩) (it acc:Value) (env:Env):
  compStart (K.expr gs sc pos) i it acc env=(do
   if (← ask).params.followText "comprehension-iter-twice" then return ← again (.compLoop (K.expr gs sc pos) i it acc env)
   rule "comprehension.iter-twice"
   standAt src.pos
   again (.compLoop (K.expr gs sc pos) i (← pyIter it) acc env)):=by
 cases K with
 | l e=>
  unfold compStart Kd.expr
  simp only [clausesOf,h]
  rfl
 | d k u ck cp=>
  unfold compStart Kd.expr
  simp only [clausesOf,h]
  rfl
theorem pE (K:Kd) (gs:List Comprehension) (sc:Scope) (pos:Pos) (i:Nat) (it acc:Value) (env:Env):(model C.prog C.w).den (.compStart (K.expr gs sc pos) i it acc env)=(compStart (K.expr gs sc pos) i it acc env).onRaise (fun x=>do noteFrame x env;standAt theWindowsPlace):=by
 cases K <;> rfl
theorem kX (K:Kd) (gs:List Comprehension) (sc:Scope) (pos:Pos) (i:Nat) (it acc:Value) (env:Env):(model C.prog C.w).den (.compLoop (K.expr gs sc pos) i it acc env)=(compTurn (K.expr gs sc pos) i it acc env).onRaise (fun x=>do noteFrame x env;theTreesLotGoes x):=by
 cases K <;> rfl
theorem pX (K:Kd) (gs:List Comprehension) (sc:Scope) (pos:Pos) (i:Nat) (it acc:Value) (env:Env):A.under (.compStart (K.expr gs sc pos) i it acc env)=A:=by
 cases K <;> rfl
theorem lS (K:Kd) (gs:List Comprehension) (sc:Scope) (pos:Pos) (i:Nat) (it acc:Value) (env:Env):A.under (.compLoop (K.expr gs sc pos) i it acc env)=A:=by
 cases K <;> rfl
theorem fD (K:Kd) (gs:List Comprehension) (sc:Scope) (pos:Pos) (i:Nat) (it acc:Value) (env:Env):(Code.compLoop (K.expr gs sc pos) i it acc env).quiet=true:=by
 cases K <;> rfl
theorem nk {K:Kd} {gs:List Comprehension} {sc:Scope} {pos:Pos} {i:Nat} {t src:Expr} {ifs:List Expr} {it acc:Value} {R:Result→Shared→Prop} (h:gs[i]?=some ⟨t,src,ifs,0⟩)
  (h0:codeAny (model C.prog C.w) A (.compLoop (K.expr gs sc pos) i it acc env) R s)
  (h1:wpAny (model C.prog C.w) A (pyIter it) (fun it' s'=>codeAny (model C.prog C.w) A (.compLoop (K.expr gs sc pos) i it' acc env) R s') (notedBy (model C.prog C.w) A env fun x s'=>R (.error x) s') s):
  codeAny (model C.prog C.w) A (.compStart (K.expr gs sc pos) i it acc env) R s:=by
 refine codeAny_of_tree ?_
 rw [pX]
 rw [pE]
 refine wpAny_notedAt ?_
 rw [tA K gs sc pos i t src ifs h]
 refine wpAny_bind (wpAny_askSetting (wpAny_ite ?_))
 split
 ·first
   | exact wpAny_bind (wpAny_pure (wpAny_pure (And.intro (fD ..) h0)))
   | exact wpAny_pure (And.intro (fD ..) h0)
 ·exact wpAny_bind (wpAny_rule (wpAny_bind (wpAny_standAt (wpAny_bind (wpAny_mono h1 (fun it' s' h'=>wpAny_pure (And.intro (fD ..) h')) fun _ _ x=>x)))))
end
section
variable {C:Cfg} {cx cx' ci:Cx} {b:Bool} {X X' Y Pn:AP} {h h':Heap} {s s':Shared} {A:Around} {n:Nat} {ρ ρ':Fr} {p p':List V} {env:Env} {E:Value→Shared→Prop} {wr:List Addr} {D L:Addr} {call:Call}
def Off (A:Around) (D L:Addr):Prop:=∀ l,A.frames=some l→∀ e∈l,∀ F,e.frame=some F→F≠D∧F≠L
theorem Frames.ext2 (e:Ext C Y h h'):∀ {l:List Env},(∀ e∈l,∀ F,e.frame=some F→¬Y F)→Frames C h l→Frames C h' l
 | [],_,_=>trivial
 | env::r,hF,⟨hk,⟨L,o,es,ep,hf,hn,ho,hc,hd⟩,hr⟩=>by
  obtain ⟨o',ho',hc',hd'⟩:=e.data L o ho (hF env List.mem_cons_self L hf)
  have hd':o'.data=o.data:=hd'.elim (fun ⟨q,_⟩=>by rw [hc] at q;cases q) id
  exact ⟨hk,⟨L,o',es,ep,hf,hn,ho',hc'.trans hc,hd'.trans hd⟩,Frames.ext2 e (fun x hx=>hF x (List.mem_cons_of_mem _ hx)) hr⟩
theorem Frames.cls:∀ {l:List Env},Frames C h l→∀ e∈l,∀ F,e.frame=some F→∃ o,h.get? F=some o∧o.cls=aL
 | [],_,_,hx,_,_=>nomatch hx
 | env::r,⟨hk,⟨L,o,es,ep,hf,hn,ho,hc,hd⟩,hr⟩,e,hx,F,hF=>by
  rcases List.mem_cons.mp hx with rfl | hx
  ·rw [hf] at hF;cases hF;exact ⟨o,ho,hc⟩
  ·exact Frames.cls hr e hx F hF
theorem aN.ext2 (e:Ext C Y h h') (k:aN C A h) (hF:∀ F o,h.get? F=some o→o.cls=aL→Y F→(∃ l,A.frames=some l∧∃ e∈l,e.frame=some F)→False):aN C A h':=by
 obtain ⟨l,hl,fr⟩:=k
 refine ⟨l,hl,fr.ext2 e fun x hx F hf hy=>?_⟩
 obtain ⟨o,ho,hc⟩:=fr.cls x hx F hf
 exact hF F o ho hc hy ⟨l,hl,x,hx,hf⟩
theorem aN.y2 (e:Ext C (Y2 Pn D L) h h') (R:aY C X Pn h p) (off:Off A D L) (k:aN C A h):aN C A h':=
 k.ext2 e fun F o ho hc hy ⟨l,hl,x,hx,hf⟩=>by
  have:=off l hl x hx F hf
  rcases hy with q | q | q
  ·exact R.frame F o ho hc q
  ·exact this.1 q
  ·exact this.2 q
theorem aN.uZ (k:aN C A s.heap) (q:gx wr s s') (hb:Base C s'.heap) (hc:∀ b∈wr,∀ ob,s.heap.get? b=some ob→ob.cls≠aL) (hn:∀ c∈wr,NC s.heap c):aN C A s'.heap:=
 k.ext2 (Y:=fun b=>b∈wr) (q.nx hb (fun _ h=>h) hn).ext fun F o ho hcl hy _=>hc F hy o ho hcl
theorem bK.fW {I a:Addr} {o:Bool} {l:List V} (r:bK C X Pn h I wr a o l):∀ b∈wr,∀ ob,h.get? b=some ob→ob.cls≠aL:=fun b hb ob e=>by
 obtain ⟨ob',n,e',hc,_,hn⟩:=r.own.2 b hb
 rw [e] at e';cases e'
 exact (aW hc hn.1).1
theorem bK.nc {I a:Addr} {o:Bool} {l:List V} (r:bK C X Pn h I wr a o l):∀ b∈wr,NC h b:=fun b hb=>by
 obtain ⟨ob',n,e',hc,_,_,hn⟩:=r.own.2 b hb
 exact .gZ e' hc hn
theorem m9 {tg:d8} {cs:List aq} {g:G} {v:V} {l l':List V} (e:clause tg cs g call ρ (v::l) p=.ok l' p'):
  ∃ ρ' q p₁,cM tg v ρ=some ρ'∧tests cs call ρ' p=.ok (.bool q) p₁∧(q=true→∃ lg aO lr,g call ρ' p₁=.ok lg aO∧clause tg cs g call ρ l aO=.ok lr p'∧l'=lg++lr)∧(q=false→clause tg cs g call ρ l p₁=.ok l' p'):=by
 have e:(@Option.rec Fr (fun _=>aw) aw.stuck (fun ρ'=>(@Res.rec (fun _=>aw) aw.stuck (fun b p=>(@V.rec (fun _=>aw) (fun _=>Unit) (aw.stuck) (fun q=>(@Bool.rec (fun _=>aw) (clause tg cs g call ρ l p)
   (@aw.rec (fun _=>aw) aw.stuck (fun lg p=>(@aw.rec (fun _=>aw) aw.stuck (fun m p=>aw.ok (app lg m) p) aw.exc (clause tg cs g call ρ l p))) aw.exc (g call ρ' p)) q)) (fun _=>aw.stuck) (fun _=>aw.stuck) (fun _ _=>aw.stuck) (fun _ _=>aw.stuck) (fun _ _ _ _=>aw.stuck) (fun _ _ _=>aw.stuck) () (fun _ _ _ _=>()) b)) aw.exc (tests cs call ρ' p))) (cM tg v ρ))=.ok l' p':=e
 cases hb:cM tg v ρ with
 | none=>rw [hb] at e;cases e
 | some ρ'=>
  rw [hb] at e
  cases ht:tests cs call ρ' p with
  | stuck=>simp only [ht] at e;cases e
  | exc k q=>simp only [ht] at e;cases e
  | ok b p₁=>
   simp only [ht] at e
   cases b with
   | bool q=>
    refine ⟨ρ',q,p₁,rfl,ht,fun hq=>?_,fun hq=>?_⟩
    ·subst hq
     cases hg:g call ρ' p₁ with
     | stuck=>simp only [hg] at e;cases e
     | exc k q=>simp only [hg] at e;cases e
     | ok lg aO=>
      simp only [hg] at e
      cases hl:clause tg cs g call ρ l aO with
      | stuck=>simp only [hl] at e;cases e
      | exc k q=>simp only [hl] at e;cases e
      | ok lr fU=>
       simp only [hl] at e
       cases e
       exact ⟨lg,aO,lr,rfl,hl,eJ _ _⟩
    ·subst hq;exact e
   | _=>cases e
theorem bK.sD {β:Type} {I a:Addr} {o:Bool} {l L:List V} {v:V} {tg:Expr} {f:Option Value→Sem β} {g:Value→Sem β} {Q:β→Shared→Prop} (hlt:∀ b,X b→∃ o,s.heap.get? b=some o) (r:bK C X Pn s.heap I wr a o L) (e:L=v::l) (ht:tgtOk tg o=true)
  (hf:∀ val,f (some val)=(letOwnedTupleGo tg (.ref I) val >>= fun _=>g val))
  (hQ:∀ val s',gx wr s s'→RepV C X s'.heap v val→bK C X Pn s'.heap I wr a o l→wpAny (model C.prog C.w) A (g val) Q E s'):
  wpAny (model C.prog C.w) A (pyNext (.ref I)) (fun r s₁=>wpAny (model C.prog C.w) A (f r) Q E s₁) E s:=by
 refine wpAny_mono (r.next (Q:=fun val s'=>wpAny (model C.prog C.w) A (g val) Q E s') hlt e ht hQ) (fun r s₁ aG=>?_) fun _ _ x=>x
 obtain ⟨val,rfl,aG⟩:=aG
 rw [hf]
 exact wpAny_bind aG
def tq (C:Cfg) (K:Kd) (gs:List Comprehension) (sc:Scope) (pos:Pos) (i:Nat) (ci:Cx) (g:G):Prop:=
 ∀ (n:Nat) (call:Call),cL C n call→∀ (X Pn:AP) (env:Env) (ρ:Fr) (p p':List V) (s:Shared) (A:Around) (m l':List V) (D:Addr) (k:Sem Fin) (Q:Fin→Shared→Prop) (E:Value→Shared→Prop),
  Vw C ci X Pn env ρ p s.heap→Loc C X Pn env s.heap→gk ci ρ→bc ci→aN C A s.heap→cR A n→fs C K X s.heap m D→X D→¬Pn D→D≠env.locals→Off A D env.locals→g call ρ p=.ok l' p'→Fits K (m++l')→
  (∀ s',Nx C (Y2 Pn D env.locals) s s'→Vw C ci X Pn env ρ p' s'.heap→Loc C X Pn env s'.heap→fs C K X s'.heap (m++l') D→wpAny (model C.prog C.w) A k Q E s')→
  wpAny (model C.prog C.w) A (K.inner gs sc pos i (.ref D) env k) Q E s
theorem oU {K:Kd} {gs:List Comprehension} {sc:Scope} {pos:Pos} {i:Nat} {t src:Expr} {ifs:List Expr} {own:Bool} {tg:d8} {cs:List aq} {g:G} {I a:Addr} {o:Bool} {R:Result→Shared→Prop}
  (hgs:gs[i]?=some ⟨t,src,ifs,0⟩) (hb:bindC ci t=some cx') (ht:tgtOk t own=true) (htg:tgtOf cx'.vars t=some tg) (hT:gO C cx' ifs cs) (hI:tq C K gs sc pos (i + 1) cx' g) (hc:cL C n call)
  (O:bc ci) (hno:gk ci ρ) (hX:X D) (hDP:¬Pn D) (hDL:D≠env.locals) (off:Off A D env.locals) (hr:cR A n) (hwo:o=true→own=true) (hw:∀ c∈wr,¬X c) (hw0:∀ c∈wr,C.h₀.get? c=none) (ha:¬Y2 Pn D env.locals a):
  ∀ (l p m l':List V) (s:Shared),Vw C ci X Pn env ρ p s.heap→Loc C X Pn env s.heap→aN C A s.heap→fs C K X s.heap m D→bK C X Pn s.heap I wr a o l→clause tg cs g call ρ l p=.ok l' p'→Fits K (m++l')→
   (∀ s',Nx C (YW (Y2 Pn D env.locals) wr) s s'→Vw C ci X Pn env ρ p' s'.heap→Loc C X Pn env s'.heap→aN C A s'.heap→fs C K X s'.heap (m++l') D→R (.ok .next) s')→
   codeAny (model C.prog C.w) A (.compLoop (K.expr gs sc pos) i (.ref I) (.ref D) env) R s:=by
 have ht':tgtOk t o=true:=by
  cases o with
  | true=>have h:=hwo rfl;subst h;exact ht
  | false=>cases t <;> simp [tgtOk] at ht ⊢
 have hYX:∀ c,Pn c∨c=D∨c=env.locals→(∀ c,Pn c→X c)→X env.locals→X c:=fun c q hp hl=>by
  rcases q with q | rfl | rfl
  ·exact hp c q
  ·exact hX
  ·exact hl
 intro l
 induction l with
 | nil=>
  intro p m l' s hv lc hk hA it e hF hR
  have e:aw.ok [] p=.ok l' p':=e
  cases e
  refine codeAny_of_tree ?_
  rw [lS,kX]
  refine wpAny_noted ?_
  rw [turn_eq K gs sc pos i t src ifs hgs]
  refine wpAny_bind (wpAny_standAt (wpAny_bind (it.stop hr.handled rfl fun s' kw=>?_)))
  have kx:=kw.gp hw hw0 it.j4 hv.base it.nc
  rw [List.append_nil] at hR
  exact wpAny_pure (hR s' (kw.nx kx.base (fun c hc=>.inr hc) it.nc) (hv.gp lc.inX kx) (lc.gp kx) (hk.uZ kw kx.base it.fW it.nc) (hA.gp kx))
 | cons v l ih=>
  intro p m l' s hv lc hk hA it e hF hR
  obtain ⟨ρ',q,p₁,hbind,htest,hq1,hq0⟩:=m9 e
  obtain ⟨B,O',hno'⟩:=wZ hb htg O hbind
  refine codeAny_of_tree ?_
  rw [lS,kX]
  refine wpAny_noted ?_
  rw [turn_eq K gs sc pos i t src ifs hgs]
  refine wpAny_bind (wpAny_standAt (wpAny_bind (it.sD (tg:=t) hv.lt rfl ht' (fun _=>rfl) fun val s₁ kw hval it1=>?_)))
  have kx:=kw.gp hw hw0 it.j4 hv.base it.nc
  have v1:=hv.gp lc.inX kx
  have jj:=lc.gp kx
  have k₁:=hk.uZ kw kx.base it.fW it.nc
  have gA:=hA.gp kx
  have n₁:Nx C (YW (Y2 Pn D env.locals) wr) s s₁:=kw.nx kx.base (fun c hc=>.inr hc) it.nc
  refine wpAny_bind (uH hb htg O hr.handled v1 jj hbind hval fun s₂ kb v2 xV=>?_)
  have ncL:∀ c∈[env.locals],NC s₁.heap c:=fun c hc=>by simp at hc;subst hc;obtain ⟨_,q⟩:=jj.ns;exact .ij q
  have Bw:Nx C (YW (Y2 Pn D env.locals) wr) s₁ s₂:=kb.nx v2.base (fun c hc=>by simp at hc;exact .inl (.inr (.inr hc))) ncL
  have n2':Nx C (Y2 Pn D env.locals) s₁ s₂:=kb.nx v2.base (fun c hc=>by simp at hc;exact .inr (.inr hc)) ncL
  have k₂:=k₁.y2 n2'.ext v1.au off
  have keepD:∀ c o,c≠env.locals→s₁.heap.get? c=some o→s₂.heap.get? c=some o:=fun c o hne e=>kb.keep c o (by simpa using hne) e
  have trB:Tr X s₁.heap X s₂.heap:=fun c o e _ hx=>⟨keepD c o (fun q=>hx (q ▸ jj.inX)) e,hx⟩
  have BQ:fs C K X s₂.heap m D:=let ⟨w,ew,q⟩:=gA;⟨w,ew,q.tr trB fun o e _=>keepD D o hDL e⟩
  have wLoc:∀ c∈wr,¬Y2 Pn D env.locals c:=fun c hc q=>hw c hc (hYX c q hv.pnX lc.inX)
  have it2:bK C X Pn s₂.heap I wr a o l:=it1.tr (Y:=Y2 Pn D env.locals) (fun c ob e hc hy=>n2'.ext.keep c ob e hy hc) (fun c hc=>hYX c hc hv.pnX lc.inX) wLoc ha
  refine wpAny_bind (hT.run hc v2 k₂ hr (bh.of_ok (v:=V.bool q) (p':=p₁) (by rw [htest];rfl) fun aP hn hp=>⟨q,rfl,?_⟩))
  have v3:=v2.next hn.ext hp
  have l3:=xV.ext v2.au hn.ext
  have bk:=k₂.ext hn.ext v2.au
  have yz:=BQ.ext hn.ext v2.pnX hDP
  have n3':Nx C (Y2 Pn D env.locals) s₂ aP:=hn.grow fun _ q=>.inl q
  have it3:bK C X Pn aP.heap I wr a o l:=it2.tr (Y:=Y2 Pn D env.locals) (fun c ob e hc hy=>n3'.ext.keep c ob e hy hc) (fun c hc=>hYX c hc hv.pnX lc.inX) wLoc ha
  have n03:Nx C (YW (Y2 Pn D env.locals) wr) s aP:=n₁.trans (Bw.trans (n3'.grow fun _ q=>.inl q))
  cases q with
  | false=>
   show wpAny _ _ (again _) _ _ _
   refine wpAny_pure ⟨fD ..,ih p₁ m l' aP (v3.drop B) l3 bk yz it3 (hq0 rfl) hF fun s' hn'=>hR s' (n03.trans hn')⟩
  | true=>
   show wpAny _ _ (K.inner gs sc pos (i + 1) (.ref D) env _) _ _ _
   obtain ⟨lg,aO,lr,hg,hl,rfl⟩:=hq1 rfl
   rw [← List.append_assoc] at hF hR
   refine hI n call hc X Pn env ρ' p₁ aO aP A m lg D _ _ _ v3 l3 (hno' hno) O' bk hr yz hX hDP hDL off hg hF.left fun dG hn4 v4 l4 uK=>?_
   have k4:=bk.y2 hn4.ext v3.au off
   have it4:bK C X Pn dG.heap I wr a o l:=it3.tr (Y:=Y2 Pn D env.locals) (fun c ob e hc hy=>hn4.ext.keep c ob e hy hc) (fun c hc=>hYX c hc hv.pnX lc.inX) wLoc ha
   refine wpAny_pure ⟨fD ..,ih aO (m++lg) lr dG (v4.drop B) l4 k4 uK it4 hl hF fun s' hn'=>hR s' (n03.trans ((hn4.grow fun _ q=>.inl q).trans hn'))⟩
end
section
variable {C:Cfg} {cx cx' ci:Cx} {b:Bool} {X X' Y Pn:AP} {h h':Heap} {s s':Shared} {A:Around} {n:Nat} {ρ ρ':Fr} {p p':List V} {env:Env} {E:Value→Shared→Prop} {wr:List Addr} {D L:Addr} {call:Call}
theorem wO {d:aq} {l:List V} (e:bF d call ρ p=.ok l p'):∃ v,l=[v]∧d call ρ p=.ok v p':=by
 have e:(@Res.rec (fun _=>aw) aw.stuck (fun v p=>aw.ok [v] p) aw.exc (d call ρ p))=.ok l p':=e
 cases hd:d call ρ p with
 | stuck=>rw [hd] at e;cases e
 | exc k q=>rw [hd] at e;cases e
 | ok v q=>rw [hd] at e;cases e;exact ⟨v,rfl,rfl⟩
theorem qK {tg:d8} {sd:aq} {cs:List aq} {g:G} {l:List V} (e:bB tg sd cs g call ρ p=.ok l p'):∃ v m p₁,sd call ρ p=.ok v p₁∧itemsOf v=some m∧clause tg cs g call ρ m p₁=.ok l p':=by
 have e:(@Res.rec (fun _=>aw) aw.stuck (fun v p=>(@Option.rec (List V) (fun _=>aw) aw.stuck (fun l=>clause tg cs g call ρ l p) (itemsOf v))) aw.exc (sd call ρ p))=.ok l p':=e
 cases hd:sd call ρ p with
 | stuck=>simp only [hd] at e;cases e
 | exc k q=>simp only [hd] at e;cases e
 | ok v q=>
  simp only [hd] at e
  cases hi:itemsOf v with
  | none=>simp only [hi] at e;cases e
  | some m=>simp only [hi] at e;exact ⟨v,m,q,rfl,hi,e⟩
theorem bK.at_ {I a:Addr} {o:Bool} {l:List V} (r:bK C X Pn h I wr a o l):∃ ob,h.get? a=some ob:=by
 cases r with
 | list h1 h2=>let ⟨_,n,e⟩:=h2;exact ⟨_,e⟩
 | tup h1 h2=>let ⟨_,n,e⟩:=h2;exact ⟨_,e⟩
 | range h1=>exact ⟨_,h1⟩
 | rev h1 h2=>let ⟨_,n,e⟩:=h2;exact ⟨_,e⟩
 | enum h1 h2 h3=>let ⟨_,n,e⟩:=h3;exact ⟨_,e⟩
 | items h1 h2=>exact ⟨_,h2⟩
theorem bK.l9 {I a:Addr} {o:Bool} {l:List V} (r:bK C X Pn h I wr a o l) (hw:∀ c∈wr,¬Pn c):¬Pn a:=by
 cases r with
 | list _ _ h=>exact h
 | tup _ _ h=>exact h
 | range h1=>exact hw _ (by simp)
 | rev _ _ h=>exact h
 | enum _ _ _ h=>exact h
 | items _ _ h=>exact h
theorem pg {K:Kd} {gs:List Comprehension} {sc:Scope} {pos:Pos}:∀ (gs':List Comprehension) (i:Nat) (ci:Cx) (g:G),ia C false ci ci K.elt gs' g→gs.drop i=gs'→tq C K gs sc pos i ci g
 | [],i,ci,g,hG,hd=>by
  cases hG with
  | one hE=>
   intro n call hc X Pn env ρ p p' s A m l' D k Q E hv lc hno O hk hr hA hX hDP hDL off e hF hQ
   have hgs:gs[i]?=none:=by
    have:=congrArg List.length hd
    simp at this
    simp;omega
   obtain ⟨v,rfl,e'⟩:=wO e
   simp only [Kd.inner,hgs]
   exact wpAny_bind (uw hE hc hv lc hno hk hr hA hX hDP hDL e' hF fun s' a b c d=>hQ s' a b c d)
 | yb::gs',i,ci,g,hG,hd=>by
  cases hG with
  | clause hIt hfs hb ht htg hT hG=>
   rename_i cx' t src ifs sd tg cs g own
   have hgs:gs[i]?=some ⟨t,src,ifs,0⟩:=by
    have:=congrArg (fun l=>l[0]?) hd
    simpa using this
   have hd':gs.drop (i + 1)=gs':=by
    have:=congrArg (List.drop 1) hd
    simpa using this
   have hI:=pg (sc:=sc) (pos:=pos) gs' (i + 1) cx' g hG hd'
   intro n call hc X Pn env ρ p p' s A m l' D k Q E hv lc hno O hk hr hA hX hDP hDL off e hF hQ
   obtain ⟨v,l,p₁,hsd,hit,hcl⟩:=qK e
   simp only [Kd.inner,hgs]
   have hs:itO (sd call ρ p)=.ok l p₁:=by
    unfold itO
    rw [hsd]
    show (match itemsOf v with | some l=>Out.ok l p₁ | none=>.stuck)=_
    rw [hit]
   refine wpAny_bind (wpAny_mono (hIt n call hc X Pn env ρ p s A _ _ hv hk hr (bh.of_ok (Q:=fun l s'=>∀ I wr a o,(o=true→own=true)→bK C X Pn s'.heap I wr a o l→(∀ c∈wr,s.heap.get? c=none)→(false=false→X a→a∈wr)→
    wpAny (model C.prog C.w) A (runOwn (.compStart (K.expr gs sc pos) i (.ref I) (.ref D) env) env >>= fun _=>k) Q E s') hs fun s₁ hn hp I wr a o hwo it hfr hXa=>?_)) (fun x s₁ aG=>wpAny_bind (wpAny_standAt (wpAny_bind (wpAny_of_eq (hfs env x) (wpAny_bind (wpAny_holding (wpAny_mono aG (fun it s₂ bu=>bu) fun _ _ x=>x))))))) fun _ _ x=>x)
   have v1:=hv.next hn.ext hp
   have jj:=lc.ext hv.au hn.ext
   have k₁:=hk.ext hn.ext hv.au
   have gA:=hA.ext hn.ext hv.pnX hDP
   have hw:∀ c∈wr,¬X c:=fun c hc hx=>by obtain ⟨o,ho⟩:=hv.lt c hx;rw [hfr c hc] at ho;cases ho
   have hw0:∀ c∈wr,C.h₀.get? c=none:=fun c hc=>by
    cases e:C.h₀.get? c with
    | none=>rfl
    | some o=>have:=hv.base c o e;rw [hfr c hc] at this;cases this
   have ha:¬Y2 Pn D env.locals a:=fun q=>by
    have:X a:=by
     rcases q with q | rfl | rfl
     ·exact hv.pnX _ q
     ·exact hX
     ·exact lc.inX
    exact hw a (hXa rfl this) this
   have go:∀ s₂,s₂=s₁→codeAny (model C.prog C.w) A (.compLoop (K.expr gs sc pos) i (.ref I) (.ref D) env) (fun r s'=>match r with
     | .ok f=>wpAny (model C.prog C.w) A k Q E s'
     | .error e=>cameBackBy (model C.prog C.w) A env E e s') s₂:=fun s₂ fK=>by
    subst fK
    refine oU hgs hb ht htg hT hI hc O hno hX hDP hDL off hr hwo hw hw0 ha l p₁ m l' s₂ v1 jj k₁ gA it hcl hF fun s' hn' v' l' k' a'=>?_
    refine hQ s' ?_ v' l' a'
    exact ((hn.grow fun _ q=>.inl (.inl q)).trans hn').shrink fun c hc=>hc.elim .inl fun q=>.inr (hfr c q)
   refine wpAny_bind (wpAny_runOwn ?_)
   show codeAny _ A _ _ _
   refine codeAny_mono (nk hgs (go _ rfl) (it.self (go _ rfl))) fun r s' hrs=>?_
   cases r with
   | ok f=>exact hrs
   | error x=>exact hrs
end
section
variable {C:Cfg} {cx cx' ci:Cx} {b:Bool} {X X' Y Pn:AP} {h h':Heap} {s s':Shared} {A:Around} {n:Nat} {ρ ρ':Fr} {p p':List V} {env:Env} {E:Value→Shared→Prop} {wr:List Addr} {D L:Addr} {call:Call}
theorem cO {α:Type} {x y:Str} {j:α} {l:List (Str×α)}:List.lookup y ((x,j)::l)=if y=x then some j else l.lookup y:=by
 rw [List.lookup_cons]
 by_cases h:y=x
 ·simp [h]
 ·have:(y==x)=false:=by simpa using h
  simp [this,h]
theorem bY {α:Type} {f:Str→Bool}:∀ {l:List (Str×α)} {x:Str} {j:α},(l.filter fun y=>f y.1).lookup x=some j→f x=true∧l.lookup x=some j
 | [],_,_,h=>by simp at h
 | (y,k)::l,x,j,h=>by
  rw [List.filter_cons] at h
  split at h
  ·rename_i hf
   rw [cO] at h ⊢
   split at h
   ·rename_i e;subst e;exact ⟨hf,by rw [if_pos rfl];exact h⟩
   ·rename_i e;obtain ⟨q,r⟩:=bY h;exact ⟨q,by rw [if_neg e];exact r⟩
  ·rename_i hf
   obtain ⟨q,r⟩:=bY h
   have e:x≠y:=fun e=>hf (e ▸ q)
   exact ⟨q,by rw [cO,if_neg e];exact r⟩
theorem iH {α:Type}:∀ {l:List (Str×α)} {x:Str} {j:α},l.lookup x=some j→(x,j)∈l
 | [],_,_,h=>by simp at h
 | (y,k)::l,x,j,h=>by
  rw [cO] at h
  split at h
  ·rename_i e;subst e;cases h;exact List.mem_cons_self
  ·exact List.mem_cons_of_mem _ (iH h)
theorem iS {α β:Type} {f:Str→α→β}:∀ {l:List (Str×α)} {x:Str},(l.map fun y=>(y.1,f y.1 y.2)).lookup x=(l.lookup x).map (f x)
 | [],_=>rfl
 | (y,k)::l,x=>by
  rw [List.map_cons,cO,cO]
  split
  ·rename_i e;subst e;rfl
  ·exact iS
def lA (env:Env) (n:Str) (k:NameKind):NameKind:=if (k==.free&&env.scope.kind==.function&&env.kindOf n==some .cell) then .cell else k
theorem iI {sc:Scope} {cl:List (Str×Addr)} (x:Str):(compEnvC sc cl L env).kindOf x=(sc.names.lookup x).map (lA env x):=by
 show (relabel sc env).names.lookup x=_
 rw [← iS (f:=lA env)]
 unfold relabel lA
 congr 1
 apply List.map_congr_left
 rintro ⟨n,k⟩ _
 dsimp only
 split <;> rfl
theorem qf {names:List (Str×NameKind)} (hcap:∀ x∈names,x.2=.free→∃ c,env.cells.lookup x.1=some c):∀ (acc:List (Str×Addr)),(∀ x c,acc.lookup x=some c→env.cells.lookup x=some c)→
  ∃ cl,forIn names acc (fun (x:Str×NameKind) (cs:List (Str×Addr))=>if (x.2==NameKind.free)=true then (do let c ← cellOf env x.1;pure (ForInStep.yield ((x.1,c)::cs)):Sem (ForInStep (List (Str×Addr)))) else pure (ForInStep.yield cs))=(pure cl:Sem (List (Str×Addr)))∧
   (∀ x c,cl.lookup x=some c→env.cells.lookup x=some c)∧(∀ x,(acc.lookup x).isSome→(cl.lookup x).isSome)∧(∀ x∈names,x.2=.free→(cl.lookup x.1).isSome):=by
 induction names with
 | nil=>exact fun acc h=>⟨acc,rfl,h,fun _ h=>h,fun _ h=>nomatch h⟩
 | cons x names ih=>
  intro acc h
  rw [List.forIn_cons]
  by_cases hx:x.2=.free
  ·obtain ⟨c,hc⟩:=hcap x List.mem_cons_self hx
   have e:cellOf env x.1=pure c:=by unfold cellOf;rw [hc]
   obtain ⟨cl,q1,q2,q3,q4⟩:=ih (fun y hy=>hcap y (List.mem_cons_of_mem _ hy)) ((x.1,c)::acc) (fun y c' hy=>by
    rw [cO] at hy
    split at hy
    ·rename_i ey;subst ey;cases hy;exact hc
    ·exact h y c' hy)
   refine ⟨cl,?_,q2,fun y hy=>q3 y ?_,fun y hy hk=>?_⟩
   ·rw [if_pos (by rw [hx];rfl),e]
    exact q1
   ·rw [cO];split
    ·rfl
    ·exact hy
   ·rcases List.mem_cons.mp hy with rfl | hy
    ·refine q3 _ ?_;rw [cO,if_pos rfl];rfl
    ·exact q4 y hy hk
  ·obtain ⟨cl,q1,q2,q3,q4⟩:=ih (fun y hy=>hcap y (List.mem_cons_of_mem _ hy)) acc h
   refine ⟨cl,?_,q2,q3,fun y hy hk=>?_⟩
   ·rw [if_neg (by simpa using hx)]
    exact q1
   ·rcases List.mem_cons.mp hy with rfl | hy
    ·exact absurd hk hx
    ·exact q4 y hy hk
theorem nZ {sc:Scope} (hcap:∀ x∈sc.names,x.2=.free→∃ c,env.cells.lookup x.1=some c):
  ∃ cl,closureFor sc env=pure cl∧(∀ x c,cl.lookup x=some c→env.cells.lookup x=some c)∧(∀ x∈sc.names,x.2=.free→(cl.lookup x.1).isSome):=by
 obtain ⟨cl,q1,q2,_,q4⟩:=qf hcap [] (fun _ _ h=>by simp at h)
 refine ⟨cl,?_,q2,q4⟩
 have e:closureFor sc env=(forIn sc.names [] (fun (x:Str×NameKind) (cs:List (Str×Addr))=>if (x.2==NameKind.free)=true then (do let c ← cellOf env x.1;pure (ForInStep.yield ((x.1,c)::cs)):Sem (ForInStep (List (Str×Addr)))) else pure (ForInStep.yield cs)) >>= fun cs=>pure cs):=rfl
 rw [e,q1]
 rfl
theorem gX {sc:Scope} (h:dP cx sc=true):sc.kind=.function∧(∀ x∈sc.names,x.2≠.cell)∧(∀ x∈sc.names,x.2=.local→sc.names.lookup x.1=some .local)∧(∀ x∈sc.names,x.2=.free→ml cx x.1=true):=by
 simp only [dP,Bool.and_eq_true,List.all_eq_true] at h
 obtain ⟨h1,h2⟩:=h
 refine ⟨by simpa using h1,fun x hx=>?_,fun x hx hl=>?_,fun x hx hl=>?_⟩
 ·have:=(h2 x hx).1.1;simpa using this
 ·have:=(h2 x hx).1.2;rw [hl] at this;simpa using this
 ·have:=(h2 x hx).2;rw [hl] at this;simpa using this
theorem Vw.yp {x:Str} (v:Vw C cx X Pn env ρ p h) (hx:ml cx x=true):env.kindOf x=some .cell∨env.kindOf x=some .free:=by
 simp only [ml,Bool.or_eq_true,beq_iff_eq] at hx
 rcases hx with hx | hx
 ·exact .inl ((v.kinds x _ hx).1 (by simp))
 ·rcases (v.kinds x _ hx).2 rfl with q | q
  ·exact .inr q
  ·exact .inl q
theorem Vw.closure {sc:Scope} (v:Vw C cx X Pn env ρ p h) (hok:dP cx sc=true):∃ cl,closureFor sc env=pure cl∧(∀ x c,cl.lookup x=some c→env.cells.lookup x=some c)∧(∀ x∈sc.names,x.2=.free→(cl.lookup x.1).isSome):=
 nZ fun x hx hf=>v.cells x.1 (v.yp ((gX hok).2.2.2 x hx hf))
theorem nE {sc:Scope} (O:bc cx):bc (dC cx sc) where
 inj x y j hx hy:=O.inj x y j (bY (f:=fun y=>sc.names.lookup y==some .free) hx).2 (bY (f:=fun y=>sc.names.lookup y==some .free) hy).2
 lt x j hx:=O.lt x j (bY (f:=fun y=>sc.names.lookup y==some .free) hx).2
theorem Vw.inner {sc:Scope} {cl:List (Str×Addr)} (v:Vw C cx X Pn env ρ p s.heap) (k:Kp s s') (hD:s.heap.get? D=none) (hL:s.heap.get? L=none) (oD:∃ o,s'.heap.get? D=some o) (oL:∃ o,s'.heap.get? L=some o) (hok:dP cx sc=true)
  (c1:∀ x c,cl.lookup x=some c→env.cells.lookup x=some c) (c2:∀ x∈sc.names,x.2=.free→(cl.lookup x.1).isSome):Vw C (dC cx sc) (X2 X D L) Pn (compEnvC sc cl L env) ρ p s'.heap:=by
 obtain ⟨o1,o2,o3,o4⟩:=gX hok
 have ne:∀ {b:Addr} {o:Obj},s.heap.get? b=some o→b≠D∧b≠L:=fun {b o} e=>⟨(fun q=>by subst q;rw [hD] at e;cases e),(fun q=>by subst q;rw [hL] at e;cases e)⟩
 have T:Tr X s.heap (X2 X D L) s'.heap:=fun a o e _ hx=>⟨k.keep a o e,fun q=>by
  rcases q with q | q | q
  ·exact hx q
  ·exact (ne e).1 q
  ·exact (ne e).2 q⟩
 have fresh0:∀ c,s.heap.get? c=none→C.h₀.get? c=none:=fun c hc=>by
  cases e:C.h₀.get? c with
  | none=>rfl
  | some o=>have:=v.base c o e;rw [hc] at this;cases this
 refine { kind:=o1,code:=.inl rfl,globals:=v.globals,builtins:=v.builtins,kinds:=fun x q hx=>?_,cells:=fun x hx=>?_,vars:=fun x j hx hu=>?_,own:=fun x j w hx hg=>?_,caps:=fun x c hx=>(by simp [dC] at hx),tab:=v.tab.keeps k.keep fun b q=>q.imp id fun q=>.none (q.elim (fun e=>e ▸ hD) fun e=>e ▸ hL),au:=v.au.tr T fun b o _ e _=>k.keep b o e,pnX:=fun b hb=>.inl (v.pnX b hb),base:=fun b o e=>k.keep b o (v.base b o e),lt:=fun b hb=>?_,fresh:=fun b hb=>?_ }
 ·have hx':sc.names.lookup x=some q:=hx
  rw [iI,hx']
  refine ⟨fun hq=>?_,fun hq=>?_⟩
  ·have:(q==NameKind.free)=false:=by simpa using hq
   simp [lA,this]
  ·subst hq
   simp only [Option.map_some,lA]
   split <;> simp
 ·rw [iI] at hx
  cases hn:sc.names.lookup x with
  | none=>rw [hn] at hx;simp at hx
  | some q=>
   have hm:=iH hn
   have hq:q=.free:=by
    rw [hn] at hx
    simp only [Option.map_some,lA] at hx
    by_cases hf:q=.free
    ·exact hf
    ·have:(q==NameKind.free)=false:=by simpa using hf
     simp only [this,Bool.false_and,Bool.false_eq_true,if_false,Option.some.injEq] at hx
     rcases hx with hx | hx
     ·exact absurd hx (o2 _ hm)
     ·exact hx
   subst hq
   exact Option.isSome_iff_exists.mp (c2 _ hm rfl)
 ·obtain ⟨hf,hx'⟩:=bY (f:=fun y=>sc.names.lookup y==some .free) hx
  have hn:sc.names.lookup x=some .free:=by simpa using hf
  have hm:=iH hn
  obtain ⟨val,hr,hs,hne⟩:=v.vars x j hx' hu
  obtain ⟨c,hc⟩:=Option.isSome_iff_exists.mp (c2 _ hm rfl)
  have hcell:cA s.heap c val:=by
   have hc':=c1 x c hc
   have hk:=v.yp (o4 _ hm rfl)
   unfold Reads at hr
   rcases hk with hk | hk <;> (rw [hk] at hr;obtain ⟨c',q,r⟩:=hr;rw [hc'] at q;cases q;exact r)
  have hcell':cA s'.heap c val:=by obtain ⟨o,ho,r⟩:=hcell;exact ⟨o,k.keep c o ho,r⟩
  refine ⟨val,?_,hs.tr (fun b hb=>.inl hb) T fun b o _ e _=>k.keep b o e,fun e=>?_⟩
  ·unfold Reads
   rw [iI,hn]
   simp only [Option.map_some,lA]
   cases hcnd:(NameKind.free==NameKind.free&&env.scope.kind==ScopeKind.function&&env.kindOf x==some NameKind.cell) with
   | true=>simp only [if_true];exact ⟨c,hc,hcell'⟩
   | false=>simp only [Bool.false_eq_true,if_false];exact ⟨c,hc,hcell'⟩
  ·have e:val=.ref L:=e
   subst e
   obtain ⟨o,ho⟩:=cE.obj v.au hs hu
   rw [hL] at ho;cases ho
 ·obtain ⟨_,hx'⟩:=bY (f:=fun y=>sc.names.lookup y==some .free) hx
  exact v.own x j w hx' hg
 ·rcases hb with hb | rfl | rfl
  ·obtain ⟨o,ho⟩:=v.lt b hb;exact ⟨o,k.keep b o ho⟩
  ·exact oD
  ·exact oL
 ·rcases hb with hb | rfl | rfl
  ·exact v.fresh b hb
  ·exact fresh0 _ hD
  ·exact fresh0 _ hL
end
noncomputable def Kd.new:Kd→Sem Value
 | .l _=>newList []
 | .d _ _ _ _=>newDict
section
variable {C:Cfg} {cx cx' ci:Cx} {b:Bool} {X X' Y Pn:AP} {h h':Heap} {s s':Shared} {A:Around} {n:Nat} {ρ ρ':Fr} {p p':List V} {env:Env} {E:Value→Shared→Prop} {wr:List Addr} {D L:Addr} {call:Call}
theorem wz {K:Kd} {Q:Value→Shared→Prop} (hsys:s.heap.objs.size≠sysModules)
  (hQ:∀ o:Obj,(∀ X' h',h'.get? s.heap.objs.size=some o→fs C K X' h' [] s.heap.objs.size)→o.isFreed=false→Q (.ref s.heap.objs.size) { s with heap:=s.heap.push o }):wpAny (model C.prog C.w) A K.new Q E s:=by
 cases K with
 | l e=>
  show wpAny _ A (newObj (.type "list") (.seq ([]:List Value).toArray)) _ _ _
  refine wpAny_newObj_type (hQ _ (fun X' h' ho=>⟨.lst [],rfl,?_⟩) rfl)
  simp only [OwnR]
  exact ⟨[],⟨by simp [most],0,ho⟩,.nil⟩
 | d k u ck cp=>
  show wpAny _ A (newObj (.type "dict") (.dict #[])) _ _ _
  refine wpAny_newObj_type (hQ _ (fun X' h' ho=>⟨.aQ [] [],rfl,?_⟩) rfl)
  simp only [OwnR]
  exact ⟨[],⟨⟨by simpa using hsys,by simp [most]⟩,0,ho⟩,.nil,.nil,rfl,fun _ hk=>nomatch hk⟩
theorem pJ {K:Kd} {t src:Expr} {ifs:List Expr} {gs:List Comprehension} {sc:Scope} {pos pp:Pos} {g:G} {l:List V} {use:Option (Value→Sem Unit)} {Q:Value→Shared→Prop} (hG:ia C true cx (dC cx sc) K.elt (⟨t,src,ifs,0⟩::gs) g)
  (hok:dP cx sc=true) (O:bc cx) (hno:gk (dC cx sc) ρ) (hc:cL C n call) (hv:Vw C cx X Pn env ρ p s.heap) (hk:aN C A s.heap) (hr:cR A n) (hsys:∃ o,C.h₀.get? sysModules=some o) (e:g call ρ p=.ok l p') (hF:Fits K l)
  (hU:∀ D L s' w,s.heap.get? D=none→s.heap.get? L=none→D≠L→(∃ m,s'.heap.Ns L m)→Nx C Pn s s'→aY C (X2 X D L) Pn s'.heap p'→accV K l=some w→OwnR C (X2 X D L) s'.heap w D→
   compPost (model C.prog C.w) A E use Q (.ref D) L (.ok .next) s'):
  wpAny (model C.prog C.w) A (comprehension (K.expr (⟨t,src,ifs,0⟩::gs) sc pos) sc env pp K.new false (eval src env) use) Q E s:=by
 obtain ⟨o1,o2,o3,o4⟩:=gX hok
 cases hG with
 | clause hIt hfs hb ht htg hT hG=>
  rename_i cx' sd tg cs g own
  obtain ⟨cl,hcl,c1,c2⟩:=hv.closure hok
  obtain ⟨v,rC,p₁,hsd,hit,hclause⟩:=qK e
  have hs:itO (sd call ρ p)=.ok rC p₁:=by
   unfold itO
   rw [hsd]
   show (match itemsOf v with | some l=>Out.ok l p₁ | none=>.stuck)=_
   rw [hit]
  refine wpAny_comprehension_free (g:=⟨t,src,ifs,0⟩) (gs:=gs) (by cases K <;> rfl) (hfs env) hcl o1 o3 ?_
  refine hIt n call hc X Pn env ρ p s A _ E hv hk hr (bh.of_ok (Q:=fun l s'=>∀ I wr a o,(o=true→own=true)→bK C X Pn s'.heap I wr a o l→(∀ c∈wr,s.heap.get? c=none)→(true=false→X a→a∈wr)→_) hs fun s₂ hn hp I wr a o hwo it hfr _=>?_)
  have v2:=hv.next hn.ext hp
  have k₂:=hk.ext hn.ext hv.au
  have hsz:s₂.heap.objs.size≠sysModules:=fun q=>by
   obtain ⟨o,ho⟩:=hsys
   have:=Heap.lt_size (v2.base _ o ho)
   rw [← q] at this;exact Nat.lt_irrefl _ this
  refine wz hsz fun oD hD hfree=>?_
  refine wpAny_newFunctionEnv o2 (by intro y hy;simp at hy) (fun aG hns hsb=>?_) o1
  dsimp only at hns hsb ⊢
  generalize hDe:s₂.heap.objs.size=D at *
  generalize hH2:s₂.heap.push oD=H2 at *
  have hHz:H2.objs.size=D + 1:=by rw [← hH2,Heap.size_push,hDe]
  generalize hLe:H2.objs.size=L at *
  subst hHz
  have hDn:s₂.heap.get? D=none:=fi (Nat.le_of_eq hDe)
  have hLn:s₂.heap.get? (D + 1)=none:=fi (by rw [hDe];exact Nat.le_succ _)
  have hne:∀ b o,s₂.heap.get? b=some o→b≠D∧b≠D + 1:=fun b o e=>⟨(fun q=>by rw [q,hDn] at e;cases e),(fun q=>by rw [q,hLn] at e;cases e)⟩
  have hkeep:∀ b o,s₂.heap.get? b=some o→aG.get? b=some o:=fun b o e=>hsb.extBut b o (hne b o e).2 (Heap.get?_push_of_some _ (hH2 ▸ Heap.get?_push_of_some _ e))
  have hDo:aG.get? D=some oD:=hsb.extBut D oD (Nat.ne_of_lt (Nat.lt_succ_self _)) (Heap.get?_push_of_some _ (by rw [← hH2,← hDe];exact Heap.get?_push_size _ hfree))
  have hLo:∃ o,aG.get? (D + 1)=some o:=let ⟨o,es,ep,ho,_⟩:=hns;⟨o,ho⟩
  generalize hs4:({ s₂ with heap:=aG,toks:=s₂.toks + ([]:List (Str×Value)).length }:Shared)=dG
  have hh4:dG.heap=aG:=by rw [← hs4]
  have k24:Kp s₂ dG:=by subst hs4;exact ⟨hkeep,rfl,rfl⟩
  have v4:Vw C (dC cx sc) (X2 X D (D + 1)) Pn (compEnvC sc cl (D + 1) env) ρ p₁ dG.heap:=v2.inner k24 hDn hLn ⟨_,by rw [hh4];exact hDo⟩ (by rw [hh4];exact hLo) hok c1 c2
  have lc4:Loc C (X2 X D (D + 1)) Pn (compEnvC sc cl (D + 1) env) dG.heap:=⟨⟨_,by rw [hh4];exact hns⟩,.inr (.inr rfl),v4.fresh _ (.inr (.inr rfl))⟩
  have off:Off A D (D + 1):=fun l hl x hx F hf=>by
   obtain ⟨l',hl',fr⟩:=k₂
   rw [hl] at hl';cases hl'
   obtain ⟨o,ho,_⟩:=fr.cls x hx F hf
   exact hne F o ho
  have k4:aN C A dG.heap:=k₂.ext' (k24.nx (Pn:=Pn) v2.base).ext v2.au.frame
  have hDP:¬Pn D:=fun q=>by obtain ⟨o,ho⟩:=v2.lt D (v2.pnX D q);rw [hDn] at ho;cases ho
  have hw:∀ c∈wr,¬X2 X D (D + 1) c:=fun c hc q=>by
   obtain ⟨o,_,ho,_⟩:=it.own.2 c hc
   rcases q with q | q | q
   ·obtain ⟨o',ho'⟩:=hv.lt c q;rw [hfr c hc] at ho';cases ho'
   ·exact (hne c o ho).1 q
   ·exact (hne c o ho).2 q
  have hw0:∀ c∈wr,C.h₀.get? c=none:=fun c hc=>by
   cases e:C.h₀.get? c with
   | none=>rfl
   | some o=>have:=hv.base c o e;rw [hfr c hc] at this;cases this
  have ha:¬Y2 Pn D (D + 1) a:=fun q=>by
   obtain ⟨o,ho⟩:=it.at_
   rcases q with q | q | q
   ·exact it.l9 (fun c hc q=>hw c hc (.inl (v2.pnX c q))) q
   ·exact (hne a o ho).1 q
   ·exact (hne a o ho).2 q
  have it2:bK C (X2 X D (D + 1)) Pn s₂.heap I wr a o rC:=it.mono fun b o e _ hx=>⟨e,fun q=>by
   rcases q with q | q | q
   ·exact hx q
   ·exact (hne b o e).1 q
   ·exact (hne b o e).2 q⟩
  have it4:bK C (X2 X D (D + 1)) Pn dG.heap I wr a o rC:=it2.tr (Y:=fun _=>False) (fun b o e _ _=>k24.keep b o e) (fun _ q=>q.elim) (fun _ _ q=>q) (fun q=>q)
  have uK:fs C K (X2 X D (D + 1)) dG.heap [] D:=by rw [hh4];exact hD _ _ hDo
  have hsD:s.heap.get? D=none:=dX hn hp hDn
  have hsL:s.heap.get? (D + 1)=none:=dX hn hp hLn
  have go:∀ bE,bE=dG→codeAny (model C.prog C.w) A (.compLoop (K.expr (⟨t,src,ifs,0⟩::gs) sc pos) 0 (.ref I) (.ref D) (compEnvC sc cl (D + 1) env)) (compPost (model C.prog C.w) A E use Q (.ref D) (D + 1)) bE:=fun bE BP=>by
   subst BP
   refine oU (K:=K) (gs:=⟨t,src,ifs,0⟩::gs) (sc:=sc) (pos:=pos) (i:=0) rfl hb ht htg hT (pg gs 1 cx' g hG rfl) hc (nE O) hno (.inr (.inl rfl)) hDP (Nat.ne_of_lt (Nat.lt_succ_self _)) off hr hwo hw hw0 ha rC p₁ [] l bE v4 lc4 k4 uK it4 hclause (by simpa using hF) fun s' hn' v' l' k' a'=>?_
   obtain ⟨w,hw',ho'⟩:=a'
   rw [List.nil_append] at hw'
   have hnx:Nx C Pn s s':=(((hn.grow fun _ q=>.inl (.inl q)).trans (k24.nx v2.base)).trans hn').shrink fun c hc=>by
    rcases hc with (hc | rfl | rfl) | hc
    ·exact .inl hc
    ·exact .inr hsD
    ·exact .inr hsL
    ·exact .inr (hfr c hc)
   exact hU D (D + 1) s' w hsD hsL (Nat.ne_of_lt (Nat.lt_succ_self _)) l'.ns hnx v'.au hw' ho'
  show codeAny _ A (.compStart _ 0 (.ref I) (.ref D) (compEnvC sc cl (D + 1) env)) (compPost _ A E use Q (.ref D) (D + 1)) _
  exact nk (K:=K) (gs:=⟨t,src,ifs,0⟩::gs) rfl (go _ rfl) (it4.self (go _ rfl))
end
noncomputable def Kd.comb:Kd→G→aq
 | .l _,g=>bt g
 | .d _ u _ _,g=>pO g (.bool u)
section
variable {C:Cfg} {cx cx' ci:Cx} {b:Bool} {X X' Y Pn:AP} {h h':Heap} {s s':Shared} {A:Around} {n:Nat} {ρ ρ':Fr} {p p':List V} {env:Env} {E:Value→Shared→Prop} {wr:List Addr} {D L:Addr} {call:Call}
theorem qS {K:Kd} {g:G} (e:K.comb g call ρ p≠.stuck):∃ l p' w,g call ρ p=.ok l p'∧Fits K l∧accV K l=some w∧K.comb g call ρ p=.ok w p':=by
 cases K with
 | l elt=>
  have d:Kd.comb (.l elt) g call ρ p=(@aw.rec (fun _=>Res) Res.stuck (fun l p=>(@Bool.rec (fun _=>Res) Res.stuck (Res.ok (V.lst l) p) (short lid l))) (fun _ _=>Res.stuck) (g call ρ p)):=rfl
  rw [d] at e ⊢
  cases hg:g call ρ p with
  | stuck=>simp only [hg] at e;exact absurd rfl e
  | exc k q=>simp only [hg] at e;exact absurd rfl e
  | ok l q=>
   simp only [hg] at e
   cases hs:short lid l with
   | false=>simp only [hs] at e;exact absurd rfl e
   | true=>exact ⟨l,q,.lst l,rfl,⟨hs,_,rfl⟩,rfl,by simp only [hs]⟩
 | d k u ck cp=>
  have d:Kd.comb (.d k u ck cp) g call ρ p=(@aw.rec (fun _=>Res) Res.stuck (fun l p=>(@Bool.rec (fun _=>Res) Res.stuck (@Option.rec V (fun _=>Res) Res.stuck (fun v=>Res.ok v p) (keysD l (.bool u) [] [])) (short lid l))) (fun _ _=>Res.stuck) (g call ρ p)):=rfl
  rw [d] at e ⊢
  cases hg:g call ρ p with
  | stuck=>simp only [hg] at e;exact absurd rfl e
  | exc k q=>simp only [hg] at e;exact absurd rfl e
  | ok l q=>
   simp only [hg] at e
   cases hs:short lid l with
   | false=>simp only [hs] at e;exact absurd rfl e
   | true=>
    simp only [hs] at e
    cases hd:keysD l (.bool u) [] [] with
    | none=>simp only [hd] at e;exact absurd rfl e
    | some w=>exact ⟨l,q,w,rfl,⟨hs,_,hd⟩,hd,by simp only [hs,hd]⟩
theorem pn {d:aq}:∀ {gs:List cZ},eH gs d call ρ p≠.stuck→(∀ g∈gs,∀ v,g ρ≠.own v)∧eH gs d call ρ p=d call ρ p
 | [],_=>⟨fun _ h=>(nomatch h),rfl⟩
 | g::gs,e=>by
  have d':eH (g::gs) d call ρ p=(@Slot.rec (fun _=>Res) (eH gs d call ρ p) (fun _=>eH gs d call ρ p) (fun _=>Res.stuck) (eH gs d call ρ p) (g ρ)):=rfl
  rw [d'] at e ⊢
  have go:eH gs d call ρ p≠.stuck→(∀ v,g ρ≠.own v)→(∀ g'∈g::gs,∀ v,g' ρ≠.own v)∧eH gs d call ρ p=d call ρ p:=fun q r=>by
   obtain ⟨x,y⟩:=pn q
   refine ⟨fun g' hg v=>?_,y⟩
   rcases List.mem_cons.mp hg with rfl | hg
   ·exact r v
   ·exact x g' hg v
  cases hg:g ρ with
  | undef=>simp only [hg] at e ⊢;exact go e (by rw [hg];simp)
  | val v=>simp only [hg] at e ⊢;exact go e (by rw [hg];simp)
  | own v=>simp only [hg] at e;exact absurd rfl e
  | au=>simp only [hg] at e ⊢;exact go e (by rw [hg];simp)
theorem nG {d:aq} {js:List Nat} (e:fh js d call ρ p≠.stuck):(∀ j∈js,∀ v,ay j ρ≠.own v)∧fh js d call ρ p=d call ρ p:=by
 cases js with
 | nil=>exact ⟨fun _ h=>(nomatch h),rfl⟩
 | cons j js=>
  obtain ⟨x,y⟩:=pn (gs:=(j::js).map ay) e
  exact ⟨fun i hi v=>x (ay i) (List.mem_map.mpr ⟨i,hi,rfl⟩) v,y⟩
theorem mz {sc:Scope} (v:Vw C cx X Pn env ρ p h) (hg:∀ j∈fl cx sc,∀ v,ay j ρ≠.own v):gk (dC cx sc) ρ:=by
 intro x j w hx e
 obtain ⟨q,r⟩:=bY (f:=fun y=>sc.names.lookup y==some .free) hx
 have hm:=v.own x j w r e
 refine hg j ?_ w e
 unfold fl
 exact List.mem_filterMap.mpr ⟨x,List.mem_filter.mpr ⟨by simpa using hm,q⟩,r⟩
theorem OwnR.rep {v:V} {a:Addr} (r:OwnR C X h v a) (hx:¬X a):RepV C X h v (.ref a):=by
 cases v <;> simp only [OwnR] at r
 case lst l=>obtain ⟨vs,x,y⟩:=r;simp only [RepV];exact ⟨a,vs,rfl,hx,x,y⟩
 case aQ ks xs=>obtain ⟨es,x,y,z,q⟩:=r;simp only [RepV];exact ⟨a,es,rfl,hx,x,y,z,q⟩
theorem uB {w:V} (hv:Vw C cx X Pn env ρ p s.heap) (hD:s.heap.get? D=none) (hL:s.heap.get? L=none) (hDL:D≠L) (hn:Nx C Pn s s') (hp:aY C (X2 X D L) Pn s'.heap p') (hw:OwnR C (X2 X D L) s'.heap w D) (hnL:NC s'.heap L) (hs:Heap.SameBut L s'.heap h'):
  Nx C Pn s { s' with heap:=h' }∧aY C X Pn h' p'∧RepV C X h' w (.ref D):=by
 have hXD:¬X D:=fun q=>by obtain ⟨o,ho⟩:=hv.lt D q;rw [hD] at ho;cases ho
 have hXL:¬X L:=fun q=>by obtain ⟨o,ho⟩:=hv.lt L q;rw [hL] at ho;cases ho
 have h0:C.h₀.get? L=none:=by
  cases e:C.h₀.get? L with
  | none=>rfl
  | some o=>have:=hv.base L o e;rw [hL] at this;cases this
 have T:Tr (X2 X D L) s'.heap X h':=fun a o e _ hx=>⟨hs.extBut a o (fun q=>hx (.inr (.inr q))) e,fun q=>hx (.inl q)⟩
 refine ⟨?_,hp.tr T fun b o hb e _=>hs.extBut b o (fun q=>hXL (q ▸ hv.pnX b hb)) e,?_⟩
 ·exact ((hn.grow (Y:=fun c=>Pn c∨c=L) fun _ q=>.inl q).trans (fC (o:=default) hn.ext.base hs h0 (.inr rfl) hnL _)).shrink fun c hc=>hc.elim .inl fun q=>.inr (q ▸ hL)
 ·exact OwnR.rep (hw.tr T fun o e _=>hs.extBut D o hDL e) hXD
theorem az.comp {K:Kd} {t src:Expr} {ifs:List Expr} {gs:List Comprehension} {sc:Scope} {pos:Pos} {g:G} (hG:ia C true cx (dC cx sc) K.elt (⟨t,src,ifs,0⟩::gs) g) (hok:dP cx sc=true) (O:bc cx) (hsys:∃ o,C.h₀.get? sysModules=some o):
  az C cx b (K.expr (⟨t,src,ifs,0⟩::gs) sc pos) (fh (fl cx sc) (K.comb g)):=by
 intro n call hc X Pn env ρ p s A Q E hv hk hr N
 obtain ⟨hg,e⟩:=nG N.1
 rw [e] at N
 obtain ⟨l,p',w,e,hF,hw,e'⟩:=qS N.1
 have key:∀ pp,wpAny (model C.prog C.w) A (comprehension (K.expr (⟨t,src,ifs,0⟩::gs) sc pos) sc env pp K.new false (eval src env) none) Q E s:=fun pp=>
  pJ hG hok O (mz hv hg) hc hv hk hr hsys e hF fun D L s' w' hD hL hDL hns hn hp ha ho=>by
   rw [hw] at ha;cases ha
   obtain ⟨m,hns⟩:=hns
   refine ⟨m,hns,fun h' hs=>?_⟩
   obtain ⟨q1,q2,q3⟩:=uB hv hD hL hDL hn hp ho (.ij hns) hs
   exact N.ok e' q1 q2 q3
 cases K with
 | l elt=>exact key _
 | d k u ck cp=>exact key _
end
section
variable {prog:Program} {w:World} {A:Around} {E:Value→Shared→Prop} {s:Shared}
theorem wy:typeLookup (.type "list") "keys" = pure none:=by rw [typeLookup_type,builtinLookup_eq_fast];kernel_rfl
theorem xR {a:Addr} {vs:List Value} {Q:Option Value→Shared→Prop} (hA:A.handled=none) (hl:LstAt s.heap a vs)
  (h:∀ h' tk,(∀ b o,s.heap.get? b=some o→h'.get? b=some o)→Q none { s with heap:=h',toks:=tk }):
  wpAny (model prog w) A (getAttr? (.ref a) "keys") Q E s:=by
 obtain ⟨hz,k,hx⟩:=hl
 obtain ⟨hp,g,d,tk,os⟩:=s
 change hp.get? a=some { cls:=.type "list",dict:=none,data:=.seq vs.toArray k,slots:=#[] } at hx
 have hT:∀ tk',(⟨hp,g,d,tk',os⟩:Shared).TypeIs (.ref a) "list" := fun _=>⟨_,hx,rfl⟩
 have f1:=sub_AttributeError
 have f3:=F.slot_list_getattribute.lookup
 have f4:=F.slot_list_getattribute.bind (.ref a)
 have f5:=am_list_getattr_none
 unfold getAttr? getAttrBy? getAttrBy
 repeat (any_goals (first | assumption | exact hT _ | ((with_reducible show wpAny _ _ (call (Value.builtin "list.__getattribute__") _ _) _ _ _);refine call_meets F.slot_list_getattribute (hT _) am_entry_list_getattribute (F.args_list_getattribute_2 _ _) (meets_getattribute_miss_list a vs.toArray k #[] "keys" _ wy (by decide +kernel)) ⟨hx,hA,fun h' tk' e hx'=>?_⟩) | wp_step))
 obtain ⟨t',u',he⟩:=hx'.there
 show wpAny _ _ (getattributeRaised _ _ _ _ _ _ _) _ _ _
 unfold getattributeRaised
 repeat (any_goals (first | assumption | wp_step))
 exact h h' tk' hx'.keeps
theorem pair_items {pa:Addr} {k v:Value} {Q:List Value→Shared→Prop} (ht:TupAt s.heap pa [k,v]) (h:Q [k,v] s):wpAny (model prog w) A (Builtin.Dict.pairItems (.ref pa)) Q E s:=by
 obtain ⟨_,n,ho⟩:=ht
 have hT:s.TypeIs (.ref pa) "tuple" := ⟨_,ho,rfl⟩
 unfold Builtin.Dict.pairItems
 refine wpAny_bind (wpAny_typeOf hT ?_)
 rw [if_pos (by decide)]
 refine wpAny_bind ?_
 refine wpAny_bind ?_
 refine wpAny_load ho (wpAny_pure (wpAny_pure ?_))
 exact h
theorem dK:plainId "dict.update.loop" = true:=by decide +kernel
theorem gG:entryFor table "dict.update.loop" = some Builtin.«dict.update.loop»:=entryFor_of_tree (by kernel_rfl)
end
section
variable {C:Cfg} {X Pn:AP} {s s':Shared} {A:Around} {n:Nat} {p:List V} {Q E:Value→Shared→Prop}
structure B5 (d I:Addr) (s s':Shared):Prop where
 keep:∀ b o,b≠d→b≠I→s.heap.get? b=some o→s'.heap.get? b=some o
 gens:s'.gens=s.gens
 os:s'.os=s.os
def XU (X:AP) (d I:Addr):AP:=fun b=>X b∨b=d∨b=I
theorem kM {a d I:Addr} {vs:List Value} {v:V} {R:Result→Shared→Prop} (hh:A.handled=none) (hu:A.units + 200 < cLine) (had:a≠d) (haI:a≠I) (hdI:d≠I):
  ∀ (l:List V) (rest:List Value) (i:Nat) (t:Tok) (ks xs:List V) (s:Shared),vs.drop i=rest→i + rest.length=vs.length→dictOf l ks xs=some v→RepVs C (XU X d I) s.heap l rest→LstAt s.heap a vs→s.heap.IsListIter I a i→OwnR C (XU X d I) s.heap (.aQ ks xs) d→
   (∀ s',B5 d I s s'→OwnR C (XU X d I) s'.heap v d→R (.ok (.ret .none)) s')→
   codeAny (model C.prog C.w) A (.builtin "dict.update.loop" ⟨[.ref d,.ref I,.int i t,.none],[]⟩) R s
 | [],rest,i,t,ks,xs,s,hr,hlen,hd,hR,hl,hI,ho,h=>by
  simp only [RepVs] at hR
  subst hR
  cases hd
  refine codeAny_builtin gG ?_
  rw [Around.under_plainId dK _]
  show wpAny _ A.in1 (pyNext (.ref I) >>= _) _ _ s
  refine wpAny_bind (wpAny_pyNext_list_end (by exact hh) hI hl.isList (by simp at hlen;simp;omega) fun h' he=>?_)
  refine wpAny_bind (wpAny_pure (wpAny_pure ?_))
  refine h _ ⟨fun b o _ hb e=>he b o hb e,rfl,rfl⟩ (ho.tr (fun b o e _ hx=>⟨he b o (fun q=>hx (.inr (.inr q))) e,hx⟩) fun o e _=>he d o hdI e)
 | x::l,rest,i,t,ks,xs,s,hr,hlen,hd,hR,hl,hI,ho,h=>by
  simp only [RepVs] at hR
  obtain ⟨y,rest',rfl,h1,h2⟩:=hR
  unfold dictOf at hd
  split at hd
  ·rename_i q;cases q
  ·rename_i k z r q
   cases q
   split at hd
   ·rename_i ks2 xs2 hput
    simp only [RepV,RepVs] at h1
    obtain ⟨pa,ps,rfl,hpX,hpt,kk,r1,rfl,hk,zz,r2,rfl,hz,rfl⟩:=h1
    have hx:vs[i]?=some (.ref pa):=by
     have:=congrArg List.head? hr
     rw [List.head?_drop] at this
     simpa using this
    refine codeAny_builtin gG ?_
    rw [Around.under_plainId dK _]
    show wpAny _ A.in1 (pyNext (.ref I) >>= _) _ _ s
    refine wpAny_bind (wpAny_pyNext_list_item hI hl.isList (by simpa using hx) fun aG hI1 cB=>?_)
    have T1:Tr (XU X d I) s.heap (XU X d I) aG:=fun b o e _ hx=>⟨cB.extBut b o (fun q=>hx (.inr (.inr q))) e,hx⟩
    have hpI:pa≠I:=fun q=>hpX (.inr (.inr q))
    have hpt1:TupAt aG pa [kk,zz]:=let ⟨z,n,e⟩:=hpt;⟨z,n,cB.extBut pa _ hpI e⟩
    have AA:LstAt aG a vs:=let ⟨z,n,e⟩:=hl;⟨z,n,cB.extBut a _ haI e⟩
    have fk:=ho.tr T1 fun o e _=>cB.extBut d o hdI e
    refine wpAny_bind (wpAny_holding ?_)
    refine wpAny_bind (wpAny_tryCatch (pair_items (s:={ s with heap:=aG }) hpt1 ?_))
    refine wpAny_holding ?_
    refine kh (s:={ s with heap:=aG }) fk (.inr (.inl rfl)) hput (hk.tr T1) (hz.tr T1) (by show A.units + 1 + 100 < cLine;omega) fun bu tk eO gh=>?_
    have T2:Tr (XU X d I) aG (XU X d I) bu:=fun b o e _ hx=>⟨eO.extBut b o (fun q=>hx (.inr (.inl q))) e,hx⟩
    have jn:LstAt bu a vs:=let ⟨z,n,e⟩:=AA;⟨z,n,eO.extBut a _ had e⟩
    have hI2:bu.IsListIter I a (i + 1):=let ⟨o,e,r⟩:=hI1;⟨o,eO.extBut I o (Ne.symm hdI) e,r⟩
    refine wpAny_pure ⟨plainId_quiet dK _,?_⟩
    refine kM hh hu had haI hdI l rest' (i + 1) _ ks2 xs2 { s with heap:=bu,toks:=tk } ?_ ?_ hd ((h2.tr T1).tr T2) jn hI2 gh fun s' k hv=>?_
    ·rw [← List.drop_drop,hr];rfl
    ·simp at hlen;omega
    ·exact h s' ⟨fun b o hb hb' e=>k.keep b o hb hb' (eO.extBut b o hb (cB.extBut b o hb' e)),k.gens,k.os⟩ hv
   ·cases hd
  ·cases hd
theorem yx (hsys:∃ o,C.h₀.get? sysModules=some o):fR C jA (fun v=>PySem.call (.type "dict") [v]):=by
 intro n X Pn p s A Q E a v va P hf ha h
 cases a <;> simp only [jA] at hf <;> (try cases hf)
 case lst l=>
  obtain ⟨a,vs,rfl,ht,hl⟩:=ha.lst
  have hu:=P.units
  have had:a < s.heap.objs.size:=let ⟨_,_,e⟩:=ht;Heap.lt_size e
  refine callType_codes (Q₁:=fun obj s₁=>obj=.ref s.heap.objs.size∧s₁={ s with heap:=s.heap.push { cls:=.type "dict",data:=.dict #[] } }) F.kt_called_dict (F.kt_typeCall_dict_1 _) F.entry_dict_init (kt_code_dict_new _ ⟨rfl,rfl⟩) ?_
  rintro obj s₁ ⟨rfl,rfl⟩
  have u2:∀ b o,s.heap.get? b=some o→(s.heap.push { cls:=.type "dict",data:=.dict #[] }).get? b=some o:=fun b o e=>Heap.get?_push_of_some _ e
  have oi:(s.heap.push { cls:=.type "dict",data:=.dict #[] }).get? s.heap.objs.size=some (cH [] 0):=Heap.get?_push_size _ rfl
  have ht0:LstAt (s.heap.push { cls:=.type "dict",data:=.dict #[] }) a vs:=let ⟨z,n,e⟩:=ht;⟨z,n,u2 _ _ e⟩
  have hdT:Shared.TypeIs { s with heap:=s.heap.push { cls:=.type "dict",data:=.dict #[] } } (.ref s.heap.objs.size) "dict" := ⟨_,oi,rfl⟩
  have haT:Shared.TypeIs { s with heap:=s.heap.push { cls:=.type "dict",data:=.dict #[] } } (.ref a) "list" := let ⟨_,n,e⟩:=ht0;⟨_,e,rfl⟩
  generalize s.heap.push { cls:=.type "dict",data:=.dict #[] }=h₀ at *
  refine ⟨hdT,F.args_dict_init_2 _ _,?_⟩
  unfold Builtin.«dict.__init__»
  refine wpAny_bind ?_
  unfold Builtin.Dict.selfAndRest
  refine wpAny_bind (wpAny_notOrdered_dict hdT ?_)
  show wpAny _ _ (pure (s.heap.objs.size,[Value.ref a])) _ _ _
  refine wpAny_pure ?_
  show wpAny _ _ (Builtin.Dict.updateFrom "dict.__init__" s.heap.objs.size (.ref a) [] .none) _ _ _
  unfold Builtin.Dict.updateFrom
  refine wpAny_bind (wpAny_typeOf haT ?_)
  rw [if_pos (by decide)]
  refine wpAny_bind (xR (s:={ s with heap:=h₀ }) (by exact P.room.handled) ht0 fun aG tk hk1=>?_)
  rw [if_pos (show (Option.none:Option Value).isNone=true from rfl)]
  refine wpAny_bind (wpAny_rule ?_)
  have ht1:LstAt aG a vs:=let ⟨z,n,e⟩:=ht0;⟨z,n,hk1 _ _ e⟩
  have hd1:aG.get? s.heap.objs.size=some (cH [] 0):=hk1 _ _ oi
  have hdI:s.heap.objs.size < aG.objs.size:=Heap.lt_size hd1
  refine wpAny_bind (wpAny_pyIter_list (s:={ s with heap:=aG,toks:=tk }) ht1.isList ?_)
  refine wpAny_pure ⟨plainId_quiet dK _,?_⟩
  have hk:∀ b o,s.heap.get? b=some o→(aG.push { cls:=.type "list_iterator",data:=.fields #[.ref a,.int 0 0] }).get? b=some o:=fun b o e=>Heap.get?_push_of_some _ (hk1 _ _ (u2 _ _ e))
  have hXd:¬X s.heap.objs.size:=fun q=>by obtain ⟨o,e⟩:=P.lt _ q;exact absurd (Heap.lt_size e) (Nat.lt_irrefl _)
  refine kM (X:=X) (a:=a) (vs:=vs) (v:=v) (by exact P.room.handled) (by show A.units + 1 + 200 < cLine;omega) (Nat.ne_of_lt had) (Nat.ne_of_lt (Nat.lt_trans had hdI)) (Nat.ne_of_lt hdI) l vs 0 _ [] [] _ rfl (by simp) hf (hl.tr fun b o e _ hx=>⟨hk b o e,fun q=>?_⟩) (let ⟨z,n,e⟩:=ht1;⟨z,n,Heap.get?_push_of_some _ e⟩) ⟨_,Heap.get?_push_size _ rfl,rfl,rfl⟩ ?_ fun s' k hv=>?_
  ·rcases q with q | q | q
   ·exact hx q
   ·exact absurd (q ▸ Heap.lt_size e) (Nat.lt_irrefl _)
   ·have:=Heap.lt_size e;rw [q] at this;exact absurd (Nat.lt_trans this hdI) (Nat.lt_irrefl _)
  ·simp only [OwnR]
   refine ⟨[],⟨⟨?_,Nat.zero_le _⟩,0,Heap.get?_push_of_some _ hd1⟩,by simp [RepVs],by simp [RepVs],rfl,fun k hk=>nomatch hk⟩
   rw [beq_eq_false_iff_ne]
   intro q
   obtain ⟨o,e⟩:=hsys
   have:=Heap.lt_size (P.base _ _ e)
   rw [← q] at this
   exact Nat.lt_irrefl _ this
  ·refine ⟨rfl,h _ s' ⟨fun b o e=>k.keep b o (Nat.ne_of_lt (Heap.lt_size e)) (Nat.ne_of_lt (Nat.lt_trans (Heap.lt_size e) hdI)) (hk b o e),k.gens,k.os⟩ ?_⟩
   exact OwnR.rep (OwnR.tr (X':=X) (fun b o e _ hx=>⟨e,fun q=>hx (.inl q)⟩) (fun o e _=>e) hv) hXd
end
section
variable {M:Model} {A:Around} {E:Value→Shared→Prop} {s:Shared}
theorem qW {h:Heap} {a:Addr} {f:Obj→Obj} {o o':Obj} (ho:h.get? a=some o) (hf:(f o).cls=o.cls) (e:(h.update a f).get? a=some o'):o'.cls=o.cls:=by
 have q:(h.update a f).objs[a]?=some (f o):=by
  obtain ⟨e1,_⟩:=Heap.get?_some_iff.mp ho
  simp only [Heap.update,Array.getElem?_modify,if_true];rw [e1];rfl
 obtain ⟨e2,_⟩:=Heap.get?_some_iff.mp e
 rw [q] at e2;cases e2;exact hf
theorem pZ {o:Obj} {es:Array DictEntry} {ep:Nat} {name:Str} {hh:Int} {key v:Value} (hd:o.data=.dict es ep):(Obj.putName name hh key v o).cls=o.cls:=by
 obtain ⟨c,d,dt,sl⟩:=o
 simp only at hd;subst hd
 simp only [Obj.putName_eq,Obj.putNameByArray]
 cases es.findIdx? (·.key.isStr name) <;> rfl
theorem j3 {a:Addr} {m:Str→Option Value} {name:Str} {v:Value} {o:Obj} {Q:Unit→Shared→Prop} (hn:s.heap.Ns a m) (ho:s.heap.get? a=some o)
  (h:∀ h' o',h'.Ns a (fun x=>if x=name then some v else m x)→Heap.SameBut a s.heap h'→h'.get? a=some o'→o'.cls=o.cls→(∃ es ep,o'.data=.dict es ep)→Q () { s with heap:=h',toks:=s.toks + 1 }):
  wpAny M A (nsSet a name v) Q E s:=by
 obtain ⟨j2,es,ep,fk,hd,hk,_⟩:=id hn
 rw [ho] at fk;cases fk
 intro Γ p hΓ
 have hany:es.any (·.refKey)=false:=by
  rw [Array.any_eq_false'];intro e he;obtain ⟨n,t,h⟩:=hk e he;simp [DictEntry.refKey,h]
 -- the step as it is computed,and what the library says of it,meet at one heap
 have two:∀ (R:Unit→Pos→Shared→Prop),(∀ h',h'.Ns a (fun x=>if x=name then some v else m x)→Heap.SameBut a s.heap h'→R () p { s with heap:=h',toks:=s.toks + 1 })→
   ∃ f:Obj→Obj,(f o).cls=o.cls∧R () p { s with heap:=s.heap.update a f,toks:=s.toks + 1 }∧(∀ R':Unit→Pos→Shared→Prop,R' () p { s with heap:=s.heap.update a f,toks:=s.toks + 1 }→Sem.wp M Γ (nsSet a name v) R' (fun e _ s'=>E e s') p s):=by
  intro R hR
  have w:=Sem.wp_nsSet M Γ (fun _ _ _=>True) p s hn name v R hR
  simp only [nsSet,strHash,Sem.wp_bind',Sem.wp_cmd_ask,Sem.wp_pure',Sem.wp_cmd_mkText] at w ⊢
  rw [Sem.wp_loadPart_of M Γ _ p { s with toks:=s.toks + 1 } (o:=o) _ ho] at w
  simp only [hd,aRefKeyMayBeTheName_eq,aRefKeyMayBeTheNameByArray,hany,Bool.and_false,Bool.false_eq_true,if_false,Sem.wp_cmd_updatePart] at w
  refine ⟨_,pZ hd,w.2,fun R' hR'=>?_⟩
  rw [Sem.wp_loadPart_of M Γ _ p { s with toks:=s.toks + 1 } (o:=o) _ ho]
  simp only [hd,aRefKeyMayBeTheName_eq,aRefKeyMayBeTheNameByArray,hany,Bool.and_false,Bool.false_eq_true,if_false,Sem.wp_cmd_updatePart]
  exact ⟨by rw [ho];rfl,hR'⟩
 obtain ⟨f,hf,⟨h',e,hn',hs'⟩,run⟩:=two (fun _ _ s'=>∃ h',s'={ s with heap:=h',toks:=s.toks + 1 }∧h'.Ns a (fun x=>if x=name then some v else m x)∧Heap.SameBut a s.heap h') fun h' x y=>⟨h',rfl,x,y⟩
 have e':s.heap.update a f=h':=congrArg Shared.heap e
 refine run _ ?_
 obtain ⟨o',es',ep',ho',hd',_⟩:=id hn'
 rw [e']
 refine h h' o' hn' hs' ho' ?_ ⟨es',ep',hd'⟩
 rw [← e'] at ho'
 exact qW ho hf ho'
theorem kY {c:Addr} {o:Obj} {v0 v:Option Value} {Q:Unit→Shared→Prop} (ho:s.heap.get? c=some o) (hd:o.data=.cell v0)
  (h:∀ h',h'.get? c=some { o with data:=.cell v }→Heap.SameBut c s.heap h'→Q () { s with heap:=h' }):wpAny M A (cellSet c v) Q E s:=by
 unfold cellSet
 refine wpAny_bind (wpAny_load ho ?_)
 rw [hd]
 exact wpAny_update ho (h _ (Heap.get?_update_self _ ho rfl) (Heap.SameBut.update ..))
end
structure Kf (X X':AP) (s s':Shared):Prop where
 keep:∀ b o,s.heap.get? b=some o→Kc o→¬X b→s'.heap.get? b=some o∧¬X' b
structure St (C:Cfg) (cx:Cx) (X0 Pn:AP) (env:Env) (aj:Shared) (ρ:Fr) (p:List V) (s:Shared) (X:AP):Prop where
 vw:Vw C cx X Pn env ρ p s.heap
 nx:Nx C Pn aj s
 sub:∀ b,X0 b→X b
 new:∀ b,X b→X0 b∨aj.heap.get? b=none
 pn0:∀ b,Pn b→X0 b
 lt0:∀ b,X0 b→∃ o,aj.heap.get? b=some o
 base0:Base C aj.heap
 lns:∃ m,s.heap.Ns env.locals m
 frm:∃ o,s.heap.get? env.locals=some o∧o.cls=aL
 efr:env.frame=some env.locals
 lX:X env.locals
 l0:aj.heap.get? env.locals=none
 cellX:∀ x c,env.kindOf x=some .cell→env.cells.lookup x=some c→(∃ o v,s.heap.get? c=some o∧o.cls=.type "cell" ∧ o.data=.cell v)∧aj.heap.get? c=none∧(cx.caps.contains x=false→X c)
 capK:∀ x,cx.caps.contains x=true→env.kindOf x=some .cell
 cinj:∀ x y c,env.cells.lookup x=some c→env.cells.lookup y=some c→x=y
 nofree:∀ x,env.kindOf x≠some .free
 own:∃ ad:Str→Addr,(∀ x j u,cx.vars.lookup x=some j→ay j ρ=.own u→Reads env s.heap x (.ref (ad x))∧aj.heap.get? (ad x)=none)∧
  ∀ x y j k u w,cx.vars.lookup x=some j→cx.vars.lookup y=some k→ay j ρ=.own u→ay k ρ=.own w→ad x=ad y→x=y
section
variable {C:Cfg} {cx:Cx} {X0 X X' Pn:AP} {env:Env} {aj s s' s'':Shared} {ρ ρ':Fr} {p p':List V} {A:Around} {E:Value→Shared→Prop}
theorem Kf.refl:Kf X X s s:=⟨fun _ _ e _ h=>⟨e,h⟩⟩
theorem Kf.trans {X'':AP} (a:Kf X X' s s') (b:Kf X' X'' s' s''):Kf X X'' s s'':=⟨fun x o e hc hx=>let ⟨q,r⟩:=a.keep x o e hc hx;b.keep x o q hc r⟩
theorem Kf.tr (k:Kf X X' s s'):Tr X s.heap X' s'.heap:=fun a o e hc hx=>k.keep a o e hc.ne hx
theorem Reads.unique {x:Str} {v w:Value} {h:Heap} (a:Reads env h x v) (b:Reads env h x w):v=w:=by
 unfold Reads at a b
 split at a
 ·rename_i e;rw [e] at b;obtain ⟨m,hm,e1⟩:=a;obtain ⟨m',hm',e2⟩:=b
  have:=kr hm hm';subst this;rw [e1] at e2;cases e2;rfl
 ·rename_i e;rw [e] at b;obtain ⟨c,hc,o,h1,h2,h3⟩:=a;obtain ⟨c',hc',o',h1',h2',h3'⟩:=b
  rw [hc] at hc';cases hc';rw [h1] at h1';cases h1';rw [h3] at h3';cases h3';rfl
 ·rename_i e;rw [e] at b;obtain ⟨c,hc,o,h1,h2,h3⟩:=a;obtain ⟨c',hc',o',h1',h2',h3'⟩:=b
  rw [hc] at hc';cases hc';rw [h1] at h1';cases h1';rw [h3] at h3';cases h3';rfl
 ·exact a.elim
theorem St.old (S:St C cx X0 Pn env aj ρ p s X) {b:Addr} (e:s.heap.get? b=none):aj.heap.get? b=none:=by
 cases q:aj.heap.get? b with
 | none=>rfl
 | some o=>obtain ⟨o',q'⟩:=Ext.lt S.nx.ext S.vw.au b ⟨o,q⟩;rw [e] at q';cases q'
theorem St.lD (S:St C cx X0 Pn env aj ρ p s X) {b:Addr} (e:aj.heap.get? b=none):C.h₀.get? b=none:=by
 cases q:C.h₀.get? b with
 | none=>rfl
 | some o=>have:=S.base0 b o q;rw [e] at this;cases this
theorem St.yo (S:St C cx X0 Pn env aj ρ p s X) {c:Addr} {o:Obj} (h:s.heap.get? c=some o) (hc:o.cls=.type "cell"):¬Pn c:=dQ S.vw.au h hc (by decide)
theorem St.ownAt (S:St C cx X0 Pn env aj ρ p s X) {x:Str} {j:Nat} {u:V} (hx:cx.vars.lookup x=some j) (hg:ay j ρ=.own u):
  ∃ a,Reads env s.heap x (.ref a)∧X a∧¬Pn a∧OwnR C X s.heap u a∧aj.heap.get? a=none∧(∀ y k w b,y≠x→cx.vars.lookup y=some k→ay k ρ=.own w→Reads env s.heap y (.ref b)→b≠a):=by
 obtain ⟨ad,h1,h2⟩:=S.own
 obtain ⟨r1,r2⟩:=h1 x j u hx hg
 obtain ⟨val,q1,q2,q3⟩:=S.vw.vars x j hx (by rw [hg];simp)
 have e:=Reads.unique q1 r1
 subst e
 rw [hg] at q2
 obtain ⟨a,ea,hxa,hna,ho⟩:=q2
 cases ea
 refine ⟨ad x,r1,hxa,hna,ho,r2,fun y k w b hy hk hgk hb e=>hy ?_⟩
 obtain ⟨s1,s2⟩:=h1 y k w hk hgk
 have e':=Reads.unique hb s1
 cases e'
 exact h2 y x k j w u hk hx hgk hg e
theorem St.xQ (S:St C cx X0 Pn env aj ρ p s X) (hn:Nx C Pn s s') (hX:∀ b,X b→X' b) (hX':∀ b,X' b→X b∨s.heap.get? b=none) (hlt:∀ b,X' b→∃ o,s'.heap.get? b=some o) (hp:aY C X' Pn s'.heap p') (hnc:∀ b,X' b→X b∨NC s'.heap b:=by exact fun _ q=>.inl q):
  St C cx X0 Pn env aj ρ p' s' X'∧Kf X X' s s':=by
 have v:=S.vw
 have ne:∀ {b o},s.heap.get? b=some o→¬X b→¬X' b:=fun {b o} e hx q=>by
  rcases hX' b q with r | r
  ·exact hx r
  ·rw [e] at r;cases r
 have T:Tr X s.heap X' s'.heap:=fun a o e hc hx=>⟨hn.ext.keep a o e (fun q=>hx (v.pnX a q)) hc.ne,ne e hx⟩
 obtain ⟨m,hm⟩:=S.lns
 have npL:¬Pn env.locals:=gJ v.au hm
 have R':∀ {x val},Reads env s.heap x val→Reads env s'.heap x val:=fun r=>r.ext hn.ext v.au
 refine ⟨⟨{ kind:=v.kind,code:=v.code,globals:=v.globals,builtins:=v.builtins,kinds:=v.kinds,cells:=v.cells,vars:=fun x j hx hu=>?_,own:=v.own,caps:=fun x c hx hc=>?_,tab:=(hn.ext.tab X v.tab).mono fun c q y=>(hnc c q).elim (fun q=>⟨q,fun r=>hp.nc r y,v.lt c q⟩) fun q=>(q.code y).elim,au:=hp,pnX:=fun b hb=>hX b (v.pnX b hb),base:=hn.ext.base,lt:=hlt,fresh:=fun b hb=>?_ },S.nx.trans hn,fun b hb=>hX b (S.sub b hb),fun b hb=>?_,S.pn0,S.lt0,S.base0,⟨m,mE hn.ext npL hm⟩,?_,S.efr,hX _ S.lX,S.l0,fun x c hk hc=>?_,S.capK,S.cinj,S.nofree,?_⟩,
  ⟨fun b o e hc hx=>⟨hn.ext.keep b o e (fun q=>hx (v.pnX b q)) hc,ne e hx⟩⟩⟩
 ·obtain ⟨val,a,c,d⟩:=v.vars x j hx hu
  refine ⟨val,R' a,?_,d⟩
  cases hg:ay j ρ with
  | undef=>trivial
  | val w=>rw [hg] at c;exact RepV.tr T c
  | own w=>rw [hg] at c;obtain ⟨a,e,h1,h2,h3⟩:=c;exact ⟨a,e,hX a h1,h2,h3.tr T fun o ho hc=>hn.ext.keep a o ho h2 hc⟩
  | au=>rw [hg] at c;exact c
 ·have hn':=v.caps x c hx hc
  intro q
  rcases hX' c q with r | r
  ·exact hn' r
  ·by_cases hk:env.kindOf x=some .cell
   ·obtain ⟨⟨o,_,ho,_⟩,_⟩:=S.cellX x c hk hc
    rw [ho] at r;cases r
   ·exact absurd (S.capK x hx) hk
 ·rcases hX' b hb with r | r
  ·exact v.fresh b r
  ·exact S.lD (S.old r)
 ·rcases hX' b hb with r | r
  ·exact S.new b r
  ·exact .inr (S.old r)
 ·obtain ⟨o,ho,hc⟩:=S.frm
  obtain ⟨o',ho',hc',_⟩:=hn.ext.data _ o ho npL
  exact ⟨o',ho',hc'.trans hc⟩
 ·obtain ⟨⟨o,w,ho,hcl,hd⟩,h0,hx⟩:=S.cellX x c hk hc
  exact ⟨⟨o,w,hn.ext.keep c o ho (S.yo ho hcl) (aW hcl (by decide)),hcl,hd⟩,h0,fun q=>hX c (hx q)⟩
 ·obtain ⟨ad,h1,h2⟩:=S.own
  exact ⟨ad,fun x j u hx hg=>let ⟨q1,q2⟩:=h1 x j u hx hg;⟨R' q1,q2⟩,h2⟩
theorem St.next (S:St C cx X0 Pn env aj ρ p s X) (hn:Nx C Pn s s') (hp:aY C X Pn s'.heap p'):St C cx X0 Pn env aj ρ p' s' X∧Kf X X s s':=
 S.xQ hn (fun _ q=>q) (fun _ q=>.inl q) (fun b hb=>Ext.lt hn.ext hp b (S.vw.lt b hb)) hp
theorem St.loc (S:St C cx X0 Pn env aj ρ p s X):Loc C X Pn env s.heap:=⟨S.lns,S.lX,S.lD S.l0⟩
end
section
variable {C:Cfg} {cx:Cx} {X0 X X' Pn:AP} {env:Env} {aj s s' s'':Shared} {ρ ρ':Fr} {p p':List V} {A:Around} {E:Value→Shared→Prop} {h h':Heap}
theorem ez {x:Str} {j:Nat} (h:cq cx x=some j):cx.vars.lookup x=some j∧(cx.sc.lookup x=some .local∨cx.sc.lookup x=some .cell)∧cx.caps.contains x=false∧aM x=true:=by
 unfold cq at h
 split at h
 ·rename_i e
  simp only [Bool.and_eq_true,Bool.or_eq_true,beq_iff_eq,Bool.not_eq_true'] at e
  exact ⟨h,e.1.1,e.1.2,e.2⟩
 ·cases h
theorem Frames.but {t:Addr} (hs:Heap.SameBut t h h') (ht:∀ o,h.get? t=some o→o.cls=aL→∃ o',h'.get? t=some o'∧o'.cls=aL∧∃ es ep,o'.data=.dict es ep):∀ {l:List Env},Frames C h l→Frames C h' l
 | [],_=>trivial
 | env::r,⟨hk,⟨L,o,es,ep,hf,hn,ho,hc,hd⟩,hr⟩=>by
  by_cases e:L=t
  ·subst e
   obtain ⟨o',ho',hc',es',ep',hd'⟩:=ht o ho hc
   exact ⟨hk,⟨L,o',es',ep',hf,hn,ho',hc',hd'⟩,Frames.but hs ht hr⟩
  ·exact ⟨hk,⟨L,o,es,ep,hf,hn,hs.extBut L o e ho,hc,hd⟩,Frames.but hs ht hr⟩
theorem aN.but {t:Addr} (k:aN C A h) (hs:Heap.SameBut t h h') (ht:∀ o,h.get? t=some o→o.cls=aL→∃ o',h'.get? t=some o'∧o'.cls=aL∧∃ es ep,o'.data=.dict es ep):aN C A h':=
 let ⟨l,a,b⟩:=k;⟨l,a,b.but hs ht⟩
theorem Vw.ox {x:Str} {c:Addr} {j:Nat} {sl:Slot} {val:Value} (v:Vw C cx X Pn env ρ p h) (O:bc cx) (hk:env.kindOf x=some .cell) (hc:env.cells.lookup x=some c) (hj:cx.vars.lookup x=some j)
  (hX:X c) (hcl:∃ o w,h.get? c=some o∧o.cls=.type "cell" ∧ o.data=.cell w) (hn:cA h' c val) (hs:Heap.SameBut c h h') (hinj:∀ y,env.cells.lookup y=some c→y=x) (hL:∃ m,h.Ns env.locals m)
  (hr:cE C X Pn h sl val) (hv:val≠.ref env.locals) (ho:∀ v,sl=.own v→cx.muts.contains x=true):Vw C cx X Pn env (sets j ρ sl) p h':=by
 obtain ⟨oc,w,hoc,hcc,hcd⟩:=hcl
 have t:=bo (X:=X) hs hX
 have hnp:¬Pn c:=dQ v.au hoc hcc (by decide)
 have tk:∀ {sl':Slot} {val':Value},cE C X Pn h sl' val'→cE C X Pn h' sl' val':=fun {sl' val'} r=>by
  cases sl' with
  | undef=>trivial
  | val u=>exact RepV.tr t r
  | au=>exact r
  | own u=>
   obtain ⟨a,e,h1,h2,h3⟩:=r
   refine ⟨a,e,h1,h2,h3.tr t fun o ho _=>hs.extBut a o (fun q=>?_) ho⟩
   subst q
   obtain ⟨o',ho',hne⟩:=h3.kD
   rw [hoc] at ho';cases ho';exact hne hcc
 have hcL:env.locals≠c:=fun q=>by
  obtain ⟨m,o',es,ep,ho',hd',_⟩:=hL
  rw [q,hoc] at ho';cases ho';rw [hcd] at hd';cases hd'
 have rd:∀ {y val'},y≠x→Reads env h y val'→Reads env h' y val':=fun {y val'} hy a=>by
  unfold Reads at a ⊢
  split at a
  ·obtain ⟨m',hm',hv'⟩:=a;exact ⟨m',hm'.at' fun o e=>hs.extBut _ o hcL e,hv'⟩
  ·obtain ⟨c',q,o,r1,r2,r3⟩:=a;exact ⟨c',q,o,hs.extBut c' o (fun e=>hy (hinj y (e ▸ q))) r1,r2,r3⟩
  ·obtain ⟨c',q,o,r1,r2,r3⟩:=a;exact ⟨c',q,o,hs.extBut c' o (fun e=>hy (hinj y (e ▸ q))) r1,r2,r3⟩
  ·exact a.elim
 refine { kind:=v.kind,code:=v.code,globals:=v.globals,builtins:=v.builtins,kinds:=v.kinds,cells:=v.cells,vars:=fun y k hy hu=>?_,own:=fun y k u hy hg=>?_,caps:=v.caps,tab:=v.tab.but (W:=fun b=>b=c) (fun b o e q=>hs.extBut b o q e) (fun b q=>q ▸ .gZ hoc hcc (by decide)),au:=v.au.tr t fun b o hb ho _=>hs.extBut b o (fun q=>hnp (q ▸ hb)) ho,pnX:=v.pnX,base:=fun b o e=>hs.extBut b o (fun q=>by subst q;rw [v.fresh _ hX] at e;cases e) (v.base b o e),lt:=fun b hb=>?_,fresh:=v.fresh }
 ·rw [bO] at hu ⊢
  by_cases q:y=x
  ·subst q
   rw [hj] at hy;cases hy
   by_cases h16:j < 16
   ·rw [if_pos ⟨rfl,h16⟩] at hu ⊢
    exact ⟨val,by unfold Reads;rw [hk];exact ⟨c,hc,hn⟩,tk hr,hv⟩
   ·rw [if_neg (by omega),cG (by omega)] at hu;exact absurd rfl hu
  ·have hkj:k≠j:=fun e=>q (O.inj y x j (e ▸ hy) hj)
   rw [if_neg (fun q=>hkj q.1)] at hu ⊢
   obtain ⟨val',a,b,d⟩:=v.vars y k hy hu
   exact ⟨val',rd q a,tk b,d⟩
 ·rw [bO] at hg
  by_cases q:y=x
  ·subst q
   rw [hj] at hy;cases hy
   by_cases h16:j < 16
   ·rw [if_pos ⟨rfl,h16⟩] at hg;exact ho u hg
   ·rw [if_neg (by omega),cG (by omega)] at hg;cases hg
  ·have hkj:k≠j:=fun e=>q (O.inj y x j (e ▸ hy) hj)
   rw [if_neg (fun q=>hkj q.1)] at hg;exact v.own y k u hy hg
 ·obtain ⟨o,ho⟩:=v.lt b hb
  by_cases q:b=c
  ·subst q;obtain ⟨o',h1,_⟩:=hn;exact ⟨o',h1⟩
  ·exact ⟨o,hs.extBut b o q ho⟩
theorem St.turned {t:Addr} {tk:Tok} (S:St C cx X0 Pn env aj ρ p s X) (vw:Vw C cx X Pn env ρ' p h') (hs:Heap.SameBut t s.heap h') (hX:X t) (h0:aj.heap.get? t=none) (hn:NC s.heap t) (lns:∃ m,h'.Ns env.locals m) (frm:∃ o,h'.get? env.locals=some o∧o.cls=aL)
  (cell:∀ x,env.kindOf x=some .cell→env.cells.lookup x=some t→∃ o v,h'.get? t=some o∧o.cls=.type "cell" ∧ o.data=.cell v)
  (own:∃ ad:Str→Addr,(∀ x j u,cx.vars.lookup x=some j→ay j ρ'=.own u→Reads env h' x (.ref (ad x))∧aj.heap.get? (ad x)=none)∧
   ∀ x y j k u w,cx.vars.lookup x=some j→cx.vars.lookup y=some k→ay j ρ'=.own u→ay k ρ'=.own w→ad x=ad y→x=y):
  St C cx X0 Pn env aj ρ' p { s with heap:=h',toks:=tk } X∧Kf X X s { s with heap:=h',toks:=tk }:=by
 refine ⟨⟨vw,?_,S.sub,S.new,S.pn0,S.lt0,S.base0,lns,frm,S.efr,S.lX,S.l0,fun x c hk hc=>?_,S.capK,S.cinj,S.nofree,own⟩,⟨fun b o e _ hx=>⟨hs.extBut b o (fun q=>hx (q ▸ hX)) e,hx⟩⟩⟩
 ·exact ((S.nx.grow (Y:=fun b=>Pn b∨b=t) fun _ q=>.inl q).trans (fC (o:=default) S.vw.base hs (S.lD h0) (.inr rfl) hn _)).shrink fun b hb=>hb.elim .inl fun q=>.inr (q ▸ h0)
 ·obtain ⟨⟨o,w,ho,hcl,hd⟩,r⟩:=S.cellX x c hk hc
  by_cases q:c=t
  ·subst q;exact ⟨cell x hk hc,r⟩
  ·exact ⟨⟨o,w,hs.extBut c o q ho,hcl,hd⟩,r⟩
structure yD (C:Cfg) (X:AP) (env:Env) (x:Str) (val:Value) (s s':Shared):Prop where
 own:∀ v a,OwnR C X s.heap v a→OwnR C X s'.heap v a
 oth:∀ y v,y≠x→Reads env s.heap y v→Reads env s'.heap y v
 self:Reads env s'.heap x val
 but:∃ t,(t=env.locals∨env.kindOf x=some .cell∧env.cells.lookup x=some t)∧Heap.SameBut t s.heap s'.heap
theorem sx {t:Addr} {o:Obj} (hs:Heap.SameBut t h h') (hX:X t) (ho:h.get? t=some o) (hc:o.cls=aL∨o.cls=.type "cell") {v:V} {a:Addr} (r:OwnR C X h v a):OwnR C X h' v a:=
 r.tr (bo hs hX) fun o' e _=>hs.extBut a o' (fun q=>by
  subst q
  obtain ⟨xA,fK,hc2⟩:=r.kD
  rw [ho] at fK;cases fK
  rcases hc with hc | hc
  ·cases v <;> simp only [OwnR] at r
   case lst l=>obtain ⟨vs,⟨z,n,x⟩,y⟩:=r;rw [ho] at x;cases x;simp [cy,aL] at hc
   case aQ ks xs=>obtain ⟨es,⟨z,n,x⟩,y,w,q⟩:=r;rw [ho] at x;cases x;simp [cH,aL] at hc
  ·exact hc2 hc) e
theorem St.store {x:Str} {j:Nat} {sl:Slot} {val:Value} {Q:Unit→Shared→Prop} (S:St C cx X0 Pn env aj ρ p s X) (O:bc cx) (k:aN C A s.heap) (ht:cq cx x=some j) (hr:cE C X Pn s.heap sl val) (hv:val≠.ref env.locals)
  (hown:∀ u,sl=.own u→cx.muts.contains x=true∧∃ a,val=.ref a∧aj.heap.get? a=none∧∀ y k w b,y≠x→cx.vars.lookup y=some k→ay k ρ=.own w→Reads env s.heap y (.ref b)→b≠a)
  (hQ:∀ s',St C cx X0 Pn env aj (sets j ρ sl) p s' X→aN C A s'.heap→Kf X X s s'→yD C X env x val s s'→Q () s'):wpAny (model C.prog C.w) A (storeName env x val) Q E s:=by
 obtain ⟨hj,hsc,hcap,_⟩:=ez ht
 obtain ⟨m,hm⟩:=S.lns
 obtain ⟨oL,hoL,hcL⟩:=S.frm
 -- the frame's own lists behind the store
 have own:∀ h',(∀ y v,y≠x→Reads env s.heap y v→Reads env h' y v)→Reads env h' x val→∃ ad:Str→Addr,(∀ x j' u,cx.vars.lookup x=some j'→ay j' (sets j ρ sl)=.own u→Reads env h' x (.ref (ad x))∧aj.heap.get? (ad x)=none)∧
   ∀ x y j1 k u w,cx.vars.lookup x=some j1→cx.vars.lookup y=some k→ay j1 (sets j ρ sl)=.own u→ay k (sets j ρ sl)=.own w→ad x=ad y→x=y:=by
  intro h' r1 r2
  obtain ⟨ad,a1,a2⟩:=S.own
  have other:∀ {y k u},y≠x→cx.vars.lookup y=some k→ay k (sets j ρ sl)=.own u→ay k ρ=.own u:=fun {y k u} hy hk hg=>by
   have hkj:k≠j:=fun e=>hy (O.inj y x j (e ▸ hk) hj)
   rw [bO,if_neg (fun q=>hkj q.1)] at hg;exact hg
  have self:∀ {u},ay j (sets j ρ sl)=.own u→sl=.own u:=fun {u} hg=>by
   rw [bO] at hg
   by_cases h16:j < 16
   ·rw [if_pos ⟨rfl,h16⟩] at hg;exact hg
   ·rw [if_neg (by omega),cG (by omega)] at hg;cases hg
  refine ⟨fun y=>if y=x then (match val with | .ref a=>a | _=>0) else ad y,fun y k u hy hg=>?_,fun y z j1 k u w hy hz hg hg' e=>?_⟩
  ·by_cases q:y=x
   ·subst q
    rw [hj] at hy;cases hy
    obtain ⟨_,a,ea,h0,_⟩:=hown u (self hg)
    subst ea
    simp only [if_true]
    exact ⟨r2,h0⟩
   ·simp only [q,if_false]
    obtain ⟨q1,q2⟩:=a1 y k u hy (other q hy hg)
    exact ⟨r1 _ _ q q1,q2⟩
  ·by_cases q:y=x <;> by_cases q':z=x
   ·rw [q,q']
   ·subst q
    rw [hj] at hy;cases hy
    obtain ⟨_,a,ea,h0,hne⟩:=hown u (self hg)
    subst ea
    simp only [if_true,q',if_false] at e
    exact absurd e.symm (hne z k w (ad z) q' hz (other q' hz hg') (a1 z k w hz (other q' hz hg')).1)
   ·subst q'
    rw [hj] at hz;cases hz
    obtain ⟨_,a,ea,h0,hne⟩:=hown w (self hg')
    subst ea
    simp only [if_true,q,if_false] at e
    exact absurd e (hne y j1 u (ad y) q hy (other q hy hg) (a1 y j1 u hy (other q hy hg)).1)
   ·simp only [q,q',if_false] at e
    exact a2 y z j1 k u w hy hz (other q hy hg) (other q' hz hg') e
 rcases hsc with hsc | hsc
 ·have hk:=S.vw.j8 hsc
  rw [storeName_local hk (nA S.vw.kind)]
  refine j3 hm hoL fun h' o' hn' hs' ho' hc' hd'=>?_
  have vw:=S.vw.store O S.loc hk hj hm hn' hs' hr hv fun u e=>(hown u e).1
  have rd:∀ y v,y≠x→Reads env s.heap y v→Reads env h' y v:=fun y v hy a=>by
   unfold Reads at a ⊢
   split at a
   ·obtain ⟨m',hm',hv'⟩:=a
    rw [kr hm' hm] at hv'
    exact ⟨_,hn',by simp only [hy,if_false];exact hv'⟩
   ·obtain ⟨c',q,r⟩:=a;exact ⟨c',q,r.sameBut hs' hm⟩
   ·obtain ⟨c',q,r⟩:=a;exact ⟨c',q,r.sameBut hs' hm⟩
   ·exact a.elim
  have hcell:∀ y,env.kindOf y=some .cell→env.cells.lookup y=some env.locals→∃ o v,h'.get? env.locals=some o∧o.cls=.type "cell" ∧ o.data=.cell v:=fun y hy hc=>by
   obtain ⟨⟨o,w,ho,hcl,_⟩,_⟩:=S.cellX y _ hy hc
   rw [hoL] at ho;cases ho;rw [hcL] at hcl;exact absurd hcl (by simp [aL])
  obtain ⟨S',K⟩:=S.turned (tk:=s.toks + 1) vw hs' S.lX S.l0 (.ij hm) ⟨_,hn'⟩ ⟨o',ho',hc'.trans hcL⟩ hcell (own h' rd (by unfold Reads;rw [hk];exact ⟨_,hn',if_pos rfl⟩))
  exact hQ _ S' (k.but hs' fun o e hc=>⟨o',ho',hc'.trans hcL,hd'⟩) K ⟨fun v a r=>sx hs' S.lX hoL (.inl hcL) r,rd,by unfold Reads;rw [hk];exact ⟨_,hn',if_pos rfl⟩,_,.inl rfl,hs'⟩
 ·have hk:env.kindOf x=some .cell:=(S.vw.kinds x .cell hsc).1 (by simp)
  obtain ⟨c,hc⟩:=S.vw.cells x (.inl hk)
  obtain ⟨⟨o,w,ho,hcl,hd⟩,h0,hx⟩:=S.cellX x c hk hc
  have hX:=hx hcap
  have e:storeName env x val=cellSet c (some val):=by
   unfold storeName
   simp only [hk,S.vw.kind,cellOf,hc]
   rfl
  rw [e]
  refine kY ho hd fun h' hc' hs'=>?_
  have hci:cA h' c val:=⟨_,hc',hcl,rfl⟩
  have hcL':env.locals≠c:=fun q=>by rw [q,ho] at hoL;cases hoL;rw [hcL] at hcl;exact absurd hcl (by simp [aL])
  have vw:=S.vw.ox O hk hc hj hX ⟨o,w,ho,hcl,hd⟩ hci hs' (fun y hy=>S.cinj y x c hy hc) S.lns hr hv fun u e=>(hown u e).1
  have rd:∀ y v,y≠x→Reads env s.heap y v→Reads env h' y v:=fun y v hy a=>by
   unfold Reads at a ⊢
   split at a
   ·obtain ⟨m',hm',hv'⟩:=a;exact ⟨m',hm'.at' fun o e=>hs'.extBut _ o hcL' e,hv'⟩
   ·obtain ⟨c',q,o,r1,r2,r3⟩:=a;exact ⟨c',q,o,hs'.extBut c' o (fun e=>hy (S.cinj y x c (e ▸ q) hc)) r1,r2,r3⟩
   ·obtain ⟨c',q,o,r1,r2,r3⟩:=a;exact ⟨c',q,o,hs'.extBut c' o (fun e=>hy (S.cinj y x c (e ▸ q) hc)) r1,r2,r3⟩
   ·exact a.elim
  obtain ⟨S',K⟩:=S.turned (tk:=s.toks) vw hs' hX h0 (.gZ ho hcl (by decide)) ⟨m,hm.at' fun o e=>hs'.extBut _ o hcL' e⟩ ⟨oL,hs'.extBut _ _ hcL' hoL,hcL⟩ (fun y hy hc=>⟨_,_,hc',hcl,rfl⟩) (own h' rd (by unfold Reads;rw [hk];exact ⟨c,hc,hci⟩))
  exact hQ _ S' (k.but hs' fun o' e hc'=>by rw [ho] at e;cases e;rw [hcl] at hc';exact absurd hc' (by simp [aL])) K ⟨fun v a r=>sx hs' hX ho (.inr hcl) r,rd,by unfold Reads;rw [hk];exact ⟨c,hc,hci⟩,c,.inr ⟨hk,hc⟩,hs'⟩
end
section
variable {C:Cfg} {cx:Cx} {X0 X X' Pn:AP} {env:Env} {aj s s' s'':Shared} {ρ ρ':Fr} {p p':List V} {A:Around} {Q:Flow→Shared→Prop} {E:Value→Shared→Prop} {h h':Heap} {n:Nat} {call:Call} {b:Bool}
theorem dD {x y:Str} {j k:Nat} {sl:Slot} (O:bc cx) (hy:y≠x) (hk:cx.vars.lookup y=some k) (hj:cx.vars.lookup x=some j):ay k (sets j ρ sl)=ay k ρ:=by
 have hkj:k≠j:=fun e=>hy (O.inj y x j (e ▸ hk) hj)
 rw [bO,if_neg (fun q=>hkj q.1)]
theorem mr {j:Nat} (h:ay j ρ≠.undef):j < 16:=by
 by_cases q:j < 16
 ·exact q
 ·rw [cG (by omega)] at h;exact absurd rfl h
theorem OwnR.notDict {v:V} {a:Addr} (r:OwnR C X h v a):∀ o,h.get? a=some o→o.cls≠aL∧o.cls≠.type "cell" := fun o ho=>by
 obtain ⟨o',ho',hc⟩:=r.obj
 rw [ho] at ho';cases ho'
 cases v <;> simp only [OwnR] at r
 case lst l=>obtain ⟨vs,⟨z,n,x⟩,y⟩:=r;rw [ho] at x;cases x;simp [cy,aL]
 case aQ ks xs=>obtain ⟨es,⟨z,n,x⟩,y,w,q⟩:=r;rw [ho] at x;cases x;simp [cH,aL]
theorem St.freeze {x:Str} {j:Nat} {u:V} (S:St C cx X0 Pn env aj ρ p s X) (O:bc cx) (hx:cx.vars.lookup x=some j) (hg:ay j ρ=.own u):∃ X',St C cx X0 Pn env aj (sets j ρ (.val u)) p s X'∧Kf X X' s s:=by
 obtain ⟨a,ra,hXa,hna,ho,h0,hother⟩:=S.ownAt hx hg
 have v:=S.vw
 have h16:j < 16:=mr (ρ:=ρ) (by rw [hg];simp)
 have T:Tr X s.heap (fun b=>X b∧b≠a) s.heap:=fun a o e hc hx=>⟨e,fun q=>hx q.1⟩
 have hnd:=ho.notDict
 have ne0:∀ b,X0 b→b≠a:=fun b hb e=>by subst e;obtain ⟨o,q⟩:=S.lt0 b hb;rw [h0] at q;cases q
 have self:ay j (sets j ρ (.val u))=.val u:=by rw [bO,if_pos ⟨rfl,h16⟩]
 refine ⟨fun b=>X b∧b≠a,⟨{ kind:=v.kind,code:=v.code,globals:=v.globals,builtins:=v.builtins,kinds:=v.kinds,cells:=v.cells,vars:=fun y k hy hu=>?_,own:=fun y k w hy hgk=>?_,caps:=fun y c hy hc q=>v.caps y c hy hc q.1,tab:=v.tab.mono fun c q _=>q.1,au:=v.au.tr T fun _ _ _ e _=>e,pnX:=fun b hb=>⟨v.pnX b hb,fun e=>hna (e ▸ hb)⟩,base:=v.base,lt:=fun b hb=>v.lt b hb.1,fresh:=fun b hb=>v.fresh b hb.1 },S.nx,fun b hb=>⟨S.sub b hb,ne0 b hb⟩,fun b hb=>S.new b hb.1,S.pn0,S.lt0,S.base0,S.lns,S.frm,S.efr,⟨S.lX,fun e=>?_⟩,S.l0,fun y c hk hc=>?_,S.capK,S.cinj,S.nofree,?_⟩,⟨fun b o e _ hx=>⟨e,fun q=>hx q.1⟩⟩⟩
 ·by_cases q:y=x
  ·subst q
   rw [hx] at hy;cases hy
   rw [self]
   refine ⟨.ref a,ra,OwnR.rep (ho.tr T fun o e _=>e) (fun q=>q.2 rfl),fun e=>?_⟩
   cases e
   obtain ⟨o,q1,q2⟩:=S.frm
   exact (hnd o q1).1 q2
  ·rw [dD O q hy hx] at hu ⊢
   obtain ⟨val,q1,q2,q3⟩:=v.vars y k hy hu
   refine ⟨val,q1,?_,q3⟩
   cases hgk:ay k ρ with
   | undef=>trivial
   | val w=>rw [hgk] at q2;exact RepV.tr T q2
   | own w=>rw [hgk] at q2;obtain ⟨a',e,h1,h2,h3⟩:=q2;subst e;exact ⟨a',rfl,⟨h1,hother y k w a' q hy hgk q1⟩,h2,h3.tr T fun o e _=>e⟩
   | au=>rw [hgk] at q2;exact q2
 ·by_cases q:y=x
  ·subst q
   rw [hx] at hy;cases hy
   rw [self] at hgk;cases hgk
  ·rw [dD O q hy hx] at hgk;exact v.own y k w hy hgk
 ·subst e;obtain ⟨o,q1,q2⟩:=S.frm;exact (hnd o q1).1 q2
 ·obtain ⟨q1,q2,q3⟩:=S.cellX y c hk hc
  refine ⟨q1,q2,fun q=>⟨q3 q,fun e=>?_⟩⟩
  subst e
  obtain ⟨o,w,r1,r2,_⟩:=q1
  exact (hnd o r1).2 r2
 ·obtain ⟨ad,a1,a2⟩:=S.own
  have back:∀ {y k w},cx.vars.lookup y=some k→ay k (sets j ρ (.val u))=.own w→y≠x∧ay k ρ=.own w:=fun {y k w} hy hgk=>by
   by_cases q:y=x
   ·subst q
    rw [hx] at hy;cases hy
    rw [self] at hgk;cases hgk
   ·rw [dD O q hy hx] at hgk;exact ⟨q,hgk⟩
  exact ⟨ad,fun y k w hy hgk=>a1 y k w hy (back hy hgk).2,fun y z k l w w' hy hz hg1 hg2=>a2 y z k l w w' hy hz (back hy hg1).2 (back hz hg2).2⟩
theorem St.mut {x:Str} {j:Nat} {u u':V} {a:Addr} {tk:Tok} (S:St C cx X0 Pn env aj ρ p s X) (k:aN C A s.heap) (O:bc cx) (hx:cx.vars.lookup x=some j) (hg:ay j ρ=.own u) (ra:Reads env s.heap x (.ref a)) (hs:Heap.SameBut a s.heap h') (ho':OwnR C X h' u' a):
  St C cx X0 Pn env aj (sets j ρ (.own u')) p { s with heap:=h',toks:=tk } X∧aN C A h'∧Kf X X s { s with heap:=h',toks:=tk }:=by
 obtain ⟨a',ra',hXa,hna,ho,h0,hother⟩:=S.ownAt hx hg
 cases Reads.unique ra ra'
 have v:=S.vw
 have h16:j < 16:=mr (ρ:=ρ) (by rw [hg];simp)
 have T:=bo (X:=X) hs hXa
 have hnd:=ho.notDict
 obtain ⟨m,hm⟩:=S.lns
 obtain ⟨oL,hoL,hcL⟩:=S.frm
 have hLa:env.locals≠a:=fun e=>(hnd oL (e ▸ hoL)).1 hcL
 have self:ay j (sets j ρ (.own u'))=.own u':=by rw [bO,if_pos ⟨rfl,h16⟩]
 have cell:∀ {c:Addr} {w:Value},cA s.heap c w→cA h' c w:=fun {c w} x=>by
  obtain ⟨j2,h1,hc,hd⟩:=x
  exact ⟨j2,hs.extBut c j2 (fun q=>(hnd j2 (q ▸ h1)).2 hc) h1,hc,hd⟩
 have rd:∀ {y val'},Reads env s.heap y val'→Reads env h' y val':=fun {y val'} r=>by
  unfold Reads at r ⊢
  split at r
  ·obtain ⟨m',hm',hv'⟩:=r;exact ⟨m',hm'.at' fun o e=>hs.extBut _ o hLa e,hv'⟩
  ·obtain ⟨c',q,r⟩:=r;exact ⟨c',q,cell r⟩
  ·obtain ⟨c',q,r⟩:=r;exact ⟨c',q,cell r⟩
  ·exact r.elim
 have vw:Vw C cx X Pn env (sets j ρ (.own u')) p h':=by
  refine { kind:=v.kind,code:=v.code,globals:=v.globals,builtins:=v.builtins,kinds:=v.kinds,cells:=v.cells,vars:=fun y k hy hu=>?_,own:=fun y k w hy hgk=>?_,caps:=v.caps,tab:=v.tab.but (W:=fun b=>b=a) (fun b o e q=>hs.extBut b o q e) (fun b q=>q ▸ ho.nc),au:=v.au.tr T fun b o hb e _=>hs.extBut b o (fun q=>hna (q ▸ hb)) e,pnX:=v.pnX,base:=fun b o e=>hs.extBut b o (fun q=>by subst q;rw [v.fresh _ hXa] at e;cases e) (v.base b o e),lt:=fun b hb=>?_,fresh:=v.fresh }
  ·by_cases q:y=x
   ·subst q
    rw [hx] at hy;cases hy
    rw [self]
    exact ⟨.ref a,rd ra,⟨a,rfl,hXa,hna,ho'⟩,fun e=>hLa (by cases e;rfl)⟩
   ·rw [dD O q hy hx] at hu ⊢
    obtain ⟨val,q1,q2,q3⟩:=v.vars y k hy hu
    refine ⟨val,rd q1,?_,q3⟩
    cases hgk:ay k ρ with
    | undef=>trivial
    | val w=>rw [hgk] at q2;exact RepV.tr T q2
    | own w=>rw [hgk] at q2;obtain ⟨a',e,h1,h2,h3⟩:=q2;subst e;exact ⟨a',rfl,h1,h2,h3.tr T fun o e _=>hs.extBut a' o (hother y k w a' q hy hgk q1) e⟩
    | au=>rw [hgk] at q2;exact q2
  ·by_cases q:y=x
   ·subst q
    rw [hx] at hy;cases hy
    exact v.own y j u hx hg
   ·rw [dD O q hy hx] at hgk;exact v.own y k w hy hgk
  ·obtain ⟨o,fk⟩:=v.lt b hb
   by_cases q:b=a
   ·subst q;obtain ⟨o',q',_⟩:=ho'.obj;exact ⟨o',q'⟩
   ·exact ⟨o,hs.extBut b o q fk⟩
 have hcell:∀ y,env.kindOf y=some .cell→env.cells.lookup y=some a→∃ o v,h'.get? a=some o∧o.cls=.type "cell" ∧ o.data=.cell v:=fun y hy hc=>by
  obtain ⟨⟨o,w,q1,q2,_⟩,_⟩:=S.cellX y _ hy hc
  exact absurd q2 (hnd o q1).2
 have hown:∃ ad:Str→Addr,(∀ x j1 u,cx.vars.lookup x=some j1→ay j1 (sets j ρ (.own u'))=.own u→Reads env h' x (.ref (ad x))∧aj.heap.get? (ad x)=none)∧
   ∀ x y j1 k u w,cx.vars.lookup x=some j1→cx.vars.lookup y=some k→ay j1 (sets j ρ (.own u'))=.own u→ay k (sets j ρ (.own u'))=.own w→ad x=ad y→x=y:=by
  obtain ⟨ad,a1,a2⟩:=S.own
  have back:∀ {y k w},cx.vars.lookup y=some k→ay k (sets j ρ (.own u'))=.own w→∃ w',ay k ρ=.own w':=fun {y k w} hy hgk=>by
   by_cases q:y=x
   ·subst q
    rw [hx] at hy;cases hy
    exact ⟨u,hg⟩
   ·rw [dD O q hy hx] at hgk;exact ⟨w,hgk⟩
  refine ⟨ad,fun y k w hy hgk=>?_,fun y z k l w w' hy hz hg1 hg2=>?_⟩
  ·obtain ⟨w',q⟩:=back hy hgk
   obtain ⟨r1,r2⟩:=a1 y k w' hy q
   exact ⟨rd r1,r2⟩
  ·obtain ⟨w1,q1⟩:=back hy hg1
   obtain ⟨w2,q2⟩:=back hz hg2
   exact a2 y z k l w1 w2 hy hz q1 q2
 obtain ⟨S',K⟩:=S.turned (tk:=tk) vw hs hXa h0 ho.nc ⟨m,hm.at' fun o e=>hs.extBut _ o hLa e⟩ ⟨oL,hs.extBut _ _ hLa hoL,hcL⟩ hcell hown
 exact ⟨S',k.but hs fun o e hc=>absurd hc (hnd o e).1,K⟩
def After (C:Cfg) (cx:Cx) (X0 Pn:AP) (env:Env) (aj:Shared) (A:Around) (s:Shared) (X:AP) (ρ':Fr) (p':List V) (K:AP→Shared→Prop):Prop:=
 ∀ s' X',St C cx X0 Pn env aj ρ' p' s' X'→aN C A s'.heap→Kf X X' s s'→K X' s'
structure bf (C:Cfg) (cx:Cx) (X0 Pn:AP) (env:Env) (aj:Shared) (A:Around) (r:af) (Q:Flow→Shared→Prop) (E:Value→Shared→Prop) (s:Shared) (X:AP):Prop where
 go:r≠.stuck
 next:∀ ρ' p',r=.next ρ' p'→After C cx X0 Pn env aj A s X ρ' p' fun _ s'=>Q .next s'
 brk:∀ ρ' p',r=.brk ρ' p'→After C cx X0 Pn env aj A s X ρ' p' fun _ s'=>Q .brk s'
 cont:∀ ρ' p',r=.cont ρ' p'→After C cx X0 Pn env aj A s X ρ' p' fun _ s'=>Q .cont s'
 ret:∀ v ρ' p',r=.ret v ρ' p'→After C cx X0 Pn env aj A s X ρ' p' fun X' s'=>∀ val,RepV C X' s'.heap v val→Q (.ret val) s'
 exc:∀ k ρ' p',r=.exc k ρ' p'→∀ s' X',St C cx X0 Pn env aj ρ' p' s' X'→aN C A s'.heap→∀ e,ExcAt C aj.heap true (some env.locals) k s'.heap e→E e s'
theorem After.go {K:AP→Shared→Prop} {X1:AP} {s₁:Shared} (a:After C cx X0 Pn env aj A s X ρ p K) (k:Kf X X1 s s₁):After C cx X0 Pn env aj A s₁ X1 ρ p K:=fun s' X' S q r=>a s' X' S q (k.trans r)
theorem bf.to {r:af} {X1:AP} {s₁:Shared} (N:bf C cx X0 Pn env aj A r Q E s X) (k:Kf X X1 s s₁):bf C cx X0 Pn env aj A r Q E s₁ X1:=
 ⟨N.go,fun a b e=>(N.next a b e).go k,fun a b e=>(N.brk a b e).go k,fun a b e=>(N.cont a b e).go k,fun v a b e=>(N.ret v a b e).go k,N.exc⟩
def aV (C:Cfg) (cx:Cx) (st:Stmt) (d:bb):Prop:=
 ∀ (n:Nat) (call:Call),cL C n call→∀ (X0 Pn:AP) (env:Env) (aj:Shared) (ρ:Fr) (p:List V) (s:Shared) (X:AP) (A:Around) (Q:Flow→Shared→Prop) (E:Value→Shared→Prop),
  (∃ l,A.frames=some (env::l))→St C cx X0 Pn env aj ρ p s X→aN C A s.heap→cR A n→bf C cx X0 Pn env aj A (d call ρ p) Q E s X→wpAny (model C.prog C.w) A (exec st env) Q E s
def dn (C:Cfg) (cx:Cx) (b:List Stmt) (d:bb):Prop:=
 ∀ (n:Nat) (call:Call),cL C n call→∀ (X0 Pn:AP) (env:Env) (aj:Shared) (ρ:Fr) (p:List V) (s:Shared) (X:AP) (A:Around) (Q:Flow→Shared→Prop) (E:Value→Shared→Prop),
  (∃ l,A.frames=some (env::l))→St C cx X0 Pn env aj ρ p s X→aN C A s.heap→cR A n→bf C cx X0 Pn env aj A (d call ρ p) Q E s X→wpAny (model C.prog C.w) A (execs b env) Q E s
noncomputable def Out.toS {α:Type} (o:Out α) (ρ:Fr) (K:α→List V→af):af:=match o with
 | .ok v p=>K v p
 | .stuck=>.stuck
 | .exc k p=>.exc k ρ p
theorem n7 (r:Res) (K:V→List V→af):(@Res.rec (fun _=>af) af.stuck K (fun e p=>af.exc e ρ p) r)=r.out.toS ρ K:=by cases r <;> rfl
theorem xC (r:aw) (K:List V→List V→af):(@aw.rec (fun _=>af) af.stuck K (fun e p=>af.exc e ρ p) r)=r.out.toS ρ K:=by cases r <;> rfl
theorem fQ.at {k:List Nat} {e:Value} {hs:Heap} (x:fQ C hs k h e):ExcAt C hs true (some env.locals) k h e:=by
 obtain ⟨a,oe,d,m,x,t,vs,e1,e2,e3,e4,e5,e6,e7,e8,e9,e10⟩:=x
 refine ⟨a,oe,d,m,x,t,vs,e1,e2,e3,e4,e5,e6,e7,e8,e9,.inr ?_⟩
 rcases e10 with ⟨q,_⟩ | ⟨T,oT,ts,f1,f2,f3,f4,f5,f6,f7⟩
 ·cases q
 ·refine ⟨T,oT,ts,f1,f2,f3,f4,f5,f6,.inl ?_⟩
  rcases f7 with f7 | ⟨l,q,_⟩
  ·exact f7
  ·cases q
theorem bf.o {α:Type} {o:Out α} {K:α→List V→af} {O:α→Shared→Prop} (N:bf C cx X0 Pn env aj A (o.toS ρ K) Q E s X) (S:St C cx X0 Pn env aj ρ p s X) (k:aN C A s.heap)
  (h:∀ v p₁ s₁,o=.ok v p₁→St C cx X0 Pn env aj ρ p₁ s₁ X→aN C A s₁.heap→Kf X X s s₁→Nx C Pn s s₁→bf C cx X0 Pn env aj A (K v p₁) Q E s₁ X→O v s₁):bh C X Pn o O E s:=by
 refine ⟨fun e=>N.go (by rw [e];rfl),fun v p₁ e s₁ hn hp=>?_,fun q p₁ e x s₁ hn hp hx=>?_⟩
 ·obtain ⟨S1,k₁⟩:=S.next hn hp
  subst e
  exact h v p₁ s₁ rfl S1 (k.ext hn.ext S.vw.au) k₁ hn (N.to k₁)
 ·obtain ⟨S1,k₁⟩:=S.next hn hp
  subst e
  refine N.exc q ρ p₁ rfl s₁ X S1 (k.ext hn.ext S.vw.au) x (ExcAt.back (fQ.at hx) fun b o eb=>Ext.lt S.nx.ext S.vw.au b ⟨o,eb⟩)
theorem az.st {e:Expr} {d:aq} {K:V→List V→af} {Q₁:Value→Shared→Prop} (h:az C cx b e d) (hc:cL C n call) (S:St C cx X0 Pn env aj ρ p s X) (k:aN C A s.heap) (hr:cR A n)
  (N:bf C cx X0 Pn env aj A (@Res.rec (fun _=>af) af.stuck K (fun e p=>af.exc e ρ p) (d call ρ p)) Q E s X)
  (hk:∀ v p₁ val s₁,St C cx X0 Pn env aj ρ p₁ s₁ X→aN C A s₁.heap→Kf X X s s₁→Nx C Pn s s₁→gE b C X Pn s₁.heap v val→bf C cx X0 Pn env aj A (K v p₁) Q E s₁ X→Q₁ val s₁):wpAny (model C.prog C.w) A (eval e env) Q₁ E s:=by
 rw [n7] at N
 exact h n call hc X Pn env ρ p s A Q₁ E S.vw k hr (N.o (O:=qu C b X Pn Q₁) S k fun v p₁ s₁ _ S1 k₁ kf hn N1 val hv=>hk v p₁ val s₁ S1 k₁ kf hn hv N1).e
theorem cQ.st {e:Expr} {d:aq} {K:V→List V→af} {Q₁:Bool→Shared→Prop} (h:cQ C cx e d) (hc:cL C n call) (S:St C cx X0 Pn env aj ρ p s X) (k:aN C A s.heap) (hr:cR A n)
  (N:bf C cx X0 Pn env aj A (@Res.rec (fun _=>af) af.stuck K (fun e p=>af.exc e ρ p) (d call ρ p)) Q E s X)
  (hk:∀ v p₁ s₁,St C cx X0 Pn env aj ρ p₁ s₁ X→aN C A s₁.heap→Kf X X s s₁→bf C cx X0 Pn env aj A (K v p₁) Q E s₁ X→nv Q₁ v s₁):wpAny (model C.prog C.w) A (isTrue e env (eval e env)) Q₁ E s:=by
 rw [n7] at N
 exact h n call hc X Pn env ρ p s A Q₁ E S.vw k hr (bp.o.mpr (N.o (O:=nv Q₁) S k fun v p₁ s₁ _ S1 k₁ kf _ N1=>hk v p₁ s₁ S1 k₁ kf N1))
end
structure Mk (C:Cfg) (hs:Heap) (Y:AP) (s s':Shared):Prop where
 nx:Nx C Y s s'
 ok:∀ b,Y b→hs.get? b=none∧(∃ o',s'.heap.get? b=some o'∧o'.cls≠.type "code")∧∀ o,s.heap.get? b=some o→¬bG o.cls∧o.cls≠aL
section
variable {C:Cfg} {cx:Cx} {X0 X X' Pn Y Y':AP} {env:Env} {outer:List Env} {aj s s' s'':Shared} {ρ ρ':Fr} {p p':List V} {A:Around} {M:Model} {E:Value→Shared→Prop} {h h' hs:Heap} {n:Nat} {k:List Nat}
theorem Mk.trans (a:Mk C hs Y s s') (b:Mk C hs Y' s' s''):Mk C hs (fun x=>Y x∨Y' x) s s'':=by
 refine ⟨(a.nx.grow fun _ q=>.inl q).trans (b.nx.grow fun _ q=>.inr q),fun x hx=>?_⟩
 by_cases q':Y' x
 ·obtain ⟨h1,h2,h3⟩:=b.ok x q'
  refine ⟨h1,h2,fun o e=>?_⟩
  by_cases q:Y x
  ·exact (a.ok x q).2.2 o e
  ·obtain ⟨o',e',hc,_⟩:=a.nx.ext.data x o e q
   have:=h3 o' e'
   rw [hc] at this;exact this
 ·have q:=hx.resolve_right q'
  obtain ⟨h1,⟨o',e',hc'⟩,h3⟩:=a.ok x q
  obtain ⟨o'',e'',hc'',_⟩:=b.nx.ext.data x o' e' q'
  exact ⟨h1,⟨o'',e'',by rw [hc''];exact hc'⟩,h3⟩
theorem Mk.refl (hb:Base C s.heap):Mk C hs (fun _=>False) s s:=⟨.refl hb,fun _ q=>q.elim⟩
theorem Frames.mem:∀ {l:List Env},Frames C h l→∀ b,b∈l.filterMap (·.frame)→C.h₀.get? b=none∧∃ o,h.get? b=some o∧o.cls=aL
 | [],_,_,hb=>by simp at hb
 | env::r,⟨hk,⟨L,o,es,ep,hf,hn,ho,hc,hd⟩,hr⟩,b,hb=>by
  rw [List.filterMap_cons,hf] at hb
  rcases List.mem_cons.mp hb with e | hb
  ·subst e;exact ⟨hn,o,ho,hc⟩
  ·exact Frames.mem hr b hb
theorem Frames.fun:∀ {l:List Env},Frames C h l→h.FunFrames C.h₀ l
 | [],_=>trivial
 | env::r,⟨hk,⟨L,o,es,ep,hf,hn,ho,hc,hd⟩,hr⟩=>⟨hk,⟨L,o,hf,hn,ho,fun vs q=>by rw [hd] at q;cases q⟩,hr.fun⟩
theorem tH {l:List Env} (hF:Frames C s.heap l) (hb:Base C s.heap) (hs:Heap.SlotsOnly (l.filterMap (·.frame)) s.heap h'):Nx C (fun _=>False) s { s with heap:=h' }:=by
 refine ⟨⟨fun b o e=>?_,fun b o e _ hc=>?_,fun b o e _=>?_,fun X x=>x.but (W:=fun b=>b∈l.filterMap (·.frame)) (fun b o e q=>(hs.2.1 b q).trans e) (fun b q=>?_) fun b q=>.inl q.1⟩,rfl,rfl⟩
 ·exact (hs.2.1 b fun q=>by rw [(hF.mem b q).1] at e;cases e).trans (hb b o e)
 ·exact (hs.2.1 b fun q=>by obtain ⟨_,o',e',hc'⟩:=hF.mem b q;rw [e] at e';cases e';exact hc.1 hc').trans e
 ·obtain ⟨sl,e'⟩:=hs.2.2 b o e;exact ⟨_,e',rfl,.inr rfl⟩
 ·obtain ⟨_,o',e',hc'⟩:=hF.mem b q;exact .gZ e' hc' (by decide)
theorem Frames.mk {Y:AP} (m:Mk C hs Y s s') {l:List Env} (hF:Frames C s.heap l):Frames C s'.heap l:=
 hF.ext2 m.nx.ext fun e he F hf hy=>by obtain ⟨o,ho,hc⟩:=hF.cls e he F hf;exact ((m.ok F hy).2.2 o ho).2 hc
theorem aN.mk {Y:AP} (m:Mk C hs Y s s') (k:aN C A s.heap):aN C A s'.heap:=let ⟨l,a,b⟩:=k;⟨l,a,b.mk m⟩
theorem lM {b:Addr} {o:Obj} {n:String} (hb:Base C s.heap) (h0:hs.get? b=none) (hB:Base C hs) (he:s.heap.get? b=some o) (hc:(∃ q,o.cls=.ref q)∨(o.cls=.type n∧¬bG (.type n)∧n ≠ "frame" ∧ n ≠ "code")) {f:Obj→Obj} (hf:(f o).isFreed=false) (hfc:(f o).cls=o.cls):
  Mk C hs (fun x=>x=b) s { s with heap:=s.heap.update b f }:=by
 have hC:C.h₀.get? b=none:=by
  cases q:C.h₀.get? b with
  | none=>rfl
  | some o=>have:=hB b o q;rw [h0] at this;cases this
 have hs':Heap.SameBut b s.heap (s.heap.update b f):=Heap.SameBut.update ..
 have keep:∀ x o,s.heap.get? x=some o→¬x=b→(s.heap.update b f).get? x=some o:=fun x o e q=>hs'.extBut x o q e
 have hnc:NC s.heap b:=fun o' e'=>by
  rw [he] at e';cases e'
  rcases hc with ⟨q,e⟩ | ⟨e,_,_,e'⟩
  ·exact .inl ⟨by rw [e];simp,by rw [e];simp⟩
  ·exact .inl ⟨by rw [e];exact fun q=>by cases q;exact e' rfl,by rw [e];simp⟩
 have hcode:o.cls≠.type "code" := fun q=>by
  rcases hc with ⟨q',e⟩ | ⟨e,_,_,e'⟩
  ·rw [q] at e;cases e
  ·rw [q] at e;cases e;exact e' rfl
 refine ⟨⟨⟨fun x o e=>hs'.extBut x o (fun q=>by subst q;rw [hC] at e;cases e) (hb x o e),fun x o e q _=>keep x o e q,fun x o e q=>⟨o,keep x o e q,rfl,.inr rfl⟩,fun X t=>?_⟩,rfl,rfl⟩,fun x q=>?_⟩
 ·exact t.but (W:=fun x=>x=b) (fun x o e q=>keep x o e q) (fun x q=>q ▸ hnc) fun x q=>.inl q.1
 ·subst q
  refine ⟨h0,⟨_,Heap.get?_update_self _ he hf,by rw [hfc];exact hcode⟩,fun o' e'=>?_⟩
  rw [he] at e';cases e'
  rcases hc with ⟨q,e⟩ | ⟨e,e1,e2,_⟩
  ·rw [e];simp [bG,aL]
  ·rw [e];exact ⟨e1,fun q=>by unfold aL at q;cases q;exact e2 rfl⟩
theorem push_mk (hb:Base C s.heap) (o:Obj):Mk C hs (fun _=>False) s { s with heap:=s.heap.push o }:=⟨⟨.push hb o,rfl,rfl⟩,fun _ q=>q.elim⟩
theorem ny:¬bG (.type "traceback"):=by simp [bG]
theorem sY {L a:Addr} {oe:Obj} {vs:Array Value} {head:Value} {hadNext:Bool} {Q:Unit→Shared→Prop} (hA:A.frames=some (env::outer)) (hF:Frames C s.heap (env::outer)) (hf:env.frame=some L) (hb:Base C s.heap) (hB:Base C hs) (hsub:∀ b,(∃ o,hs.get? b=some o)→∃ o,s.heap.get? b=some o)
  (hcls:∃ q,C.cls=.ref q) (he:s.heap.get? a=some oe) (hc:oe.cls=C.cls) (h0:hs.get? a=none) (hd:oe.data=.fields vs) (hsz:1 < vs.size)
  (hQ:∀ s' Y T pl,Mk C hs Y s s'→s'.heap.get? a=some (oe.mapFields (·.setIfInBounds 1 (.ref T)))→hs.get? T=none→T≠a→IsPlace pl→s'.heap.get? T=some { cls:=.type "traceback",dict:=none,data:=.fields ([head,.ref L,.none,rawInt L,.none]++(if pl.isEmpty then List.replicate 6 Value.none else pl)).toArray }→
   (∀ b o,s.heap.get? b=some o→b≠a→(∀ vs,o.data≠.fields vs)→∃ sl,s'.heap.get? b=some { o with slots:=sl })→Q () s'):
  wpAny M A (do setField (.ref a) 1 (← EntryCells.newEntry head (← frameOf env) .none (rawInt L) .none (← entryPlaceOf L hadNext))) Q E s:=by
 obtain ⟨q,hq⟩:=hcls
 have hal:a∉(env::outer).filterMap (·.frame):=fun hm=>by
  obtain ⟨_,o,ho,hcf⟩:=hF.mem a hm
  rw [he] at ho;cases ho;rw [hc,hq] at hcf;cases hcf
 refine wpAny_bind (wpAny_frameOf_fun hA hF.fun hf fun aG cB=>?_)
 refine wpAny_bind (wpAny_entryPlaceOf fun pl hpl=>?_)
 unfold EntryCells.newEntry newFields
 refine wpAny_bind (wpAny_newObj_type ?_ (hpl.sizeOk5 _ _ _ _ _))
 have m₁:Mk C hs (fun _=>False) s { s with heap:=aG }:=⟨tH hF hb cB,fun _ q=>q.elim⟩
 have m₂:=push_mk (hs:=hs) (s:={ s with heap:=aG }) m₁.nx.ext.base { cls:=.type "traceback",dict:=none,data:=.fields ([head,.ref L,.none,rawInt L,.none]++(if pl.isEmpty then List.replicate 6 Value.none else pl)).toArray }
 have he1:aG.get? a=some oe:=(cB.2.1 a hal).trans he
 have he2:=Heap.get?_push_of_some (h:=aG) { cls:=.type "traceback",dict:=none,data:=.fields ([head,.ref L,.none,rawInt L,.none]++(if pl.isEmpty then List.replicate 6 Value.none else pl)).toArray } he1
 refine wpAny_setField he2 hd hsz ?_
 have hd3:=Obj.data_mapFields hd (·.setIfInBounds 1 (Value.ref aG.objs.size))
 have tZ:=lM (n := "") (s:={ s with heap:=aG.push { cls:=.type "traceback",dict:=none,data:=.fields ([head,.ref L,.none,rawInt L,.none]++(if pl.isEmpty then List.replicate 6 Value.none else pl)).toArray } }) m₂.nx.ext.base h0 hB he2 (.inl ⟨q,hc.trans hq⟩) (f:=Obj.mapFields (·.setIfInBounds 1 (Value.ref aG.objs.size))) (Obj.isFreed_of_fields hd3) (Obj.cls_mapFields _ _)
 have hTa:aG.objs.size≠a:=Nat.ne_of_gt (Heap.lt_size he1)
 refine hQ _ _ aG.objs.size pl ((m₁.trans m₂).trans tZ) (Heap.get?_update_self _ he2 (Obj.isFreed_of_fields hd3)) ?_ hTa hpl ?_ fun b o eb hba hnf=>?_
 ·cases e:hs.get? aG.objs.size with
  | none=>rfl
  | some o=>
   obtain ⟨o',e'⟩:=hsub _ ⟨o,e⟩
   have:=Heap.lt_size e'
   rw [← cB.1] at this
   exact absurd this (Nat.lt_irrefl _)
 ·exact (Heap.get?_update_other _ _ (Ne.symm hTa)).trans (Heap.get?_push_size aG rfl)
 ·obtain ⟨sl,e'⟩:=cB.2.2 b o eb
  exact ⟨sl,(Heap.get?_update_other _ _ (Ne.symm hba)).trans (Heap.get?_push_of_some _ e')⟩
end
section
variable {C:Cfg} {cx:Cx} {X0 X X' Pn Y Y':AP} {env:Env} {outer:List Env} {aj s s' s'':Shared} {ρ ρ':Fr} {p p':List V} {A:Around} {M:Model} {E:Value→Shared→Prop} {h h' hs:Heap} {n:Nat} {k:List Nat}
theorem Ao {d:Addr} {m:Str→Option Value} (x:h.Ns d m) (hk:∀ o,h.get? d=some o→(∀ vs,o.data≠.fields vs)→∃ sl,h'.get? d=some { o with slots:=sl }):h'.Ns d m:=by
 obtain ⟨o,es,ep,ho,hd,r⟩:=x
 obtain ⟨sl,e⟩:=hk o ho fun vs q=>by rw [hd] at q;cases q
 exact ⟨_,es,ep,e,hd,r⟩
theorem lE {L:Addr} {e:Value} {fr:Bool} {Q:Unit→Shared→Prop} (hA:A.frames=some (env::outer)) (hF:Frames C s.heap (env::outer)) (hf:env.frame=some L) (hb:Base C s.heap) (hB:Base C hs) (hsub:∀ b,(∃ o,hs.get? b=some o)→∃ o,s.heap.get? b=some o)
  (hcls:∃ q,C.cls=.ref q) (x:ExcAt C hs fr (some L) k s.heap e) (hQ:∀ s' Y,Mk C hs Y s s'→ExcAt C hs false (some L) k s'.heap e→Q () s'):wpAny M A (noteFrame e env) Q E s:=by
 obtain ⟨a,oe,d,m,w,t,vs,rfl,e2,e3,e4,e5,e6,e7,e8,e9,e10⟩:=x
 have key:∀ {s₁:Shared} {Y1:AP} {head:Value} {hn:Bool},Mk C hs Y1 s s₁→Frames C s₁.heap (env::outer)→s₁.heap.get? a=some oe→s₁.heap.Ns d m→1 < vs.size→(∀ b,(∃ o,hs.get? b=some o)→∃ o,s₁.heap.get? b=some o)→
   wpAny M A (do setField (.ref a) 1 (← EntryCells.newEntry head (← frameOf env) .none (rawInt L) .none (← entryPlaceOf L hn))) Q E s₁:=fun {s₁ Y1 head hn} m₁ hF1 he1 hd1 hsz hsub1=>by
  refine sY hA hF1 hf m₁.nx.ext.base hB hsub1 hcls he1 e3 e8.1 e9 hsz fun s' Y T pl mk he' hT hTa hpl hTo hkeep=>hQ s' _ (m₁.trans mk) ?_
  refine ⟨a,_,d,m,w,t,_,rfl,he',(Obj.cls_mapFields _ _).trans e3,(by rw [← e4];unfold Obj.mapFields;split <;> rfl),Ao hd1 fun o ho hnf=>hkeep d o ho (fun q=>by subst q;rw [he1] at ho;cases ho;exact hnf vs e9) hnf,e6,e7,e8,Obj.data_mapFields e9 _,.inr ⟨T,_,_,by simp [hsz],hT,hTa,hTo,rfl,rfl,.inr ⟨L,rfl,by rcases hpl with rfl | ⟨_,_,_,_,_,_,_,rfl⟩ <;> simp⟩⟩⟩
 unfold noteFrame
 simp only [hf]
 rcases e10 with ⟨_,e10⟩ | ⟨T,oT,ts,f1,f2,f3,f4,f5,f6,f7⟩
 ·refine wpAny_bind (wpAny_field e2 e9 e10 ?_)
  rw [if_neg (by decide)]
  exact key (.refl hb) hF e2 e5 (Array.getElem?_eq_some_iff.mp e10).1 hsub
 ·refine wpAny_bind (wpAny_field e2 e9 f1 ?_)
  rw [if_pos (show (Value.ref T !=Value.none)=true from by simp)]
  rcases f7 with f7 | ⟨l,hl,f7⟩
  ·refine wpAny_bind (wpAny_field f4 f6 f7 ?_)
   rw [if_neg (show ¬((Value.none==rawInt L)=true) from by simp [rawInt])]
   refine wpAny_bind (wpAny_setField f4 f6 (Array.getElem?_eq_some_iff.mp f7).1 ?_)
   have hd3:=Obj.data_mapFields f6 (·.setIfInBounds 3 Value.none)
   have m₁:=lM hb f2 hB f4 (.inr ⟨f5,ny,by decide,by decide⟩) (f:=Obj.mapFields (·.setIfInBounds 3 Value.none)) (Obj.isFreed_of_fields hd3) (Obj.cls_mapFields _ _)
   have other:∀ b,b≠T→(s.heap.update T (Obj.mapFields (·.setIfInBounds 3 Value.none))).get? b=s.heap.get? b:=fun b hb=>Heap.get?_update_other _ _ (Ne.symm hb)
   refine key m₁ (hF.mk m₁) ((other a (Ne.symm f3)).trans e2) (e5.at' fun o ho=>(other d fun q=>?_).trans ho) (Array.getElem?_eq_some_iff.mp f1).1 fun b q=>?_
   ·obtain ⟨o',es,ep,ho',hd',_⟩:=e5
    subst q;rw [f4] at ho';cases ho';rw [f6] at hd';cases hd'
   ·obtain ⟨o,ho⟩:=hsub b q
    by_cases q':b=T
    ·subst q';exact ⟨_,Heap.get?_update_self _ f4 (Obj.isFreed_of_fields hd3)⟩
    ·exact ⟨o,(other b q').trans ho⟩
  ·cases hl
   refine wpAny_bind (wpAny_field f4 f6 f7 ?_)
   rw [if_pos (show (rawInt L==rawInt L)=true from by simp)]
   exact wpAny_pure (hQ s _ (.refl hb) ⟨a,oe,d,m,w,t,vs,rfl,e2,e3,e4,e5,e6,e7,e8,e9,.inr ⟨T,oT,ts,f1,f2,f3,f4,f5,f6,.inr ⟨L,rfl,f7⟩⟩⟩)
theorem gL {e:Value} {l l':Option Addr} {Q:Unit→Shared→Prop} (hb:Base C s.heap) (hB:Base C hs) (x:ExcAt C hs false l k s.heap e) (hQ:∀ s' Y,Mk C hs Y s s'→ExcAt C hs false l' k s'.heap e→Q () s'):wpAny M A (setFlight e l') Q E s:=by
 obtain ⟨a,oe,d,m,w,t,vs,rfl,e2,e3,e4,e5,e6,e7,e8,e9,e10⟩:=x
 rcases e10 with ⟨q,_⟩ | ⟨T,oT,ts,f1,f2,f3,f4,f5,f6,f7⟩
 ·cases q
 ·have hsz:3 < ts.size:=by rcases f7 with f7 | ⟨_,_,f7⟩ <;> exact (Array.getElem?_eq_some_iff.mp f7).1
  unfold setFlight
  refine wpAny_bind (wpAny_field e2 e9 f1 ?_)
  rw [if_pos (show (Value.ref T !=Value.none)=true from by simp)]
  refine wpAny_setField f4 f6 hsz ?_
  have hd3:=Obj.data_mapFields f6 (·.setIfInBounds 3 (l'.elim Value.none fun f=>rawInt f))
  have m₁:=lM hb f2 hB f4 (.inr ⟨f5,ny,by decide,by decide⟩) (f:=Obj.mapFields (·.setIfInBounds 3 (l'.elim Value.none fun f=>rawInt f))) (Obj.isFreed_of_fields hd3) (Obj.cls_mapFields _ _)
  have other:∀ b,b≠T→(s.heap.update T (Obj.mapFields (·.setIfInBounds 3 (l'.elim Value.none fun f=>rawInt f)))).get? b=s.heap.get? b:=fun b hb=>Heap.get?_update_other _ _ (Ne.symm hb)
  refine hQ _ _ m₁ ⟨a,oe,d,m,w,t,vs,rfl,(other a (Ne.symm f3)).trans e2,e3,e4,e5.at' fun o ho=>(other d fun q=>?_).trans ho,e6,e7,e8,e9,.inr ⟨T,_,_,f1,f2,f3,Heap.get?_update_self _ f4 (Obj.isFreed_of_fields hd3),(Obj.cls_mapFields _ _).trans f5,hd3,?_⟩⟩
  ·obtain ⟨o',es,ep,ho',hd',_⟩:=e5
   subst q;rw [f4] at ho';cases ho';rw [f6] at hd';cases hd'
  ·cases l' with
   | none=>exact .inl (by simp [hsz])
   | some f=>exact .inr ⟨f,rfl,by simp [hsz]⟩
theorem kQ {L:Addr} {e:Value} {fr:Bool} {Q:Unit→Shared→Prop} (hA:A.frames=some (env::outer)) (hF:Frames C s.heap (env::outer)) (hf:env.frame=some L) (hb:Base C s.heap) (hB:Base C hs) (hsub:∀ b,(∃ o,hs.get? b=some o)→∃ o,s.heap.get? b=some o)
  (hcls:∃ q,C.cls=.ref q) (x:ExcAt C hs fr (some L) k s.heap e) (hQ:∀ s' Y,Mk C hs Y s s'→fQ C hs k s'.heap e→Q () s'):wpAny M A (leaving env e) Q E s:=
 wpAny_bind (lE hA hF hf hb hB hsub hcls x fun s₁ Y1 m₁ x1=>gL m₁.nx.ext.base hB x1 fun s₂ yB m₂ x2=>hQ s₂ _ (m₁.trans m₂) x2)
theorem St.mS (S:St C cx X0 Pn env aj ρ p s X) (mnx:Nx C Y s s') (m0:∀ b,Y b→aj.heap.get? b=none) (mc:∀ b,Y b→∀ o,s.heap.get? b=some o→¬bG o.cls∧o.cls≠aL) (mlt:∀ b,X b→∃ o,s'.heap.get? b=some o) (mcode:∀ b,Y b→X b→∀ o,s'.heap.get? b=some o→o.cls≠.type "code"):St C cx X0 Pn env aj ρ p s' X:=by
 have v:=S.vw
 have nr:∀ {b o},s.heap.get? b=some o→bG o.cls∨o.cls=aL→¬Y b:=fun {b o} e hc q=>hc.elim (mc b q o e).1 (mc b q o e).2
 have keep:∀ {b o},s.heap.get? b=some o→bG o.cls→s'.heap.get? b=some o:=fun {b o} e hc=>mnx.ext.keep b o e (nr e (.inl hc)) hc.ne
 have T:Tr X s.heap X s'.heap:=fun a o e hc hx=>⟨keep e hc,hx⟩
 have cell:∀ {c:Addr} {w:Value},cA s.heap c w→cA s'.heap c w:=fun {c w} ⟨o,h1,h2,h3⟩=>⟨o,keep h1 (by rw [h2];exact .inr (.inr (.inr (.inr rfl)))),h2,h3⟩
 obtain ⟨mL,hm⟩:=S.lns
 obtain ⟨oL,hoL,hcL⟩:=S.frm
 have hY:¬Y env.locals:=nr hoL (.inr hcL)
 have ns:∀ {m'},s.heap.Ns env.locals m'→s'.heap.Ns env.locals m':=fun x=>mE mnx.ext hY x
 have rd:∀ {y val'},Reads env s.heap y val'→Reads env s'.heap y val':=fun {y val'} r=>by
  unfold Reads at r ⊢
  split at r
  ·obtain ⟨m',hm',hv'⟩:=r;exact ⟨m',ns hm',hv'⟩
  ·obtain ⟨c',q,r⟩:=r;exact ⟨c',q,cell r⟩
  ·obtain ⟨c',q,r⟩:=r;exact ⟨c',q,cell r⟩
  ·exact r.elim
 refine ⟨{ kind:=v.kind,code:=v.code,globals:=v.globals,builtins:=v.builtins,kinds:=v.kinds,cells:=v.cells,vars:=fun x j hx hu=>?_,own:=v.own,caps:=v.caps,tab:=(mnx.ext.tab X v.tab).mono fun c q y=>⟨q,fun hy=>by obtain ⟨_,o,_,_,q1,q2,_⟩:=y;exact mcode c hy q o q1 q2,v.lt c q⟩,au:=⟨v.au.one,fun P hP=>?_⟩,pnX:=v.pnX,base:=mnx.ext.base,lt:=mlt,fresh:=v.fresh },
  ((S.nx.grow (Y:=fun b=>Pn b∨Y b) fun _ q=>.inl q).trans (mnx.grow fun _ q=>.inr q)).shrink fun b hb=>hb.elim .inl fun q=>.inr (m0 b q),S.sub,S.new,S.pn0,S.lt0,S.base0,⟨mL,ns hm⟩,?_,S.efr,S.lX,S.l0,fun x c hk hc=>?_,S.capK,S.cinj,S.nofree,?_⟩
 ·obtain ⟨val,q1,q2,q3⟩:=v.vars x j hx hu
  refine ⟨val,rd q1,?_,q3⟩
  cases hg:ay j ρ with
  | undef=>trivial
  | val w=>rw [hg] at q2;exact RepV.tr T q2
  | own w=>
   rw [hg] at q2
   obtain ⟨a,e,h1,h2,h3⟩:=q2
   refine ⟨a,e,h1,h2,h3.tr T fun o ho _=>?_⟩
   obtain ⟨o',ho',hc'⟩:=h3.obj
   rw [ho] at ho';cases ho'
   exact keep ho hc'
  | au=>rw [hg] at q2;exact q2
 ·obtain ⟨vs,⟨z,n,q⟩,r⟩:=v.au.at_ P hP
  exact ⟨vs,⟨z,n,keep q (.inr (.inl rfl))⟩,r.tr T⟩
 ·obtain ⟨o',ho',hc',_⟩:=mnx.ext.data _ oL hoL hY
  exact ⟨o',ho',hc'.trans hcL⟩
 ·obtain ⟨⟨o,w,ho,hcl,hd⟩,r⟩:=S.cellX x c hk hc
  exact ⟨⟨o,w,keep ho (by rw [hcl];exact .inr (.inr (.inr (.inr rfl)))),hcl,hd⟩,r⟩
 ·obtain ⟨ad,a1,a2⟩:=S.own
  exact ⟨ad,fun x j u hx hg=>let ⟨q1,q2⟩:=a1 x j u hx hg;⟨rd q1,q2⟩,a2⟩
theorem St.marked (S:St C cx X0 Pn env aj ρ p s X) (m:Mk C aj.heap Y s s'):St C cx X0 Pn env aj ρ p s' X:=
 S.mS m.nx (fun b q=>(m.ok b q).1) (fun b q=>(m.ok b q).2.2) (mcode:=fun b q _ o e=>by obtain ⟨o',e',h⟩:=(m.ok b q).2.1;rw [e] at e';cases e';exact h) fun b hb=>by
  obtain ⟨o,e⟩:=S.vw.lt b hb
  by_cases q:Y b
  ·obtain ⟨o',e',_⟩:=(m.ok b q).2.1;exact ⟨o',e'⟩
  ·obtain ⟨o',e',_⟩:=m.nx.ext.data b o e q;exact ⟨o',e'⟩
theorem St.has (S:St C cx X0 Pn env aj ρ p s X):∀ b,(∃ o,aj.heap.get? b=some o)→∃ o,s.heap.get? b=some o:=fun b q=>Ext.lt S.nx.ext S.vw.au b q
end
section
variable {C:Cfg} {cx:Cx} {X0 X X' Pn:AP} {env:Env} {aj s s' s'':Shared} {ρ ρ':Fr} {p p':List V} {A:Around} {Q:Flow→Shared→Prop} {E:Value→Shared→Prop} {h h':Heap} {n:Nat} {call:Call} {b:Bool}
theorem aV.BZ {st:Stmt} {d:bb} {j:Nat} (h:aV C cx st d) (O:bc cx) (hx:∃ x,cx.vars.lookup x=some j):aV C cx st (ag (bV (ay j) (sets j)) d):=by
 intro n call hc X0 Pn env aj ρ p s X A Q E hA S k hr N
 obtain ⟨x,hx⟩:=hx
 have e:ag (bV (ay j) (sets j)) d call ρ p=d call (match ay j ρ with | .own v=>sets j ρ (.val v) | _=>ρ) p:=by
  unfold ag bV
  cases ay j ρ <;> rfl
 rw [e] at N
 cases hg:ay j ρ with
 | own v=>
  rw [hg] at N
  obtain ⟨X',S',kf⟩:=S.freeze O hx hg
  exact h n call hc X0 Pn env aj _ p s X' A Q E hA S' k hr (N.to kf)
 | undef=>rw [hg] at N;exact h n call hc X0 Pn env aj ρ p s X A Q E hA S k hr N
 | val v=>rw [hg] at N;exact h n call hc X0 Pn env aj ρ p s X A Q E hA S k hr N
 | au=>rw [hg] at N;exact h n call hc X0 Pn env aj ρ p s X A Q E hA S k hr N
theorem aV.bP {st:Stmt} {d:bb} {js:List Nat} (h:aV C cx st d) (O:bc cx):aV C cx st (bP cx js d):=by
 unfold Mine.bP
 generalize hl:(js.eraseDups.filter fun j=>cx.muts.any fun x=>cx.vars.lookup x==some j)=l
 have key:∀ j∈l,∃ x,cx.vars.lookup x=some j:=fun j hj=>by
  subst hl
  obtain ⟨_,q⟩:=List.mem_filter.mp hj
  obtain ⟨x,_,q⟩:=List.any_eq_true.mp q
  exact ⟨x,by simpa using q⟩
 clear hl
 induction l with
 | nil=>exact h
 | cons j l ih=>exact (ih fun j' hj'=>key j' (List.mem_cons_of_mem _ hj')).BZ O (key j List.mem_cons_self)
theorem bf.cc (N:bf C cx X0 Pn env aj A (.next ρ' p') Q E s X) (S:St C cx X0 Pn env aj ρ' p' s' X') (k:aN C A s'.heap) (kf:Kf X X' s s'):Q .next s':=N.next ρ' p' rfl s' X' S k kf
theorem dn.nil:dn C cx [] aB:=by
 intro n call hc X0 Pn env aj ρ p s X A Q E hA S k hr N
 exact wpAny_execs_nil (N.cc S k .refl)
theorem dn.cons {st:Stmt} {rest:List Stmt} {d e:bb} (h:aV C cx st d) (hr:dn C cx rest e):dn C cx (st::rest) (ag d e):=by
 intro n call hc X0 Pn env aj ρ p s X A Q E hA S k hrm N
 refine wpAny_execs_cons (h n call hc X0 Pn env aj ρ p s X A _ E hA S k hrm ?_)
 have eq:ag d e call ρ p=@af.rec (fun _=>af) af.stuck (e call) af.brk af.cont af.ret af.exc (d call ρ p):=rfl
 rw [eq] at N
 cases hd:d call ρ p with
 | stuck=>rw [hd] at N;exact absurd rfl N.go
 | next ρ1 p₁=>
  rw [hd] at N
  exact ⟨by simp,fun _ _ q s₁ X1 S1 k₁ kf=>by cases q;exact hr n call hc X0 Pn env aj ρ1 p₁ s₁ X1 A Q E hA S1 k₁ hrm (N.to kf),(fun _ _ q=>nomatch q),(fun _ _ q=>nomatch q),(fun _ _ _ q=>nomatch q),(fun _ _ _ q=>nomatch q)⟩
 | brk ρ1 p₁=>
  rw [hd] at N
  exact ⟨by simp,(fun _ _ q=>nomatch q),(fun _ _ q=>N.brk _ _ (by cases q;rfl)),(fun _ _ q=>nomatch q),(fun _ _ _ q=>nomatch q),(fun _ _ _ q=>nomatch q)⟩
 | cont ρ1 p₁=>
  rw [hd] at N
  exact ⟨by simp,(fun _ _ q=>nomatch q),(fun _ _ q=>nomatch q),(fun _ _ q=>N.cont _ _ (by cases q;rfl)),(fun _ _ _ q=>nomatch q),(fun _ _ _ q=>nomatch q)⟩
 | ret v ρ1 p₁=>
  rw [hd] at N
  exact ⟨by simp,(fun _ _ q=>nomatch q),(fun _ _ q=>nomatch q),(fun _ _ q=>nomatch q),(fun _ _ _ q=>N.ret _ _ _ (by cases q;rfl)),(fun _ _ _ q=>nomatch q)⟩
 | exc v ρ1 p₁=>
  rw [hd] at N
  exact ⟨by simp,(fun _ _ q=>nomatch q),(fun _ _ q=>nomatch q),(fun _ _ q=>nomatch q),(fun _ _ _ q=>nomatch q),fun _ _ _ q=>N.exc _ _ _ (by cases q;rfl)⟩
theorem dn.one {st:Stmt} {d:bb} (h:aV C cx st d):dn C cx [st] d:=by
 intro n call hc X0 Pn env aj ρ p s X A Q E hA S k hrm N
 refine wpAny_execs_cons (wpAny_mono (h n call hc X0 Pn env aj ρ p s X A Q E hA S k hrm N) (fun f s₁ q=>?_) fun _ _ q=>q)
 cases f <;> first | exact q | exact wpAny_execs_nil q
theorem nu {v:V} {x y:af} (h:(@V.rec (fun _=>af) (fun _=>Unit) af.stuck (fun q=>@Bool.rec (fun _=>af) y x q) (fun _=>af.stuck) (fun _=>af.stuck) (fun _ _=>af.stuck) (fun _ _=>af.stuck) (fun _ _ _ _=>af.stuck) (fun _ _ _=>af.stuck) () (fun _ _ _ _=>()) v)≠.stuck):
  ∃ q,v=.bool q:=by
 cases v with
 | bool q=>exact ⟨q,rfl⟩
 | _=>exact absurd rfl h
theorem aV.BY {t:Expr} {a b:List Stmt} {pos:Pos} {dt:aq} {da db:bb} (ht:cQ C cx t dt) (ha:dn C cx a da) (hb:dn C cx b db):aV C cx (.If t a b pos) (aE dt da db):=by
 intro n call hc X0 Pn env aj ρ p s X A Q E hA S k hrm N
 refine wpAny_If (ht.st hc S k hrm N fun v p₁ s₁ S1 k₁ kf N1=>?_)
 obtain ⟨q,rfl⟩:=nu N1.go
 refine ⟨q,rfl,?_⟩
 cases q with
 | true=>exact ha n call hc X0 Pn env aj ρ p₁ s₁ X A Q E hA S1 k₁ hrm N1
 | false=>exact hb n call hc X0 Pn env aj ρ p₁ s₁ X A Q E hA S1 k₁ hrm N1
theorem aV.ret {e:Expr} {pos:Pos} {d:aq} (h:az C cx false e d):aV C cx (.Return (some e) pos) (ai d):=by
 intro n call hc X0 Pn env aj ρ p s X A Q E hA S k hrm N
 exact wpAny_Return_some (h.st hc S k hrm N fun v p₁ val s₁ S1 k₁ kf _ hv N1=>N1.ret v ρ p₁ rfl s₁ X S1 k₁ .refl val hv)
theorem aV.cont {pos:Pos}:aV C cx (.Continue pos) rq:=by
 intro n call hc X0 Pn env aj ρ p s X A Q E hA S k hrm N
 exact wpAny_Continue (N.cont ρ p rfl s X S k .refl)
theorem St.eM (S:St C cx X0 Pn env aj ρ p s X):interactive env=false:=by unfold interactive;rw [S.vw.kind];rfl
theorem aV.expr {f:Expr} {args:List Expr} {kws:List Keyword} {cp pos:Pos} {d:aq} (h:az C cx false (.Call f args kws cp) d):aV C cx (.Expr (.Call f args kws cp) pos) (rn d):=by
 intro n call hc X0 Pn env aj ρ p s X A Q E hA S k hrm N
 exact wpAny_Expr_any (h.st hc S k hrm N fun v p₁ val s₁ S1 k₁ kf _ hv N1=>N1.cc S1 k₁ .refl) S.eM
theorem eZ {e:Expr} {t:Option Expr} {l:Nat} (h:notComp e=true):swapsWith e t l env=pure false:=by
 cases e <;> first | rfl | cases h
theorem aV.set {x:Str} {px pos:Pos} {e:Expr} {d:aq} {j:Nat} (h:az C cx false e d) (O:bc cx) (ht:cq cx x=some j) (hn:notComp e=true):aV C cx (.Assign [.Name x px] e pos) (aA (sets j) d):=by
 intro n call hc X0 Pn env aj ρ p s X A Q E hA S k hrm N
 exact wpAny_Assign_Name (h.st hc S k hrm N fun v p₁ val s₁ S1 k₁ kf _ hv N1=>S1.store O k₁ ht (sl:=.val v) hv (RepV.fE S1.loc hv) (fun _ q=>nomatch q) fun s₂ S2 k₂ kf2 _=>N1.cc S2 k₂ kf2) (eZ hn)
def Xa (X:AP) (a:Addr):AP:=fun b=>X b∨b=a
def gC (C:Cfg) (cx:Cx) (e:Expr) (d:aq):Prop:=
 ∀ (n:Nat) (call:Call),cL C n call→∀ (X Pn:AP) (env:Env) (ρ:Fr) (p:List V) (s:Shared) (A:Around) (Q E:Value→Shared→Prop),
  Vw C cx X Pn env ρ p s.heap→aN C A s.heap→cR A n→
  bh C X Pn (d call ρ p).out (fun v s₁=>∀ s' a,Kp s₁ s'→s₁.heap.get? a=none→OwnR C (Xa X a) s'.heap v a→Q (.ref a) s') E s→wpAny (model C.prog C.w) A (eval e env) Q E s
theorem St.xB (S:St C cx X0 Pn env aj ρ p s X) {a:Addr} (ha:s.heap.get? a=none):∀ y k w b,cx.vars.lookup y=some k→ay k ρ=.own w→Reads env s.heap y (.ref b)→b≠a:=fun y k w b hy hg hb e=>by
 subst e
 obtain ⟨a',ra,_,_,ho,_⟩:=S.ownAt hy hg
 cases Reads.unique ra hb
 obtain ⟨o,ho',_⟩:=ho.obj
 rw [ha] at ho';cases ho'
theorem St.xo {a:Addr} {v:V} (S:St C cx X0 Pn env aj ρ p s X) (kp:Kp s s') (ha:s.heap.get? a=none) (ho:OwnR C (Xa X a) s'.heap v a):
  St C cx X0 Pn env aj ρ p s' (Xa X a)∧Kf X (Xa X a) s s'∧(∀ y k w b,cx.vars.lookup y=some k→ay k ρ=.own w→Reads env s'.heap y (.ref b)→b≠a)∧¬Pn a∧aj.heap.get? a=none∧a≠env.locals:=by
 have hPa:¬Pn a:=fun q=>by obtain ⟨o,e⟩:=S.vw.lt a (S.vw.pnX a q);rw [ha] at e;cases e
 have hn:Nx C Pn s s':=kp.nx S.vw.base
 have T:Tr X s.heap (Xa X a) s'.heap:=fun b o e _ hx=>⟨kp.keep b o e,fun q=>q.elim hx fun q=>by subst q;rw [ha] at e;cases e⟩
 obtain ⟨S',kf⟩:=S.xQ hn (X':=Xa X a) (fun _ q=>.inl q) (fun b q=>q.elim .inl fun e=>.inr (e ▸ ha)) (fun b q=>q.elim (fun q=>let ⟨o,e⟩:=S.vw.lt b q;⟨o,kp.keep b o e⟩) fun e=>by obtain ⟨o,q,_⟩:=ho.obj;exact ⟨o,e ▸ q⟩) (S.vw.au.tr T fun b o _ e _=>kp.keep b o e) (fun b (q:Xa X a b)=>Or.imp id (fun (q:b=a)=>q ▸ ho.nc) q)
 refine ⟨S',kf,fun y k w b hy hg hb=>?_,hPa,S.old ha,fun e=>?_⟩
 ·obtain ⟨b',rb,_⟩:=S.ownAt hy hg
  have rb':Reads env s'.heap y (.ref b'):=rb.ext hn.ext S.vw.au
  cases Reads.unique hb rb'
  exact S.xB ha y k w b hy hg rb
 ·subst e;obtain ⟨o,q,_⟩:=S.frm;rw [ha] at q;cases q
theorem aV.own {x:Str} {px pos:Pos} {e:Expr} {d:aq} {j:Nat} (h:gC C cx e d) (O:bc cx) (ht:cq cx x=some j) (hm:cx.muts.contains x=true) (hn:notComp e=true):aV C cx (.Assign [.Name x px] e pos) (fT (sets j) d):=by
 intro n call hc X0 Pn env aj ρ p s X A Q E hA S k hrm N
 have N:bf C cx X0 Pn env aj A (@Res.rec (fun _=>af) af.stuck (fun v p=>af.next (sets j ρ (.own v)) p) (fun e p=>af.exc e ρ p) (d call ρ p)) Q E s X:=N
 rw [n7] at N
 refine wpAny_Assign_Name (h n call hc X Pn env ρ p s A _ E S.vw k hrm (N.o S k fun v p₁ s₁ _ S1 k₁ kf hn N1 s₂ a kp ha ho=>?_)) (eZ hn)
 obtain ⟨S2,kf2,hown,hPa,h0,hL⟩:=S1.xo kp ha ho
 exact S2.store O (k₁.ext (kp.nx (Pn:=Pn) S1.vw.base).ext S1.vw.au) ht (sl:=.own v) ⟨a,rfl,.inr rfl,hPa,ho⟩ (fun q=>hL (by cases q;rfl)) (fun u _=>⟨hm,a,rfl,h0,fun y k w b _=>hown y k w b⟩) fun aP S3 bk kf3 _=>N1.cc S3 bk (kf2.trans kf3)
end
section
variable {C:Cfg} {cx:Cx} {X0 X X' Pn:AP} {env:Env} {aj s s' s'':Shared} {ρ ρ':Fr} {p p':List V} {A:Around} {Q:Flow→Shared→Prop} {E:Value→Shared→Prop} {h h':Heap} {n:Nat} {call:Call} {b:Bool}
theorem kO {l:List V} {vs:List Value} (r:RepVs C X s.heap l vs) (hz:vs.length≤most):OwnR C (Xa X s.heap.objs.size) (s.heap.push { cls:=.type "list",data:=.seq vs.toArray }) (.lst l) s.heap.objs.size:=by
 simp only [OwnR]
 refine ⟨vs,⟨hz,0,Heap.get?_push_size _ rfl⟩,r.tr fun a o e _ hx=>⟨Heap.get?_push_of_some _ e,fun q=>q.elim hx fun q=>?_⟩⟩
 subst q;rw [bS] at e;cases e
theorem gC.lst {xs:List Expr} {ds:List aq} {pos:Pos} (h:gj C cx xs ds) (hz:ds.length≤100):gC C cx (.List xs pos) (ax ds):=by
 intro n call hc X Pn env ρ p s A Q E hv hk hr N
 have e:(ax ds call ρ p).out=(a0 ds call ρ p).out.bind fun l p=>.ok (V.lst l) p:=l7 _ _
 rw [e] at N
 refine wpAny_List (h n call hc X Pn env ρ p s A _ E pos hv hk hr (N.bind fun l p₁ s₁ hl hn hp N1 vals hvals=>?_))
 have hz':=ix hl
 have hlen:=hvals.length
 refine ⟨by rw [aT];omega,N1.gF hn.ext.base hp _ _ (.push _) (bS _) (kO hvals (by show _≤8000;omega))⟩
theorem gC.aQ {pos:Pos} (hsys:∃ o,C.h₀.get? sysModules=some o):gC C cx (.Dict [] [] pos) (cK (.aQ [] [])):=by
 intro n call hc X Pn env ρ p s A Q E hv hk hr N
 have N:bh C X Pn (.ok (V.aQ [] []) p) _ E s:=N
 have hne:s.heap.objs.size≠sysModules:=fun q=>by
  obtain ⟨o,ho⟩:=hsys
  have:=Heap.lt_size (hv.base _ o ho)
  rw [← q] at this;exact Nat.lt_irrefl _ this
 refine wpAny_Dict_empty (N.gF hv.base hv.au _ _ (.push _) (bS _) ?_)
 simp only [OwnR]
 exact ⟨[],⟨⟨by simpa using hne,by simp [most]⟩,0,Heap.get?_push_size _ rfl⟩,.nil,.nil,rfl,fun _ hk=>nomatch hk⟩
theorem gC.mul {xs:List Expr} {ds:List aq} {lp pos:Pos} {y:Expr} {d:aq} (hx:az C cx true (.List xs lp) (ax ds)) (hy:az C cx true y d):gC C cx (.BinOp (.List xs lp) .Mult y pos) (Mine.c2 bg (ax ds) d):=by
 intro n call hc X Pn env ρ p s A Q E hv hk hr N
 have e:(Mine.c2 bg (ax ds) d call ρ p).out=(ax ds call ρ p).out.bind fun a p=>(d call ρ p).out.bind fun b p=>(@Option.rec V (fun _=>Res) Res.stuck (fun v=>Res.ok v p) (bg a b)).out:=by
  show (@Res.rec (fun _=>Res) Res.stuck (fun a p=>@Res.rec (fun _=>Res) Res.stuck (fun b p=>@Option.rec V (fun _=>Res) Res.stuck (fun v=>Res.ok v p) (bg a b)) Res.exc (d call ρ p)) Res.exc (ax ds call ρ p)).out=_
  rw [cv];congr 1;funext a p
  rw [cv]
 rw [e] at N
 -- the first value is a list
 have jr:(ax ds call ρ p).out=(a0 ds call ρ p).out.bind fun l p=>.ok (V.lst l) p:=l7 _ _
 have hl:∀ v p',(ax ds call ρ p).out=.ok v p'→∃ l,v=.lst l:=fun v p' q=>by
  rw [jr] at q
  cases hq:(a0 ds call ρ p).out with
  | ok l p''=>rw [hq] at q;cases q;exact ⟨l,rfl⟩
  | stuck=>rw [hq] at q;cases q
  | exc k p''=>rw [hq] at q;cases q
 refine wpAny_BinOp (hx n call hc X Pn env ρ p s A _ E hv hk hr (bh.e (N.bind fun v p₁ s₁ hv1 hn hp N1 val hval=>?_)))
 obtain ⟨l,rfl⟩:=hl v p₁ hv1
 have v1:=hv.next hn.ext hp
 have k₁:=hk.ext hn.ext hv.au
 refine hy.run hc v1 k₁ hr N1 fun w aO val' s₂ bT v2 k₂ hval' N2=>?_
 cases hm:bg (.lst l) w with
 | none=>rw [hm] at N2;exact absurd rfl N2.1
 | some r=>
  rw [hm] at N2
  have N2:bh C X Pn (.ok r aO) _ E s₂:=N2
  cases w <;> simp only [bg] at hm <;> (try cases hm)
  case int y=>
   obtain ⟨u,rfl⟩:=hval'.b.int
   obtain ⟨hs,hm⟩:=cJ hm
   cases y with
   | negSucc m=>cases hm
   | ofNat m=>
    obtain ⟨hy,hm⟩:=cJ hm
    cases hm
    obtain ⟨a,vs,rfl,⟨_,na,ta⟩,ra⟩:=(hval.b.ext bT.ext v1.pnX).lst
    have hl:=cu hs
    rw [blt_dec,decide_eq_true_eq] at hy
    have hlen:=ra.length
    refine kP ta (by simp only [Int.ofNat_eq_natCast];omega) (by simp only [Int.ofNat_eq_natCast];omega) ?_ (N2.gF v2.base v2.au _ _ (.push _) (bS _) (kO (ra.rep _) ?_))
    ·calc vs.length * m≤8 * 300:=Nat.mul_le_mul (by omega) (by omega)
      _≤2 ^ 24:=by decide
    ·show (List.replicate m vs).flatten.length≤8000
     have e:(List.replicate m vs).flatten.length=m * vs.length:=by simp
     rw [e]
     calc m * vs.length≤300 * 8:=Nat.mul_le_mul (by omega) (by omega)
      _≤8000:=by decide
theorem St.recv {x:Str} {px:Pos} {j:Nat} {u:V} {Q:Value→Shared→Prop} (S:St C cx X0 Pn env aj ρ p s X) (hx:cx.vars.lookup x=some j) (hg:ay j ρ=.own u) (ok:aM x=true)
  (h:∀ a,Reads env s.heap x (.ref a)→OwnR C X s.heap u a→Q (.ref a) s):wpAny (model C.prog C.w) A (eval (.Name x px) env) Q E s:=by
 obtain ⟨a,ra,_,_,ho,_⟩:=S.ownAt hx hg
 exact wpAny_Name (bH S.vw.kind ok ra (h a ra ho)) (bW ok)
theorem Ar {id:String} {ov:Value} {pos:Pos} {Q:Value→Shared→Prop} (H:wpAny (model C.prog C.w) A (PySem.call (.builtin id) [ov]) Q E s):wpAny (model C.prog C.w) A (callWith pos (.builtin id) [ov] [] []) Q E s:=
 Calls.callWith_builtin rfl (PySem.evalArgs_none H)
theorem uY {id:String} {ov:Value} {pos:Pos} {t:Sem Value} {Q:Value→Shared→Prop} (H:wpAny (model C.prog C.w) A t (fun v s₁=>wpAny (model C.prog C.w) A (PySem.call (.builtin id) [ov,v]) Q E s₁) E s):wpAny (model C.prog C.w) A (callWith pos (.builtin id) [ov] [(false,t)] []) Q E s:=
 Calls.callWith_builtin rfl (Calls.evalArgs_plain (Calls.spliced_cons (wpAny_mono H (fun _ _ aG=>Calls.spliced_nil aG) fun _ _ x=>x)))
theorem uX {id:String} {ov:Value} {pos:Pos} {t u:Sem Value} {Q:Value→Shared→Prop} (H:wpAny (model C.prog C.w) A t (fun v s₁=>wpAny (model C.prog C.w) A u (fun w s₂=>wpAny (model C.prog C.w) A (PySem.call (.builtin id) [ov,v,w]) Q E s₂) E s₁) E s):
  wpAny (model C.prog C.w) A (callWith pos (.builtin id) [ov] [(false,t),(false,u)] []) Q E s:=
 Calls.callWith_builtin rfl (Calls.evalArgs_plain (Calls.spliced_cons (wpAny_mono H (fun _ _ aG=>Calls.spliced_cons (wpAny_mono aG (fun _ _ bu=>Calls.spliced_nil bu) fun _ _ x=>x)) fun _ _ x=>x)))
theorem oO {sl:Slot} {K:af} (h:(@Slot.rec (fun _=>af) af.stuck (fun _=>af.stuck) (fun o=>(@V.rec (fun _=>af) (fun _=>Unit) af.stuck (fun _=>af.stuck) (fun _=>af.stuck) (fun _=>af.stuck) (fun _ _=>af.stuck) (fun _ _=>K) (fun _ _ _ _=>af.stuck) (fun _ _ _=>af.stuck) () (fun _ _ _ _=>()) o)) af.stuck sl)≠.stuck):
  ∃ l,sl=.own (.lst l):=by
 cases sl with
 | own o=>cases o with
  | lst l=>exact ⟨l,rfl⟩
  | _=>exact absurd rfl h
 | _=>exact absurd rfl h
theorem iG {g:cZ} {st:bw} {f:V→Option V} {o:V} (hg:g ρ=.own o):fu g st ρ p f=@Option.rec V (fun _=>af) af.stuck (fun o=>af.next (st ρ (.own o)) p) (f o):=by
 unfold fu;rw [hg]
theorem St.wD {x:Str} {j:Nat} {l l':List V} {a:Addr} {f:Array Value→Array Value} {vs ws:List Value} {Q:Unit→Shared→Prop} (S:St C cx X0 Pn env aj ρ p s X) (k:aN C A s.heap) (O:bc cx) (hx:cx.vars.lookup x=some j) (hg:ay j ρ=.own (.lst l)) (ra:Reads env s.heap x (.ref a))
  (hl:LstAt s.heap a vs) (hf:f vs.toArray=ws.toArray) (hz:ws.length≤most) (hws:∀ h',Tr X s.heap X h'→RepVs C X h' l' ws)
  (hQ:∀ s',St C cx X0 Pn env aj (sets j ρ (.own (.lst l'))) p s' X→aN C A s'.heap→Kf X X s s'→(∀ vs',RepVs C X s.heap vs' []→True)→Q () s'):∀ {A':Around},wpAny (model C.prog C.w) A' (updateSeq a f) Q E s:=fun {A'}=>by
 refine oX hl hf hz fun h' hs hl'=>?_
 obtain ⟨a',ra',hXa,_⟩:=S.ownAt hx hg
 cases Reads.unique ra ra'
 have ho:OwnR C X h' (.lst l') a:=by simp only [OwnR];exact ⟨ws,hl',hws h' (bo hs hXa)⟩
 obtain ⟨S',k',kf⟩:=S.mut (tk:=s.toks) k O hx hg ra hs ho
 exact hQ _ S' k' kf fun _ _=>trivial
theorem aV.append {x:Str} {px ap cp pos:Pos} {e:Expr} {d:aq} {j:Nat} (h:az C cx false e d) (hs:∀ e' p',e≠.Starred e' p') (O:bc cx) (hx:cx.vars.lookup x=some j) (ok:aM x=true) (hl:(ap.endLine==cp.line)=true):
  aV C cx (.Expr (.Call (.Attribute (.Name x px) "append" ap) [e] [] cp) pos) (df (ay j) (sets j) d):=by
 intro n call hc X0 Pn env aj ρ p s X A Q E hA S k hrm N
 obtain ⟨l,hg⟩:=oO N.go
 have N:bf C cx X0 Pn env aj A (@Res.rec (fun _=>af) af.stuck (fun v p=>fu (ay j) (sets j) ρ p (uL v)) (fun e p=>af.exc e ρ p) (d call ρ p)) Q E s X:=by
  have q:=N;unfold df at q;rw [hg] at q;exact q
 refine wpAny_Expr_any ?_ S.eM
 refine wpAny_Call_method (T := "list") (id := "list.append") (fw rfl _ _) (by rw [aJ hs];rfl) hl F.plainAttrs_list F.slot_list_append F.type_list_append (S.recv hx hg ok fun a ra ho=>?_)
 have ho':=ho
 simp only [OwnR] at ho'
 obtain ⟨vs,⟨_,m,hob⟩,_⟩:=ho'
 refine ⟨⟨_,hob,rfl⟩,fun a' ea=>by cases ea;exact ⟨_,hob,rfl⟩,?_⟩
 rw [aJ hs]
 refine uY (h.st hc S k hrm N fun v p₁ val s₁ S1 k₁ kf hn hv N1=>?_)
 rw [iG hg] at N1
 have ra1:=ra.ext hn.ext S.vw.au
 obtain ⟨a',ra',hXa,hna,ho,h0,_⟩:=S1.ownAt hx hg
 cases Reads.unique ra1 ra'
 cases happ:uL v (.lst l) with
 | none=>rw [happ] at N1;exact absurd rfl N1.go
 | some o=>
  rw [happ] at N1
  obtain ⟨hsh,eo⟩:=fc happ
  cases eo
  have ho':=ho
  simp only [OwnR] at ho'
  obtain ⟨vs,hl,hvs⟩:=ho'
  have hT:s₁.TypeIs (.ref a) "list" := let ⟨_,m,hob⟩:=hl;⟨_,hob,rfl⟩
  have hlen:=hvs.length
  have hsz:=cU hsh
  have hli:lid=3000:=rfl
  refine wpAny_call_entry F.slot_list_append hT entry_list_append ?_ (args_list_append _ _)
  show wpAny _ _ (updateSeq a (·.push val) >>= fun _=>PySem.ret .none) _ _ s₁
  refine wpAny_bind (S1.wD k₁ O hx hg ra1 hl (f:=(·.push val)) (ws:=vs++[val]) (l':=app l [v]) (by simp) (by simp [most];omega) (fun h' T=>by rw [eJ];exact (hvs.tr T).append (.cons (RepV.tr T hv) .nil)) fun s₂ S2 k₂ kf2 _=>?_)
  exact wpAny_pure ⟨_,rfl,N1.cc S2 k₂ kf2⟩
theorem aV.extend {x:Str} {px ap cp pos:Pos} {e:Expr} {d:aq} {j:Nat} (h:az C cx true e d) (hs:∀ e' p',e≠.Starred e' p') (O:bc cx) (hx:cx.vars.lookup x=some j) (ok:aM x=true) (hl:(ap.endLine==cp.line)=true):
  aV C cx (.Expr (.Call (.Attribute (.Name x px) "extend" ap) [e] [] cp) pos) (mM (ay j) (sets j) d):=by
 intro n call hc X0 Pn env aj ρ p s X A Q E hA S k hrm N
 obtain ⟨l,hg⟩:=oO N.go
 have N:bf C cx X0 Pn env aj A (@Res.rec (fun _=>af) af.stuck (fun v p=>fu (ay j) (sets j) ρ p (rJ v)) (fun e p=>af.exc e ρ p) (d call ρ p)) Q E s X:=by
  have q:=N;unfold mM at q;rw [hg] at q;exact q
 refine wpAny_Expr_any ?_ S.eM
 refine wpAny_Call_method (T := "list") (id := "list.extend") (fw rfl _ _) (by rw [aJ hs];rfl) hl F.plainAttrs_list F.slot_list_extend F.type_list_extend (S.recv hx hg ok fun a ra ho=>?_)
 have ho':=ho
 simp only [OwnR] at ho'
 obtain ⟨vs,⟨_,m,hob⟩,_⟩:=ho'
 refine ⟨⟨_,hob,rfl⟩,fun a' ea=>by cases ea;exact ⟨_,hob,rfl⟩,?_⟩
 rw [aJ hs]
 refine uY (h.st hc S k hrm N fun v p₁ val s₁ S1 k₁ kf hn hv N1=>?_)
 rw [iG hg] at N1
 have ra1:=ra.ext hn.ext S.vw.au
 obtain ⟨a',ra',hXa,hna,ho,h0,_⟩:=S1.ownAt hx hg
 cases Reads.unique ra1 ra'
 cases happ:rJ v (.lst l) with
 | none=>rw [happ] at N1;exact absurd rfl N1.go
 | some o=>
  rw [happ] at N1
  have hvl:∃ m,v=.lst m:=by cases v <;> simp only [rJ] at happ <;> (try cases happ);exact ⟨_,rfl⟩
  obtain ⟨q,rfl⟩:=hvl
  obtain ⟨hsh,happ⟩:=fc happ
  obtain ⟨hsh',eo⟩:=fc happ
  cases eo
  have ho':=ho
  simp only [OwnR] at ho'
  obtain ⟨vs,⟨hz,m,hob⟩,hvs⟩:=ho'
  obtain ⟨b',ws,rfl,⟨hz',m',hob'⟩,hws⟩:=hv.b.lst
  have hT:s₁.TypeIs (.ref a) "list" := ⟨_,hob,rfl⟩
  have hlen:=hvs.length
  have hlen':=hws.length
  have hsz:=cU hsh
  have hsz':=cU hsh'
  have hli:lid=3000:=rfl
  have hm:most=8000:=rfl
  refine call_meets F.slot_list_extend hT F.entry_list_extend (F.args_list_extend_2 _ _) (PySem.AutoSeq1.list_extend_list_list_0 a vs.toArray m b' ws.toArray m' ?_ (by rw [aT,List.size_toArray];omega) (by rw [aT,List.size_toArray,List.size_toArray];omega)) ⟨hob,hob',?_⟩
  ·simp only [Builtin.List.listTooLong,List.size_toArray,Bool.and_eq_true,decide_eq_true_eq,not_and]
   intro _
   have:=aT
   omega
  ·have hs:Heap.SameBut a s₁.heap (s₁.heap.update a (Obj.mapSeq fun x=>x++ws.toArray)):=Heap.SameBut.update ..
   have T:=bo (X:=X) hs hXa
   have hl':LstAt (s₁.heap.update a (Obj.mapSeq fun x=>x++ws.toArray)) a (vs++ws):=by
    have e:∃ n',Obj.mapSeq (fun x=>x++ws.toArray) (cy vs m)=cy (vs++ws) n':=by
     obtain ⟨n',hd'⟩:=Obj.data_mapSeq (o:=cy vs m) (xs:=vs.toArray) (n:=m) rfl (fun x=>x++ws.toArray)
     refine ⟨n',?_⟩
     unfold Obj.mapSeq cy at *
     simpa using hd'
    obtain ⟨n',e⟩:=e
    exact ⟨by simp;omega,n',by rw [Heap.get?_update_self _ hob (by rw [e];rfl),e]⟩
   have gh:OwnR C X (s₁.heap.update a (Obj.mapSeq fun x=>x++ws.toArray)) (.lst (app l q)) a:=by simp only [OwnR];exact ⟨_,hl',by rw [eJ];exact (hvs.tr T).append (hws.tr T)⟩
   obtain ⟨S2,k₂,kf2⟩:=S1.mut (tk:=s₁.toks) k₁ O hx hg ra1 hs gh
   exact N1.cc S2 k₂ kf2
end
section
variable {C:Cfg} {cx:Cx} {X0 X X' Pn:AP} {env:Env} {aj s s' s'':Shared} {ρ ρ':Fr} {p p':List V} {A:Around} {Q:Flow→Shared→Prop} {E:Value→Shared→Prop} {h h':Heap} {n:Nat} {call:Call} {b:Bool}
def Item (C:Cfg) (cx:Cx) (X Pn:AP) (env:Env) (aj:Shared) (ρ:Fr) (s:Shared) (own:Bool) (v:V) (val:Value):Prop:=match own with
 | false=>RepV C X s.heap v val
 | true=>∃ a,val=.ref a∧X a∧¬Pn a∧OwnR C X s.heap v a∧aj.heap.get? a=none∧a≠env.locals∧∀ y k w b,cx.vars.lookup y=some k→ay k ρ=.own w→Reads env s.heap y (.ref b)→b≠a
structure Ent where
 x:Str
 j:Nat
 own:Bool
 v:V
 val:Value
 t:Value→Sem Unit
def apart (L:List Ent):Prop:=L.Pairwise fun e f=>e.x≠f.x∧(e.own=true→f.own=true→e.val≠f.val)
noncomputable def putAll (L:List Ent) (ρ:Fr):Fr:=L.foldl (fun ρ e=>sets e.j ρ (gS e.own e.v)) ρ
theorem St.iN (O:bc cx) {Q:Unit→Shared→Prop}:∀ (L:List Ent) {ρ:Fr} {s:Shared},St C cx X0 Pn env aj ρ p s X→aN C A s.heap→(∀ e∈L,cq cx e.x=some e.j∧(e.own=true→cx.muts.contains e.x=true)∧Item C cx X Pn env aj ρ s e.own e.v e.val∧
   ∀ (s:Shared) (Q:Unit→Shared→Prop),wpAny (model C.prog C.w) A (storeName env e.x e.val) Q E s→wpAny (model C.prog C.w) A (e.t e.val) Q E s)→apart L→
  (∀ s',St C cx X0 Pn env aj (putAll L ρ) p s' X→aN C A s'.heap→Kf X X s s'→Q () s')→wpAny (model C.prog C.w) A (assignInOrder (L.map (·.t)) (L.map (·.val))) Q E s
 | [],ρ,s,S,k,_,_,hQ=>wpAny_pure (hQ s S k .refl)
 | e::L,ρ,s,S,k,hL,hap,hQ=>by
  obtain ⟨ht,hm,hi,hst⟩:=hL e List.mem_cons_self
  obtain ⟨hj,_⟩:=ez ht
  have hap':=List.pairwise_cons.mp hap
  show wpAny _ _ (do holding (L.map (·.val)) (e.t e.val);assignInOrder (L.map (·.t)) (L.map (·.val))) Q E s
  refine wpAny_bind (wpAny_holding (hst s _ ?_))
  have hsl:cE C X Pn s.heap (gS e.own e.v) e.val∧e.val≠.ref env.locals:=by
   cases ho:e.own with
   | false=>rw [ho] at hi;exact ⟨hi,RepV.fE S.loc hi⟩
   | true=>
    rw [ho] at hi
    obtain ⟨a,e1,e2,e3,e4,e5,e6,_⟩:=hi
    exact ⟨⟨a,e1,e2,e3,e4⟩,fun q=>by rw [e1] at q;cases q;exact e6 rfl⟩
  refine S.store O k ht (sl:=gS e.own e.v) hsl.1 hsl.2 (fun u hu=>?_) fun s₁ S1 k₁ kf1 sd=>?_
  ·cases ho:e.own with
   | false=>rw [ho] at hu;cases hu
   | true=>
    rw [ho] at hi
    obtain ⟨a,e1,e2,e3,e4,e5,e6,e7⟩:=hi
    exact ⟨hm ho,a,e1,e5,fun y k w b _=>e7 y k w b⟩
  ·refine St.iN O L S1 k₁ (fun f hf=>?_) hap'.2 fun s₂ S2 k₂ kf2=>hQ s₂ S2 k₂ (kf1.trans kf2)
   obtain ⟨f1,f2,f3,f4⟩:=hL f (List.mem_cons_of_mem _ hf)
   refine ⟨f1,f2,?_,f4⟩
   have hne:=hap'.1 f hf
   cases ho:f.own with
   | false=>rw [ho] at f3;exact RepV.tr kf1.tr f3
   | true=>
    rw [ho] at f3
    obtain ⟨a,e1,e2,e3,e4,e5,e6,e7⟩:=f3
    refine ⟨a,e1,e2,e3,sd.own _ _ e4,e5,e6,fun y k' w b hy hg hb=>?_⟩
    by_cases q:y=e.x
    ·subst q
     rw [hj] at hy;cases hy
     have hown:e.own=true:=by
      cases he:e.own with
      | true=>rfl
      | false=>
       rw [bO] at hg
       by_cases h16:e.j < 16
       ·rw [if_pos ⟨rfl,h16⟩,he] at hg;cases hg
       ·rw [if_neg (by omega),cG (by omega)] at hg;cases hg
     have e':=Reads.unique hb sd.self
     intro q
     exact hne.2 hown ho (by rw [← e',e1,q])
    ·rw [dD O q hy hj] at hg
     obtain ⟨b',rb,_⟩:=S.ownAt hy hg
     cases Reads.unique hb (sd.oth _ _ q rb)
     exact e7 y k' w b hy hg rb
theorem Item.kp {own:Bool} {v:V} {val:Value} (S:St C cx X0 Pn env aj ρ p s X) (k:Kp s s') (i:Item C cx X Pn env aj ρ s own v val):Item C cx X Pn env aj ρ s' own v val:=by
 cases own with
 | false=>exact RepV.tr k.tr i
 | true=>
  obtain ⟨a,e1,e2,e3,e4,e5,e6,e7⟩:=i
  refine ⟨a,e1,e2,e3,e4.tr k.tr fun o e _=>k.keep a o e,e5,e6,fun y j w b hy hg hb=>?_⟩
  obtain ⟨b',rb,_⟩:=S.ownAt hy hg
  have:Reads env s'.heap y (.ref b'):=rb.ext (k.nx (Pn:=Pn) S.vw.base).ext S.vw.au
  cases Reads.unique hb this
  exact e7 y j w b hy hg rb
theorem St.kp (S:St C cx X0 Pn env aj ρ p s X) (k:Kp s s'):St C cx X0 Pn env aj ρ p s' X∧Kf X X s s':=S.next (k.nx S.vw.base) (k.au S.vw.au)
theorem aN.kp (k:aN C A s.heap) (S:St C cx X0 Pn env aj ρ p s X) (q:Kp s s'):aN C A s'.heap:=k.ext (q.nx (Pn:=Pn) S.vw.base).ext S.vw.au
theorem nL {it l:Addr} {items:Array Value} (hne:l≠it):∀ (n i:Nat) (s:Shared) (Q:List Value→Shared→Prop),s.heap.IsListIter it l i→s.heap.IsList l items→i + n≤items.size→
  (∀ h',h'.IsListIter it l (i + n)→Heap.SameBut it s.heap h'→Q ((items.toList.drop i).take n) { s with heap:=h' })→wpAny (model C.prog C.w) A (draw (.ref it) n) Q E s
 | 0,i,s,Q,hit,_,_,hQ=>wpAny_pure (by simpa using hQ s.heap hit (Heap.SameBut.refl ..))
 | n + 1,i,s,Q,hit,ht,hle,hQ=>by
  have hlt:i < items.size:=by omega
  show wpAny _ _ (pyNext (.ref it) >>= _) Q E s
  refine wpAny_bind (wpAny_pyNext_list_item hit ht (x:=items[i]) (by simp [hlt]) fun aG hit1 cB=>?_)
  refine wpAny_bind (wpAny_holding (nL hne n (i + 1) _ _ hit1 (ht.extBut cB.extBut hne) (by omega) fun bu ya eO=>wpAny_pure ?_))
  have hd:items.toList.drop i=items[i]::items.toList.drop (i + 1):=by simp [List.drop_eq_getElem_cons,hlt]
  have:=hQ bu (by rw [show i + (n + 1)=i + 1 + n by omega];exact ya) (cB.trans eO)
  rw [hd,List.take_succ_cons] at this
  exact this
theorem pW {l:Addr} {vs:List Value} {Q:List Value→Shared→Prop} (hh:A.handled=none) (ht:LstAt s.heap l vs) (hQ:∀ s',Kp s s'→Q vs s'):wpAny (model C.prog C.w) A (unpackItems (.ref l) vs.length none) Q E s:=by
 have hlt:l≠s.heap.objs.size:=by obtain ⟨_,n,ho⟩:=ht;exact Nat.ne_of_lt (Heap.lt_size ho)
 have hl:=ht.isList
 unfold unpackItems
 refine wpAny_bind ?_
 unfold notIterableAtAll
 refine wpAny_bind (wpAny_specialOf hl.typeIs slot_list_iter.lookup ?_)
 refine wpAny_pure ?_
 simp only [Bool.false_eq_true,if_false]
 refine wpAny_bind (wpAny_holding (wpAny_pyIter_list hl ?_))
 refine wpAny_bind (wpAny_holding (nL (items:=vs.toArray) hlt vs.length 0 _ _ ⟨_,Heap.get?_push_size _ rfl,rfl,rfl⟩ (hl.push _) (by simp) fun aG hit1 cB=>?_))
 have hall:List.take vs.length (List.drop 0 vs.toArray.toList)=vs:=by simp
 rw [hall,if_neg (by simp)]
 have ht1:aG.IsList l vs.toArray:=(hl.push _).extBut cB.extBut hlt
 refine wpAny_bind (wpAny_holding (wpAny_pyNext_list_end hh hit1 ht1 (by simp) fun bu he2=>?_))
 simp only [Option.isSome_none,Bool.false_eq_true,if_false]
 exact wpAny_pure (hQ _ ⟨fun b o e=>he2 b o (fun q=>by subst q;rw [bS] at e;cases e) (cB.extBut b o (fun q=>by subst q;rw [bS] at e;cases e) (Heap.get?_push_of_some _ e)),rfl,rfl⟩)
theorem ou {v:V} {m:List V} {val:Value} {Q:List Value→Shared→Prop} (hh:A.handled=none) (hr:RepV C X s.heap v val) (hm:itemsOf v=some m) (hQ:∀ s' items,Kp s s'→RepVs C X s'.heap m items→Q items s'):
  wpAny (model C.prog C.w) A (unpackItems val m.length none) Q E s:=by
 cases v <;> simp only [itemsOf] at hm <;> (try cases hm)
 case tup=>
  simp only [RepV] at hr
  obtain ⟨a,vs,rfl,_,ht,hl⟩:=hr
  have e:m.length=vs.toArray.size:=by rw [List.size_toArray];exact hl.length.symm
  rw [e]
  refine wpAny_unpackItems_tuple hh ht.ec fun h' he=>?_
  have K:Kp s { s with heap:=h' }:=⟨fun b o eb=>he b o (fun q=>by subst q;rw [bS] at eb;cases eb) eb,rfl,rfl⟩
  exact hQ _ vs K (hl.tr K.tr)
 case lst=>
  simp only [RepV] at hr
  obtain ⟨a,vs,rfl,_,ht,hl⟩:=hr
  rw [← hl.length]
  exact pW hh ht fun s' K=>hQ s' vs K (hl.tr K.tr)
end
def jH (P:Bool→V→Value→Prop):List Bool→List V→List Value→Prop
 | [],[],[]=>True
 | o::os,v::vs,x::xs=>P o v x∧jH P os vs xs
 | _,_,_=>False
def iA:List Bool→List Value→Prop
 | o::os,x::xs=>(o=true→∀ b y,(b,y)∈os.zip xs→b=true→x≠y)∧iA os xs
 | _,_=>True
theorem jH.xW {P:Bool→V→Value→Prop}:∀ {os:List Bool} {vs:List V} {xs:List Value},jH P os vs xs→vs.length=os.length∧xs.length=os.length
 | [],[],[],_=>⟨rfl,rfl⟩
 | _::_,_::_,_::_,⟨_,b⟩=>by obtain ⟨q,r⟩:=jH.xW b;simp [q,r]
 | [],[],_::_,q=>q.elim
 | [],_::_,_,q=>q.elim
 | _::_,[],_,q=>q.elim
 | _::_,_::_,[],q=>q.elim
section
variable {C:Cfg} {cx:Cx} {X0 X X' Pn:AP} {env:Env} {aj s s' s'':Shared} {ρ ρ':Fr} {p p':List V} {A:Around} {Q:Flow→Shared→Prop} {E:Value→Shared→Prop} {h h':Heap} {n:Nat} {call:Call} {b:Bool}
def B6 (C:Cfg) (A:Around) (E:Value→Shared→Prop) (env:Env) (x:Str) (t:Value→Sem Unit):Prop:=
 ∀ (val:Value) (s:Shared) (Q:Unit→Shared→Prop),wpAny (model C.prog C.w) A (storeName env x val) Q E s→wpAny (model C.prog C.w) A (t val) Q E s
theorem vd:∀ (es:List Expr) (ns:List Str) (js:List Nat) (os:List Bool) (vs:List V) (xs:List Value),namesOf es=some ns→fA cx ns=some js→os.length=js.length→vs.length=js.length→xs.length=js.length→
  ∃ L:List Ent,L.map (·.t)=(assignEach es env).map (·.2)∧L.map (·.val)=xs∧L.map (·.x)=ns∧(∀ ρ,storeAll ((js.map sets).zip os) vs ρ=some (putAll L ρ))∧(∀ e∈L,cq cx e.x=some e.j∧B6 C A E env e.x e.t)∧(assignEach es env).findIdx? (·.1)=none∧(assignEach es env).length=js.length∧
   (∀ P,jH P os vs xs→∀ e∈L,P e.own e.v e.val)∧(distinct ns=true→iA os xs→apart L)∧(∀ e∈L,(e.own,e.val)∈os.zip xs)∧∀ f:Str→Bool→Bool,(∀ q∈ns.zip os,f q.1 q.2=true)→∀ e∈L,f e.x e.own=true
 | [],ns,js,os,vs,xs,hn,hj,h1,h2,h3=>by
  cases hn;cases hj
  simp at h1 h2 h3;subst h1 h2 h3
  exact ⟨[],rfl,rfl,rfl,fun _=>rfl,(fun _ q=>nomatch q),rfl,rfl,(fun _ _ _ q=>nomatch q),fun _ _=>List.Pairwise.nil,(fun _ q=>nomatch q),(fun _ _ _ q=>nomatch q)⟩
 | e::es,ns,js,os,vs,xs,hn,hj,h1,h2,h3=>by
  unfold namesOf at hn
  split at hn
  ·cases ‹_::_=[]›
  ·rename_i x px r he
   cases he
   cases hr:namesOf es with
   | none=>rw [hr] at hn;cases hn
   | some l=>
    rw [hr] at hn;cases hn
    unfold fA at hj
    cases ht:cq cx x with
    | none=>rw [ht] at hj;cases hj
    | some j=>
     cases hl:fA cx l with
     | none=>rw [ht,hl] at hj;cases hj
     | some jl=>
      rw [ht,hl] at hj;cases hj
      obtain ⟨o,os,rfl⟩:=List.exists_cons_of_length_eq_add_one (h1.trans (List.length_cons))
      obtain ⟨v,vs,rfl⟩:=List.exists_cons_of_length_eq_add_one (h2.trans (List.length_cons))
      obtain ⟨y,xs,rfl⟩:=List.exists_cons_of_length_eq_add_one (h3.trans (List.length_cons))
      obtain ⟨L,a1,a2,a3,a4,a5,a6,a7,a8,a9,a10,a11⟩:=vd es l jl os vs xs hr hl (by simpa using h1) (by simpa using h2) (by simpa using h3)
      have ea:assignEach (.Name x px::es) env=(false,assign (.Name x px) env)::assignEach es env:=rfl
      refine ⟨⟨x,j,o,v,y,assign (.Name x px) env⟩::L,by rw [ea];simp [a1],by simp [a2],by simp [a3],fun ρ=>a4 _,fun e he=>?_,by rw [ea];simp [List.findIdx?_cons,a6],by rw [ea];simp [a7],fun P hP e he=>?_,fun hd ho=>?_,fun e he=>?_,fun f hf e he=>?_⟩
      ·rcases List.mem_cons.mp he with rfl | he
       ·exact ⟨ht,fun val s Q hq=>wpAny_assign_Name hq⟩
       ·exact a5 e he
      ·rcases List.mem_cons.mp he with rfl | he
       ·exact hP.1
       ·exact a8 P hP.2 e he
      ·simp only [distinct,Bool.and_eq_true,Bool.not_eq_true'] at hd
       refine List.pairwise_cons.mpr ⟨fun f hf=>⟨fun q=>?_,fun q1 q2=>ho.1 q1 f.own f.val (a10 f hf) q2⟩,a9 hd.2 ho.2⟩
       have:f.x∈l:=by rw [← a3];exact List.mem_map.mpr ⟨f,hf,rfl⟩
       have hc:=hd.1
       have q:x=f.x:=q
       rw [← q] at this
       rw [List.contains_iff_mem.mpr this] at hc;cases hc
      ·rcases List.mem_cons.mp he with rfl | he
       ·exact List.mem_cons_self
       ·exact List.mem_cons_of_mem _ (a10 e he)
      ·rcases List.mem_cons.mp he with rfl | he
       ·exact hf (x,o) List.mem_cons_self
       ·exact a11 f (fun q hq=>hf q (List.mem_cons_of_mem _ hq)) e he
  ·cases hn
theorem lk:∀ js:List bw,vals js=js.zip (js.map fun _=>false)
 | []=>rfl
 | j::r=>by show (j,false)::vals r=_;rw [lk r];rfl
theorem nS {m:List V} {items:List Value}:RepVs C X h m items→jH (fun o v x=>o=false∧RepV C X h v x) (m.map fun _=>false) m items:=by
 induction m generalizing items with
 | nil=>intro q;simp only [RepVs] at q;subst q;trivial
 | cons v m ih=>intro q;simp only [RepVs] at q;obtain ⟨x,r,rfl,q1,q2⟩:=q;exact ⟨⟨rfl,q1⟩,ih q2⟩
theorem ig:∀ (l:List V) (xs:List Value),iA (l.map fun _=>false) xs
 | [],_=>trivial
 | _::_,[]=>trivial
 | _::l,_::xs=>⟨fun q=>(nomatch q),ig l xs⟩
theorem jS:∀ {ts:List (bw×Bool)} {l:List V} {ρ ρ':Fr},storeAll ts l ρ=some ρ'→l.length=ts.length
 | [],[],_,_,_=>rfl
 | [],_::_,_,_,e=>nomatch e
 | _::_,[],_,_,e=>nomatch e
 | t::ts,v::l,ρ,ρ',e=>by
  have e:storeAll ts l (t.1 ρ (gS t.2 v))=some ρ':=e
  simp [jS e]
theorem iL {es:List Expr} {ns:List Str} {js:List Nat} {k:Nat} {tp:Pos} {v:V} {m:List V} {val:Value} {Q:Unit→Shared→Prop} (S:St C cx X0 Pn env aj ρ p s X) (k':aN C A s.heap) (O:bc cx) (hh:A.handled=none) (hn:namesOf es=some ns) (hd:distinct ns=true) (hj:fA cx ns=some js)
  (hr:RepV C X s.heap v val) (hm:itemsOf v=some m) (hs:storeAll (vals (js.map sets)) m ρ=some ρ') (hQ:∀ s',St C cx X0 Pn env aj ρ' p s' X→aN C A s'.heap→Kf X X s s'→Q () s'):wpAny (model C.prog C.w) A (assign (.Tuple es k tp) env val) Q E s:=by
 have hlen:=jS hs
 have hz:(vals (js.map sets)).length=js.length:=by rw [lk];simp
 rw [hz] at hlen
 rw [arm_assign_Tuple]
 refine wpAny_bind (wpAny_standAt ?_)
 obtain ⟨_,_,_,_,_,_,i6,i7,_⟩:=vd (C:=C) (A:=A) (E:=E) (env:=env) es ns js (m.map fun _=>false) m (m.map fun _=>Value.none) hn hj (by simp [hlen]) hlen (by simp [hlen])
 unfold unpack
 rw [i6,i7,← hlen]
 refine wpAny_bind (wpAny_holding (ou hh hr hm fun s₁ items K hl=>?_))
 obtain ⟨S1,kf1⟩:=S.kp K
 obtain ⟨L,a1,a2,a3,a4,a5,a6,a7,a8,a9,a10,a11⟩:=vd (C:=C) (A:=A) (E:=E) (env:=env) es ns js (m.map fun _=>false) m items hn hj (by simp [hlen]) hlen (by rw [hl.length,hlen])
 rw [← a1,← a2]
 have ho:∀ e∈L,e.own=false∧RepV C X s₁.heap e.v e.val:=a8 _ (nS hl)
 refine S1.iN O L (k'.kp S K) (fun e he=>?_) (a9 hd (ig _ _)) fun s₂ S2 k₂ kf2=>hQ s₂ ?_ k₂ (kf1.trans kf2)
 ·obtain ⟨q1,q2⟩:=a5 e he
  obtain ⟨q3,q4⟩:=ho e he
  exact ⟨q1,(fun q=>by rw [q3] at q;cases q),(by rw [q3];exact q4),q2 _⟩
 ·have e:vals (js.map sets)=(js.map sets).zip (m.map fun _=>false):=by
   rw [lk]
   congr 1
   rw [List.map_const',List.map_const']
   simp [hlen]
  rw [e,a4 ρ] at hs
  cases hs
  exact S2
theorem gR {e:Expr} {es:List Expr} {k:Nat} {tp:Pos} {l:Nat}:swapsWithSole [.Tuple es k tp] e l env=pure false:=by
 cases e <;> rfl
theorem jQ {e:Expr} {es:List Expr} {k:Nat} {tp:Pos} (h:∀ vs k p,e≠.Tuple vs k p):swappedStores [.Tuple es k tp] e env=pure none:=by
 cases e <;> first | rfl | exact absurd rfl (h _ _ _)
theorem aV.BR {es:List Expr} {ns:List Str} {js:List Nat} {kk:Nat} {tp pos:Pos} {e:Expr} {d:aq} (h:az C cx false e d) (O:bc cx) (hn:namesOf es=some ns) (hd:distinct ns=true) (hj:fA cx ns=some js) (hne:∀ vs k p,e≠.Tuple vs k p):
  aV C cx (.Assign [.Tuple es kk tp] e pos) (eU (js.map sets) d):=by
 intro n call hc X0 Pn env aj ρ p s X A Q E hA S k hrm N
 refine wpAny_Assign_stores (h.st hc S k hrm N fun v p₁ val s₁ S1 k₁ kf _ hv N1=>?_) gR (jQ hne)
 show wpAny _ _ (assign (.Tuple es kk tp) env val) _ _ _
 cases hm:itemsOf v with
 | none=>rw [hm] at N1;exact absurd rfl N1.go
 | some m=>
  rw [hm] at N1
  cases hst:storeAll (vals (js.map sets)) m ρ with
  | none=>have N1:bf C cx X0 Pn env aj A (@Option.rec Fr (fun _=>af) af.stuck (fun ρ=>af.next ρ p₁) (storeAll (vals (js.map sets)) m ρ)) Q E s₁ X:=N1;rw [hst] at N1;exact absurd rfl N1.go
  | some ρ'=>
   have N1:bf C cx X0 Pn env aj A (@Option.rec Fr (fun _=>af) af.stuck (fun ρ=>af.next ρ p₁) (storeAll (vals (js.map sets)) m ρ)) Q E s₁ X:=N1
   rw [hst] at N1
   exact iL S1 k₁ O hrm.handled hn hd hj hv hm hst fun s₂ S2 k₂ kf2=>N1.cc S2 k₂ kf2
end
section
variable {C:Cfg} {cx:Cx} {X0 X X' Pn:AP} {env:Env} {aj s s' s'':Shared} {ρ ρ':Fr} {p p':List V} {A:Around} {Q:Flow→Shared→Prop} {E:Value→Shared→Prop} {h h':Heap} {n:Nat} {call:Call} {b:Bool} {I a:Addr} {wr:List Addr} {o:Bool} {l:List V}
def afterLoop (M:Model) (A:Around) (env:Env) (Q:Flow→Shared→Prop) (E:Value→Shared→Prop) (r:Result) (s':Shared):Prop:=match r with
 | .ok f=>Q f s'
 | .error e=>cameBackBy M A env E e s'
theorem pN {k:List Nat} {e:Value} (S:St C cx X0 Pn env aj ρ p s X) (kk:aN C A s.heap) (hA:∃ l,A.frames=some (env::l)) (hcls:∃ q,C.cls=.ref q) (x:ExcAt C aj.heap true (some env.locals) k s.heap e)
  (hE:∀ s',St C cx X0 Pn env aj ρ p s' X→aN C A s'.heap→ExcAt C aj.heap true (some env.locals) k s'.heap e→E e s'):notedBy (model C.prog C.w) A env (fun x s'=>afterLoop (model C.prog C.w) A env Q E (.error x) s') e s:=by
 obtain ⟨l,hl⟩:=hA
 obtain ⟨l',hl',hF⟩:=id kk
 rw [hl] at hl';cases hl'
 refine lE hl hF S.efr S.vw.base S.base0 S.has hcls x fun s₁ Y m₁ x1=>?_
 have S1:=S.marked m₁
 have k₁:=kk.mk m₁
 show wpAny _ _ _ _ _ _
 obtain ⟨a,oe,d,m,w,t,vs,rfl,e2,e3,e4,e5,e6,e7,e8,e9,e10⟩:=id x1
 rcases e10 with ⟨q,_⟩ | ⟨T,oT,ts,f1,f2⟩
 ·cases q
 ·refine wpAny_bind (wpAny_field e2 e9 f1 ?_)
  rw [if_neg (show ¬((Value.ref T==Value.none)=true) from Bool.false_ne_true)]
  refine gL S1.vw.base S.base0 x1 fun s₂ yB m₂ x2=>?_
  rw [S.efr] at x2
  refine hE s₂ (S1.marked m₂) (k₁.mk m₂) ?_
  obtain ⟨a,oe,d,m,w,t,vs,g1,g2,g3,g4,g5,g6,g7,g8,g9,g10⟩:=x2
  exact ⟨a,oe,d,m,w,t,vs,g1,g2,g3,g4,g5,g6,g7,g8,g9,g10.elim (fun q=>nomatch q.1) .inr⟩
theorem cQ.BU {e:Expr} {d:aq} {K:V→List V→af} {Q₁:Bool→Shared→Prop} (h:cQ C cx e d) (hc:cL C n call) (S:St C cx X0 Pn env aj ρ p s X) (k:aN C A s.heap) (hr:cR A n)
  (N:bf C cx X0 Pn env aj A (@Res.rec (fun _=>af) af.stuck K (fun e p=>af.exc e ρ p) (d call ρ p)) Q E s X)
  (hk:∀ v p₁ s₁,d call ρ p=.ok v p₁→St C cx X0 Pn env aj ρ p₁ s₁ X→aN C A s₁.heap→Kf X X s s₁→bf C cx X0 Pn env aj A (K v p₁) Q E s₁ X→nv Q₁ v s₁):wpAny (model C.prog C.w) A (isTrue e env (eval e env)) Q₁ E s:=by
 rw [n7] at N
 refine h n call hc X Pn env ρ p s A Q₁ E S.vw k hr (bp.o.mpr (N.o (O:=nv Q₁) S k fun v p₁ s₁ e S1 k₁ kf _ N1=>hk v p₁ s₁ ?_ S1 k₁ kf N1))
 cases hd:d call ρ p with
 | stuck=>rw [hd] at e;cases e
 | exc k q=>rw [hd] at e;cases e
 | ok v q=>rw [hd] at e;cases e;rfl
theorem aV.rX {t:Expr} {body:List Stmt} {pos:Pos} {dt:aq} {db:bb} (hcls:∃ q,C.cls=.ref q) (ht:cQ C cx t dt) (hb:dn C cx body db):aV C cx (.While t body [] pos) (bC dt db):=by
 intro n call hc X0 Pn env aj ρ p s X A Q E hA S k hrm N
 refine wpAny_While ?_
 show codeAny (model C.prog C.w) A (.whileLoop t body [] env) (afterLoop (model C.prog C.w) A env Q E) s
 have loop:∀ (m:Nat) (ρ:Fr) (p:List V) (s₁:Shared) (X1:AP),St C cx X0 Pn env aj ρ p s₁ X1→aN C A s₁.heap→Kf X X1 s s₁→bf C cx X0 Pn env aj A (fz dt db call m ρ p) Q E s X→
   codeAny (model C.prog C.w) A (.whileLoop t body [] env) (afterLoop (model C.prog C.w) A env Q E) s₁:=by
  intro m
  induction m with
  | zero=>intro ρ p s₁ X1 S1 k₁ kf N;exact absurd rfl N.go
  | succ m ih=>
   intro ρ p s₁ X1 S1 k₁ kf N
   refine codeAny_of_tree ?_
   show wpAny (model C.prog C.w) A ((whileTurn t body [] env).onRaise fun x=>do noteFrame x env;theTreesLotGoes x) _ _ s₁
   refine wpAny_noted ?_
   unfold whileTurn
   have N':bf C cx X0 Pn env aj A (@Res.rec (fun _=>af) af.stuck (fun v p=>(@V.rec (fun _=>af) (fun _=>Unit) af.stuck (fun q=>@Bool.rec (fun _=>af) (af.next ρ p) (@af.rec (fun _=>af) af.stuck (fz dt db call m) af.next (fz dt db call m) af.ret af.exc (db call ρ p)) q)
     (fun _=>af.stuck) (fun _=>af.stuck) (fun _ _=>af.stuck) (fun _ _=>af.stuck) (fun _ _ _ _=>af.stuck) (fun _ _ _=>af.stuck) () (fun _ _ _ _=>()) v)) (fun e p=>af.exc e ρ p) (dt call ρ p)) Q E s X:=N
   have N'':bf C cx X0 Pn env aj A _ Q (notedBy (model C.prog C.w) A env fun x s'=>afterLoop (model C.prog C.w) A env Q E (.error x) s') s₁ X1:=
    ⟨N'.go,(N'.to kf).next,(N'.to kf).brk,(N'.to kf).cont,(N'.to kf).ret,fun kx ρ' p' e s' X' S' k' x xa=>pN S' k' hA hcls xa fun s'' S'' k'' xa'=>N'.exc kx ρ' p' e s'' X' S'' k'' x xa'⟩
   refine wpAny_bind (ht.BU hc S1 k₁ hrm N'' fun v aO s₂ hdt S2 k₂ kf2 N2=>?_)
   have NE:=N'
   rw [hdt] at NE
   obtain ⟨q,rfl⟩:=nu N2.go
   refine ⟨q,rfl,?_⟩
   cases q with
   | false=>
    show wpAny _ _ (execs [] env >>= fun f=>pure (Fin.done f)) _ _ _
    exact wpAny_bind (wpAny_execs_nil (wpAny_pure (N2.cc S2 k₂ .refl)))
   | true=>
    show wpAny _ _ (execs body env >>= _) _ _ _
    refine wpAny_bind (hb n call hc X0 Pn env aj ρ aO s₂ X1 A _ _ hA S2 k₂ hrm ?_)
    have N2:bf C cx X0 Pn env aj A (@af.rec (fun _=>af) af.stuck (fz dt db call m) af.next (fz dt db call m) af.ret af.exc (db call ρ aO)) Q _ s₂ X1:=N2
    have NE:bf C cx X0 Pn env aj A (@af.rec (fun _=>af) af.stuck (fz dt db call m) af.next (fz dt db call m) af.ret af.exc (db call ρ aO)) Q E s X:=NE
    have base:∀ ρ' p',(db call ρ aO=.next ρ' p'∨db call ρ aO=.cont ρ' p')→bf C cx X0 Pn env aj A (fz dt db call m ρ' p') Q E s X:=fun ρ' p' e=>by
     rcases e with e | e <;> (rw [e] at NE;exact NE)
    refine ⟨fun e=>(by rw [e] at NE;exact NE.go rfl),fun ρ' p' e aP X3 S3 bk kf3=>?_,fun ρ' p' e aP X3 S3 bk kf3=>?_,fun ρ' p' e aP X3 S3 bk kf3=>?_,fun v ρ' p' e aP X3 S3 bk kf3 val hv=>?_,fun kx ρ' p' e=>?_⟩
    ·exact wpAny_pure ⟨rfl,ih ρ' p' aP X3 S3 bk ((kf.trans kf2).trans kf3) (base ρ' p' (.inl e))⟩
    ·rw [e] at N2;exact wpAny_pure (N2.next _ _ rfl aP X3 S3 bk kf3)
    ·exact wpAny_pure ⟨rfl,ih ρ' p' aP X3 S3 bk ((kf.trans kf2).trans kf3) (base ρ' p' (.inr e))⟩
    ·rw [e] at N2;exact wpAny_pure (N2.ret _ _ _ rfl aP X3 S3 bk kf3 val hv)
    ·rw [e] at N2;exact N2.exc kx ρ' p' rfl
 exact loop _ ρ p s X S k .refl N
end
section
variable {C:Cfg} {cx:Cx} {X0 X X' Pn:AP} {env:Env} {aj s s' s'':Shared} {ρ ρ':Fr} {p p':List V} {A:Around} {Q:Flow→Shared→Prop} {E:Value→Shared→Prop} {h h':Heap} {n:Nat} {call:Call} {b:Bool} {I a:Addr} {wr:List Addr} {o:Bool} {l:List V}
theorem bK.kf (r:bK C X Pn s.heap I wr a o l) (k:Kf X X' s s') (hw:∀ c∈wr,¬X c) (ha:¬X a):bK C X' Pn s'.heap I wr a o l∧(∀ c∈wr,¬X' c)∧¬X' a:=by
 have t:∀ b o,s.heap.get? b=some o→Kc o→¬X b→s'.heap.get? b=some o:=fun b o e hc hx=>(k.keep b o e hc hx).1
 have T:=k.tr
 refine ⟨?_,fun c hc=>?_,?_⟩
 ·cases r with
  | list h1 h2 h3 h4=>
   obtain ⟨x,e,c,d⟩:=h1;obtain ⟨z,n,e2⟩:=h2
   exact .list ⟨x,t _ _ e (aW c (by decide)) (hw _ (by simp)),c,d⟩ ⟨z,n,t _ _ e2 (aW rfl (by decide)) ha⟩ h3 (h4.tr T)
  | tup h1 h2 h3 h4=>
   obtain ⟨x,e,c,d⟩:=h1;obtain ⟨z,n,e2⟩:=h2
   exact .tup ⟨x,t _ _ e (aW c (by decide)) (hw _ (by simp)),c,d⟩ ⟨z,n,t _ _ e2 (aW rfl (by decide)) ha⟩ h3 (h4.tr T)
  | range h1=>exact .range (t _ _ h1 (aW rfl (by decide)) (hw _ (by simp)))
  | rev h1 h2 h3 h4 h5=>
   obtain ⟨x,e,c,d⟩:=h1;obtain ⟨z,n,e2⟩:=h2
   exact .rev ⟨x,t _ _ e (aW c (by decide)) (hw _ (by simp)),c,d⟩ ⟨z,n,t _ _ e2 (aW rfl (by decide)) ha⟩ h3 h4 (h5.tr T)
  | enum h1 h2 h3 h4 h5=>
   obtain ⟨x,e,c,d⟩:=h2;obtain ⟨z,n,e2⟩:=h3
   exact .enum (t _ _ h1 (aW rfl (by decide)) (hw _ (by simp))) ⟨x,t _ _ e (aW c (by decide)) (hw _ (by simp)),c,d⟩ ⟨z,n,t _ _ e2 (aW rfl (by decide)) ha⟩ h4 (h5.tr T)
  | items h1 h2 h3 h4 h5 h6=>
   exact .items (t _ _ h1 (aW rfl (by decide)) (hw _ (by simp))) (t _ _ h2 (aW rfl (by decide)) ha) h3 h4 (h5.tr T) (h6.tr T)
 ·obtain ⟨ob,n,e,hcl,_,hn,_⟩:=r.own.2 c hc
  exact (k.keep c ob e (aW hcl hn) (hw c hc)).2
 ·have key:∃ ob,s.heap.get? a=some ob∧Kc ob:=by
   cases r with
   | list h1 h2=>obtain ⟨_,n,e⟩:=h2;exact ⟨_,e,aW rfl (by decide)⟩
   | tup h1 h2=>obtain ⟨_,n,e⟩:=h2;exact ⟨_,e,aW rfl (by decide)⟩
   | range h1=>exact ⟨_,h1,aW rfl (by decide)⟩
   | rev h1 h2=>obtain ⟨_,n,e⟩:=h2;exact ⟨_,e,aW rfl (by decide)⟩
   | enum h1 h2 h3=>obtain ⟨_,n,e⟩:=h3;exact ⟨_,e,aW rfl (by decide)⟩
   | items h1 h2=>exact ⟨_,h2,aW rfl (by decide)⟩
  obtain ⟨ob,e,hc⟩:=key
  exact (k.keep a ob e hc ha).2
theorem lV (t:Expr) (own:Bool):mH t own=tgtOk t own:=by cases t <;> rfl
theorem qa {t:Expr} {tg:d8} {v:V} {val:Value} {Q:Unit→Shared→Prop} (S:St C cx X0 Pn env aj ρ p s X) (k:aN C A s.heap) (O:bc cx) (hh:A.handled=none) (ht:q9 cx t=some tg) (e:cM tg v ρ=some ρ') (hr:RepV C X s.heap v val)
  (hQ:∀ s',St C cx X0 Pn env aj ρ' p s' X→aN C A s'.heap→Kf X X s s'→Q () s'):wpAny (model C.prog C.w) A (assign t env val) Q E s:=by
 unfold q9 at ht
 split at ht
 ·rename_i x px
  cases hj:cq cx x with
  | none=>rw [hj] at ht;cases ht
  | some j=>
   rw [hj] at ht;cases ht
   cases e
   exact wpAny_assign_Name (S.store O k hj (sl:=.val v) hr (RepV.fE S.loc hr) (fun _ q=>nomatch q) fun s' S' k' kf _=>hQ s' S' k' kf)
 ·rename_i x px y py kk pt
  cases hj:cq cx x with
  | none=>rw [hj] at ht;cases ht
  | some j=>
   cases hj':cq cx y with
   | none=>rw [hj,hj'] at ht;cases ht
   | some j'=>
    cases hne:(x !=y) with
    | false=>rw [hj,hj',hne] at ht;cases ht
    | true=>
     rw [hj,hj',hne] at ht;cases ht
     have key:∃ u w,v=.tup [u,w]∧ρ'=sets j' (sets j ρ (.val u)) (.val w):=by
      cases v <;> simp only [cM] at e <;> (try cases e)
      case tup l=>
       match l,e with
       | [u,w],e=>exact ⟨u,w,rfl,by simpa using e.symm⟩
       | [],e=>cases e
       | [_],e=>cases e
       | _::_::_::_,e=>cases e
     obtain ⟨u,w,rfl,rfl⟩:=key
     have hxy:x≠y:=by simpa using hne
     exact iL (ns:=[x,y]) (js:=[j,j']) (m:=[u,w]) S k O hh rfl (by simp [distinct,hxy]) (by simp [fA,hj,hj']) hr rfl rfl hQ
 ·cases ht
theorem Ay {r:Res} {K:List V→List V→af}:(@Res.rec (fun _=>af) af.stuck (fun v p=>@Option.rec (List V) (fun _=>af) af.stuck (fun l=>K l p) (itemsOf v)) (fun e p=>af.exc e ρ p) r)=(itO r).toS ρ K:=by
 unfold itO
 cases r with
 | stuck=>rfl
 | exc k p=>rfl
 | ok v p=>
  show (@Option.rec (List V) (fun _=>af) af.stuck (fun l=>K l p) (itemsOf v))=Out.toS (match itemsOf v with | some l=>Out.ok l p | none=>.stuck) ρ K
  cases itemsOf v <;> rfl
noncomputable def qL (t:Expr) (it:Value) (body orelse:List Stmt) (env:Env) (v:Value):Sem Fin:=do
 assign t env v
 match ← execs body env with
 | .next | .cont=>again (.forLoop t it body orelse env)
 | .brk=>pure (.done .next)
 | .ret v=>pure (.done (.ret v))
def t7 (M:Model) (A:Around) (R:Result→Shared→Prop) (fin:Fin) (s':Shared):Prop:=match fin with
 | .done f=>R (.ok f) s'
 | .again c'=>c'.quiet=true∧codeAny M A c' R s'
theorem aV.BM {t src:Expr} {body:List Stmt} {pos:Pos} {sd:aq} {db:bb} {tg:d8} {own:Bool} (hcls:∃ q,C.cls=.ref q) (hIt:dp C cx false src sd own) (hfs:∀ env x,foldedSetIterable src env x=pure x) (hto:tgtOk t own=true) (htg:q9 cx t=some tg) (hb:dn C cx body db) (O:bc cx):
  aV C cx (.For t src body [] pos) (bI tg sd db):=by
 intro n call hc X0 Pn env aj ρ p s X A Q E hA S k hrm N
 have N0:bf C cx X0 Pn env aj A ((itO (sd call ρ p)).toS ρ fun l p=>forL tg db call l ρ p) Q E s X:=by rw [← Ay];exact N
 refine wpAny_For ?_ (hfs env)
 refine hIt n call hc X Pn env ρ p s A _ E S.vw k hrm (N0.o S k fun l p₁ s₁ hio S1 k₁ kf1 hn N1 I wr a o hwo it hfr hXa=>?_)
 show codeAny (model C.prog C.w) A (.forLoop t (.ref I) body [] env) (afterLoop (model C.prog C.w) A env Q E) s₁
 have ht':tgtOk t o=true:=by
  cases o with
  | true=>have h:=hwo rfl;subst h;exact hto
  | false=>cases t <;> simp [tgtOk] at hto ⊢
 have hw:∀ c∈wr,¬X c:=fun c hc hx=>by obtain ⟨o,ho⟩:=S.vw.lt c hx;rw [hfr c hc] at ho;cases ho
 have ha:¬X a:=fun hx=>hw a (hXa rfl hx) hx
 have hw0:∀ c∈wr,aj.heap.get? c=none:=fun c hc=>S.old (hfr c hc)
 have N2:=N0
 rw [hio] at N2
 have loop:∀ (l:List V) (ρ:Fr) (p:List V) (s₂:Shared) (eg:AP),St C cx X0 Pn env aj ρ p s₂ eg→aN C A s₂.heap→(∀ b o,s.heap.get? b=some o→Kc o→¬X b→s₂.heap.get? b=some o∧¬eg b)→bK C eg Pn s₂.heap I wr a o l→(∀ c∈wr,¬eg c)→¬eg a→
   bf C cx X0 Pn env aj A (forL tg db call l ρ p) Q E s X→codeAny (model C.prog C.w) A (.forLoop t (.ref I) body [] env) (afterLoop (model C.prog C.w) A env Q E) s₂:=by
  intro l
  induction l with
  | nil=>
   intro ρ p s₂ eg S2 k₂ kf it hw2 ha2 N
   refine codeAny_of_tree ?_
   show wpAny (model C.prog C.w) A ((forTurn t (.ref I) body [] env).onRaise fun x=>do noteFrame x env;theTreesLotGoes x) _ _ s₂
   refine wpAny_noted ?_
   unfold forTurn
   refine wpAny_bind (wpAny_standAt (wpAny_bind (wpAny_onRaise (it.stop hrm.handled rfl fun aP kw=>?_))))
   have hB:Base C aP.heap:=kw.base (fun c hc=>S2.lD (hw0 c hc)) S2.vw.base
   have S3:St C cx X0 Pn env aj ρ p aP eg:=S2.mS (Y:=fun b=>b∈wr) (kw.nx hB (fun _ q=>q) it.nc) hw0 (fun b hb o e=>⟨it.j4 b hb o e,it.fW b hb o e⟩) (mcode:=fun b hb hx=>absurd hx (hw2 b hb)) fun b hb=>by
    obtain ⟨o,e⟩:=S2.vw.lt b hb
    exact ⟨o,kw.keep b o (fun q=>hw2 b q hb) e⟩
   have bk:=k₂.uZ kw hB it.fW it.nc
   refine wpAny_pure ⟨rfl,codeAny_of_tree ?_⟩
   show wpAny (model C.prog C.w) A ((execs [] env).onRaise (fun x=>do noteFrame x env;theTreesLotGoes x) >>= fun f=>pure (Fin.done f)) _ _ aP
   refine wpAny_bind (wpAny_noted (wpAny_execs_nil (wpAny_pure ?_)))
   refine N.next ρ p rfl aP eg S3 bk ⟨fun b o e hc hx=>?_⟩
   obtain ⟨q1,q2⟩:=kf b o e hc hx
   exact ⟨kw.keep b o (fun q=>by rw [hfr b q] at e;cases e) q1,q2⟩
  | cons v l ih=>
   intro ρ p s₂ eg S2 k₂ kf it hw2 ha2 N
   have N':bf C cx X0 Pn env aj A (@Option.rec Fr (fun _=>af) af.stuck (fun ρ=>@af.rec (fun _=>af) af.stuck (forL tg db call l) af.next (forL tg db call l) af.ret af.exc (db call ρ p)) (cM tg v ρ)) Q E s X:=N
   cases hbt:cM tg v ρ with
   | none=>rw [hbt] at N';exact absurd rfl N'.go
   | some ρ1=>
    rw [hbt] at N'
    have N':bf C cx X0 Pn env aj A (@af.rec (fun _=>af) af.stuck (forL tg db call l) af.next (forL tg db call l) af.ret af.exc (db call ρ1 p)) Q E s X:=N'
    refine codeAny_of_tree ?_
    show wpAny (model C.prog C.w) A ((forTurn t (.ref I) body [] env).onRaise fun x=>do noteFrame x env;theTreesLotGoes x) _ _ s₂
    refine wpAny_noted ?_
    unfold forTurn
    refine wpAny_bind (wpAny_standAt (wpAny_bind (wpAny_onRaise (wpAny_mono (it.next (tg:=t) (Q:=fun val aP=>wpAny (model C.prog C.w) A (qL t (.ref I) body [] env val) (t7 (model C.prog C.w) A (afterLoop (model C.prog C.w) A env Q E)) (notedBy (model C.prog C.w) A env fun x s'=>afterLoop (model C.prog C.w) A env Q E (.error x) s') aP) S2.vw.lt rfl ht' fun val aP kw hval it3=>?_) (fun r aP q=>?_) fun e s' x=>wpAny_standAt x))))
    rotate_left
    ·obtain ⟨val,rfl,q⟩:=q
     exact wpAny_bind q
    ·have hB:Base C aP.heap:=kw.base (fun c hc=>S2.lD (hw0 c hc)) S2.vw.base
     have S3:St C cx X0 Pn env aj ρ p aP eg:=S2.mS (Y:=fun b=>b∈wr) (kw.nx hB (fun _ q=>q) it.nc) hw0 (fun b hb o e=>⟨it.j4 b hb o e,it.fW b hb o e⟩) (mcode:=fun b hb hx=>absurd hx (hw2 b hb)) fun b hb=>by
      obtain ⟨o,e⟩:=S2.vw.lt b hb
      exact ⟨o,kw.keep b o (fun q=>hw2 b q hb) e⟩
     have bk:=k₂.uZ kw hB it.fW it.nc
     have kf3:∀ b o,s.heap.get? b=some o→Kc o→¬X b→aP.heap.get? b=some o∧¬eg b:=fun b o e hc hx=>by
      obtain ⟨q1,q2⟩:=kf b o e hc hx
      exact ⟨kw.keep b o (fun q=>by rw [hfr b q] at e;cases e) q1,q2⟩
     unfold qL
     refine wpAny_bind (qa S3 bk O hrm.handled htg hbt hval fun dG S4 k4 kf4=>?_)
     obtain ⟨it4,hw4,ha4⟩:=it3.kf kf4 hw2 ha2
     refine wpAny_bind (hb n call hc X0 Pn env aj ρ1 p dG eg A _ _ hA S4 k4 hrm ?_)
     have next:∀ ρ' p',(db call ρ1 p=.next ρ' p'∨db call ρ1 p=.cont ρ' p')→∀ bE X5,St C cx X0 Pn env aj ρ' p' bE X5→aN C A bE.heap→Kf eg X5 dG bE→codeAny (model C.prog C.w) A (.forLoop t (.ref I) body [] env) (afterLoop (model C.prog C.w) A env Q E) bE:=fun ρ' p' e bE X5 S5 fY kf5=>by
      obtain ⟨it5,hw5,ha5⟩:=it4.kf kf5 hw4 ha4
      refine ih ρ' p' bE X5 S5 fY (fun b o eb hc hx=>?_) it5 hw5 ha5 (by rcases e with e | e <;> (rw [e] at N';exact N'))
      obtain ⟨q1,q2⟩:=kf3 b o eb hc hx
      exact (kf4.trans kf5).keep b o q1 hc q2
     have all:∀ {X5:AP} {bE:Shared},Kf eg X5 dG bE→Kf X X5 s bE:=fun {X5 bE} q=>⟨fun b o eb hc hx=>by
      obtain ⟨q1,q2⟩:=kf3 b o eb hc hx
      exact (kf4.trans q).keep b o q1 hc q2⟩
     refine ⟨fun e=>(by rw [e] at N';exact N'.go rfl),fun ρ' p' e bE X5 S5 fY kf5=>wpAny_pure ⟨rfl,next ρ' p' (.inl e) bE X5 S5 fY kf5⟩,fun ρ' p' e bE X5 S5 fY kf5=>?_,fun ρ' p' e bE X5 S5 fY kf5=>wpAny_pure ⟨rfl,next ρ' p' (.inr e) bE X5 S5 fY kf5⟩,
      fun u ρ' p' e bE X5 S5 fY kf5 val hv=>?_,fun kx ρ' p' e bE X5 S5 fY x xa=>?_⟩
     ·rw [e] at N';exact wpAny_pure (N'.next _ _ rfl bE X5 S5 fY (all kf5))
     ·rw [e] at N';exact wpAny_pure (N'.ret _ _ _ rfl bE X5 S5 fY (all kf5) val hv)
     ·rw [e] at N';exact pN S5 fY hA hcls xa fun xj S6 k6 xa'=>N'.exc kx ρ' p' rfl xj X5 S6 k6 x xa'
 exact loop l ρ p₁ s₁ X S1 k₁ (fun b o e hc hx=>kf1.keep b o e hc hx) it hw ha N2
end
section
variable {C:Cfg} {cx:Cx} {X0 X X' Pn:AP} {env:Env} {aj s s' s'':Shared} {ρ ρ':Fr} {p p':List V} {A:Around} {Q:Flow→Shared→Prop} {E:Value→Shared→Prop} {h h':Heap} {n:Nat} {call:Call} {b:Bool}
inductive iz (C:Cfg) (cx:Cx):List Bool→List Expr→List aq→Prop
 | nil:iz C cx [] [] []
 | val {os:List Bool} {e:Expr} {d:aq} {es:List Expr} {ds:List aq}:az C cx false e d→(∀ x p,e≠.Starred x p)→iz C cx os es ds→iz C cx (false::os) (e::es) (d::ds)
 | own {os:List Bool} {e:Expr} {d:aq} {es:List Expr} {ds:List aq}:gC C cx e d→(∀ x p,e≠.Starred x p)→iz C cx os es ds→iz C cx (true::os) (e::es) (d::ds)
structure gN (C:Cfg) (X X' Pn:AP) (env:Env) (s s':Shared):Prop where
 kf:Kf X X' s s'
 up:∀ b,X b→X' b
 own:∀ v a,¬Pn a→OwnR C X s.heap v a→OwnR C X' s'.heap v a
 rd:∀ y v,Reads env s.heap y v→Reads env s'.heap y v
 there:∀ b,(∃ o,s.heap.get? b=some o)→∃ o,s'.heap.get? b=some o
theorem gN.refl:gN C X X Pn env s s:=⟨.refl,fun _ q=>q,fun _ _ _ q=>q,fun _ _ q=>q,fun _ q=>q⟩
theorem gN.trans {X'':AP} (a:gN C X X' Pn env s s') (b:gN C X' X'' Pn env s' s''):gN C X X'' Pn env s s'':=
 ⟨a.kf.trans b.kf,fun x q=>b.up x (a.up x q),fun v x hp q=>b.own v x hp (a.own v x hp q),fun y v q=>b.rd y v (a.rd y v q),fun x q=>b.there x (a.there x q)⟩
theorem St.steps (S:St C cx X0 Pn env aj ρ p s X) (hn:Nx C Pn s s') (hp:aY C X Pn s'.heap p'):gN C X X Pn env s s':=
 ⟨(S.next hn hp).2,fun _ q=>q,fun _ _ ha q=>q.ext hn.ext S.vw.pnX ha,fun _ _ q=>q.ext hn.ext S.vw.au,fun b q=>Ext.lt hn.ext hp b q⟩
theorem sN {os:List Bool} {es:List Expr} {ds:List aq} (h:iz C cx os es ds):∀ {n:Nat} {call:Call},cL C n call→∀ {ρ:Fr} {p:List V} {s:Shared} {X:AP} {A:Around} {K:List V→List V→af} {Q₁:List Value→Shared→Prop} {pos:Pos},St C cx X0 Pn env aj ρ p s X→aN C A s.heap→cR A n→
  bf C cx X0 Pn env aj A ((a0 ds call ρ p).out.toS ρ K) Q E s X→
  (∀ l p₁ vals s₁ X1,St C cx X0 Pn env aj ρ p₁ s₁ X1→aN C A s₁.heap→gN C X X1 Pn env s s₁→jH (Item C cx X1 Pn env aj ρ s₁) os l vals→iA os vals→(∀ b y,(b,y)∈os.zip vals→b=true→∃ a,y=.ref a∧s.heap.get? a=none)→bf C cx X0 Pn env aj A (K l p₁) Q E s₁ X1→Q₁ vals s₁)→
  wpAny (model C.prog C.w) A (spliced (backTo pos (starEach es env))) Q₁ E s:=by
 induction h with
 | nil=>
  intro n call hc ρ p s X A K Q₁ pos S k hr N hk
  exact wpAny_items_nil (hk [] p [] s X S k .refl trivial trivial (fun _ _ q=>nomatch q) N)
 | @val os e d es ds he hs _ ih=>
  intro n call hc ρ p s X A K Q₁ pos S k hr N hk
  have jr:(a0 (d::ds) call ρ p).out=(d call ρ p).out.bind fun v p=>(a0 ds call ρ p).out.bind fun l p=>.ok (v::l) p:=by
   show (@Res.rec (fun _=>aw) aw.stuck (fun v p=>(@aw.rec (fun _=>aw) aw.stuck (fun l p=>aw.ok (v::l) p) aw.exc (a0 ds call ρ p))) aw.exc (d call ρ p)).out=_
   rw [l6];congr 1;funext v p;rw [l8];rfl
  have fK:∀ v p,((a0 ds call ρ p).out.bind fun l p=>.ok (v::l) p).toS ρ K=(a0 ds call ρ p).out.toS ρ fun l p=>K (v::l) p:=fun v p=>by cases (a0 ds call ρ p).out <;> rfl
  have ur:(a0 (d::ds) call ρ p).out.toS ρ K=@Res.rec (fun _=>af) af.stuck (fun v p=>(a0 ds call ρ p).out.toS ρ fun l p=>K (v::l) p) (fun e p=>af.exc e ρ p) (d call ρ p):=by
   rw [jr]
   cases d call ρ p with
   | stuck=>rfl
   | exc k q=>rfl
   | ok v q=>exact fK v q
  rw [ur] at N
  refine wpAny_items_cons ?_ (aJ hs env)
  refine he.st hc S k hr N fun v p₁ val s₁ S1 k₁ kf hn hv N1=>ih hc (pos:=pos) S1 k₁ hr N1 fun l aO vals s₂ eg S2 k₂ st hi ho hf N2=>?_
  refine hk (v::l) aO (val::vals) s₂ eg S2 k₂ ((S.steps hn S1.vw.au).trans st) ⟨RepV.tr st.kf.tr hv,hi⟩ ⟨(fun q=>nomatch q),ho⟩ (fun b y hby hb=>?_) N2
  rcases List.mem_cons.mp hby with q | q
  ·cases q;cases hb
  ·obtain ⟨a,e,ha⟩:=hf b y q hb
   exact ⟨a,e,dX hn S1.vw.au ha⟩
 | @own os e d es ds he hs _ ih=>
  intro n call hc ρ p s X A K Q₁ pos S k hr N hk
  have jr:(a0 (d::ds) call ρ p).out=(d call ρ p).out.bind fun v p=>(a0 ds call ρ p).out.bind fun l p=>.ok (v::l) p:=by
   show (@Res.rec (fun _=>aw) aw.stuck (fun v p=>(@aw.rec (fun _=>aw) aw.stuck (fun l p=>aw.ok (v::l) p) aw.exc (a0 ds call ρ p))) aw.exc (d call ρ p)).out=_
   rw [l6];congr 1;funext v p;rw [l8];rfl
  have fK:∀ v p,((a0 ds call ρ p).out.bind fun l p=>.ok (v::l) p).toS ρ K=(a0 ds call ρ p).out.toS ρ fun l p=>K (v::l) p:=fun v p=>by cases (a0 ds call ρ p).out <;> rfl
  have ur:(a0 (d::ds) call ρ p).out.toS ρ K=(d call ρ p).out.toS ρ (fun v p=>(a0 ds call ρ p).out.toS ρ fun l p=>K (v::l) p):=by
   rw [jr]
   cases (d call ρ p).out with
   | stuck=>rfl
   | exc k q=>rfl
   | ok v q=>exact fK v q
  rw [ur] at N
  refine wpAny_items_cons ?_ (aJ hs env)
  refine he n call hc X Pn env ρ p s A _ E S.vw k hr (N.o S k fun v p₁ s₁ _ S1 k₁ kf hn N1 s₂ a kp ha hown=>?_)
  obtain ⟨S2,kf2,hother,hPa,h0,hL⟩:=S1.xo kp ha hown
  have st2:gN C X (Xa X a) Pn env s₁ s₂:=⟨kf2,fun _ q=>.inl q,fun v' a' ha' q=>by
    obtain ⟨o',e',hc'⟩:=q.obj
    exact q.tr kf2.tr fun o e _=>kp.keep _ o e,fun y v' q=>q.ext (kp.nx (Pn:=Pn) S1.vw.base).ext S1.vw.au,fun b ⟨o,e⟩=>⟨o,kp.keep b o e⟩⟩
  have k₂:aN C A s₂.heap:=k₁.ext (kp.nx (Pn:=Pn) S1.vw.base).ext S1.vw.au
  refine ih hc (pos:=pos) S2 k₂ hr (N1.to kf2) fun l aO vals aP X3 S3 bk st hi ho hf N2=>?_
  refine hk (v::l) aO (.ref a::vals) aP X3 S3 bk (((S.steps hn S1.vw.au).trans st2).trans st) ⟨⟨a,rfl,st.up a (.inr rfl),hPa,st.own v a hPa hown,h0,hL,fun y j w b hy hg hb=>?_⟩,hi⟩ ⟨fun _ b y hby hb q=>?_,ho⟩ (fun b y hby hb=>?_) N2
  ·obtain ⟨b',rb,_⟩:=S2.ownAt hy hg
   cases Reads.unique hb (st.rd _ _ rb)
   exact hother y j w b hy hg rb
  ·obtain ⟨a',e,ha'⟩:=hf b y hby hb
   rw [e] at q;cases q
   obtain ⟨o,q,_⟩:=hown.obj
   rw [ha'] at q;cases q
  ·rcases List.mem_cons.mp hby with q | q
   ·cases q;exact ⟨a,rfl,dX hn S1.vw.au ha⟩
   ·obtain ⟨a',e,ha'⟩:=hf b y q hb
    refine ⟨a',e,?_⟩
    cases q':s.heap.get? a' with
    | none=>rfl
    | some o=>
     obtain ⟨o',q''⟩:=((S.steps hn S1.vw.au).trans st2).there a' ⟨o,q'⟩
     rw [ha'] at q'';cases q''
theorem sh {i j:Nat} {x y:Slot} (h:i≠j):sets i (sets j ρ x) y=sets j (sets i ρ y) x:=by
 obtain ⟨s0,s1,s2,s3,s4,s5,s6,s7,s8,s9,s10,s11,s12,s13,s14,s15⟩:=ρ
 by_cases hi:i < 16
 ·by_cases hj:j < 16
  ·match i,hi with
   | 0,_ | 1,_ | 2,_ | 3,_ | 4,_ | 5,_ | 6,_ | 7,_ | 8,_ | 9,_ | 10,_ | 11,_ | 12,_ | 13,_ | 14,_ | 15,_=>
    match j,hj with
    | 0,_ | 1,_ | 2,_ | 3,_ | 4,_ | 5,_ | 6,_ | 7,_ | 8,_ | 9,_ | 10,_ | 11,_ | 12,_ | 13,_ | 14,_ | 15,_=>first | rfl | exact absurd rfl h
    | k + 16,q=>exact absurd q (by omega)
   | k + 16,q=>exact absurd q (by omega)
  ·match j,hj with
   | 0,q | 1,q | 2,q | 3,q | 4,q | 5,q | 6,q | 7,q | 8,q | 9,q | 10,q | 11,q | 12,q | 13,q | 14,q | 15,q=>exact absurd (by decide) q
   | k + 16,_=>rfl
 ·match i,hi with
  | 0,q | 1,q | 2,q | 3,q | 4,q | 5,q | 6,q | 7,q | 8,q | 9,q | 10,q | 11,q | 12,q | 13,q | 14,q | 15,q=>exact absurd (by decide) q
  | k + 16,_=>rfl
theorem ry {L:List Ent} (hd:L.Pairwise fun e f=>e.j≠f.j):putAll L.reverse ρ=putAll L ρ:=by
 unfold putAll
 induction L generalizing ρ with
 | nil=>rfl
 | cons e L ih=>
  obtain ⟨h1,h2⟩:=List.pairwise_cons.mp hd
  rw [List.reverse_cons,List.foldl_append,ih h2]
  show sets e.j (L.foldl _ ρ) (gS e.own e.v)=L.foldl _ (sets e.j ρ (gS e.own e.v))
  clear ih hd h2
  induction L generalizing ρ with
  | nil=>rfl
  | cons f L ih=>
   rw [List.foldl_cons,List.foldl_cons,ih (fun g hg=>h1 g (List.mem_cons_of_mem _ hg))]
   congr 1
   exact sh (h1 f List.mem_cons_self)
end
section
variable {C:Cfg} {cx:Cx} {X0 X X' Pn:AP} {env:Env} {aj s s' s'':Shared} {ρ ρ':Fr} {p p':List V} {A:Around} {Q:Flow→Shared→Prop} {E:Value→Shared→Prop} {h h':Heap} {n:Nat} {call:Call} {b:Bool}
theorem names_filter:∀ {es:List Expr} {ns:List Str} {l:Nat},namesOf es=some ns→(es.filterMap fun
   | .Name id pos=>if env.kindOf id==some .local&&pos.line==l then some id else none
   | _=>none).length=es.length→(es.filterMap fun
   | .Name id pos=>if env.kindOf id==some .local&&pos.line==l then some id else none
   | _=>none)=ns
 | [],ns,l,hn,_=>by cases hn;rfl
 | e::es,ns,l,hn,hl=>by
  unfold namesOf at hn
  split at hn
  ·cases ‹_::_=[]›
  ·rename_i x px r he
   cases he
   cases hr:namesOf es with
   | none=>rw [hr] at hn;cases hn
   | some l'=>
    rw [hr] at hn;cases hn
    rw [List.filterMap_cons] at hl ⊢
    have hle:=List.length_filterMap_le (fun
     | .Name id pos=>if env.kindOf id==some .local&&pos.line==l then some id else none
     | _=>none:Expr→Option Str) es
    by_cases hc:(env.kindOf x==some .local&&px.line==l)=true
    ·simp only [hc,if_true] at hl ⊢
     rw [List.length_cons,List.length_cons] at hl
     rw [names_filter hr (by omega)]
    ·exfalso
     generalize hg:List.filterMap (fun
      | .Name id pos=>if env.kindOf id==some .local&&pos.line==l then some id else none
      | _=>none:Expr→Option Str) es=g at hl hle
     have hb:(env.kindOf x==some .local&&px.line==l)=false:=by simpa using hc
     simp only [hb] at hl
     rw [List.length_cons] at hl
     have hl:g.length=es.length + 1:=hl
     omega
  ·cases hn
theorem nQ {es vs:List Expr} {ns:List Str} {kk k2:Nat} {tp vp:Pos} (hn:namesOf es=some ns) (hsw:rg vs=true):
  swappedStores [.Tuple es kk tp] (.Tuple vs k2 vp) env=pure none∨swappedStores [.Tuple es kk tp] (.Tuple vs k2 vp) env=pure (some ns):=by
 unfold swappedStores
 dsimp only
 split
 ·exact .inl rfl
 ·split
  ·exact .inl rfl
  ·split
   ·exact .inl rfl
   ·rename_i h3
    simp only [Bool.or_eq_true,bne_iff_ne,ne_eq,not_or,Decidable.not_not] at h3
    have e:=names_filter (env:=env) hn h3.1
    split
    ·exact .inl rfl
    ·rename_i h4
     split
     ·rename_i h5
      simp only [rg,h5,Bool.not_true,Bool.or_false] at hsw
      exact absurd hsw h4
     ·exact .inr (congrArg (fun l=>(pure (some l):Sem (Option (List Str)))) e)
theorem qs:∀ {ns:List Str} {vs:List Expr},∀ q∈ns.zip (owns cx ns vs),(!q.2||cx.muts.contains q.1)=true
 | [],_,q,hq=>by simp at hq
 | _::_,[],q,hq=>by simp [owns] at hq
 | x::ns,e::vs,q,hq=>by
  unfold owns at hq
  rw [List.zip_cons_cons] at hq
  rcases List.mem_cons.mp hq with rfl | hq
  ·cases hm:cx.muts.contains x with
   | true=>simp [hm]
   | false=>simp [hm]
  ·exact qs q hq
theorem lu:∀ {ns:List Str} {js:List Nat},fA cx ns=some js→js.length=ns.length
 | [],js,h=>by cases h;rfl
 | x::ns,js,h=>by
  unfold fA at h
  cases ht:cq cx x with
  | none=>rw [ht] at h;cases h
  | some j=>
   cases hl:fA cx ns with
   | none=>rw [ht,hl] at h;cases h
   | some l=>rw [ht,hl] at h;cases h;simp [lu hl]
theorem oN:∀ {ns:List Str} {vs:List Expr},vs.length=ns.length→(owns cx ns vs).length=ns.length
 | [],[],_=>rfl
 | [],_::_,h=>by simp at h
 | _::_,[],h=>by simp at h
 | x::ns,e::vs,h=>by unfold owns;simp [oN (ns:=ns) (vs:=vs) (by simpa using h)]
theorem aV.tup {es vs:List Expr} {ns:List Str} {js:List Nat} {ds:List aq} {kk k2:Nat} {tp vp pos:Pos} (h:iz C cx (owns cx ns vs) vs ds) (O:bc cx) (hn:namesOf es=some ns) (hd:distinct ns=true) (hj:fA cx ns=some js) (hsw:rg vs=true) (hz:vs.length≤100) (hlen:vs.length=ns.length):
  aV C cx (.Assign [.Tuple es kk tp] (.Tuple vs k2 vp) pos) (br ((js.map sets).zip (owns cx ns vs)) ds):=by
 intro n call hc X0 Pn env aj ρ p s X A Q E hA S k hrm N
 have N:bf C cx X0 Pn env aj A (@aw.rec (fun _=>af) af.stuck (fun l p=>@Option.rec Fr (fun _=>af) af.stuck (fun ρ=>af.next ρ p) (storeAll ((js.map sets).zip (owns cx ns vs)) l ρ)) (fun e p=>af.exc e ρ p) (a0 ds call ρ p)) Q E s X:=N
 rw [xC] at N
 have hjl:=lu hj
 have hol:(owns cx ns vs).length=js.length:=by rw [oN hlen,hjl]
 rw [exec_Assign_arm]
 refine wpAny_bind (wpAny_standAt ?_)
 rw [gR]
 refine wpAny_bind (wpAny_pure ?_)
 rw [if_neg (by decide)]
 refine wpAny_bind (wpAny_Tuple (sN h hc S k hrm N fun l p₁ vals s₁ X1 S1 k₁ st hi ho _ N1=>?_))
 obtain ⟨hl1,hl2⟩:=hi.xW
 refine ⟨by rw [aT];omega,?_⟩
 obtain ⟨L,a1,a2,a3,a4,a5,a6,a7,a8,a9,a10,a11⟩:=vd (C:=C) (A:=A) (E:=E) (env:=env) es ns js (owns cx ns vs) l vals hn hj hol (hl1.trans hol) (hl2.trans hol)
 rw [a4 ρ] at N1
 have kp1:=Kp.push (s:=s₁) { cls:=.type "tuple",data:=.seq vals.toArray }
 have hTup:(s₁.heap.push { cls:=.type "tuple",data:=.seq vals.toArray }).IsTuple s₁.heap.objs.size vals.toArray:=⟨_,Heap.get?_push_size _ rfl,rfl,0,rfl⟩
 have hap:=a9 hd ho
 have hitem:∀ {s₂:Shared},Kp s₁ s₂→∀ e∈L,cq cx e.x=some e.j∧(e.own=true→cx.muts.contains e.x=true)∧Item C cx X1 Pn env aj ρ s₂ e.own e.v e.val:=fun {s₂} kp e he=>by
  refine ⟨(a5 e he).1,fun q=>?_,(a8 _ hi e he).kp S1 kp⟩
  have:=a11 (fun x o=>!o||cx.muts.contains x) qs e he
  simpa [q] using this
 have fin:∀ {s₂:Shared} {ρ2:Fr},Kp s₁ s₂→ρ2=putAll L ρ→∀ aP,St C cx X0 Pn env aj ρ2 p₁ aP X1→aN C A aP.heap→Kf X1 X1 s₂ aP→Q .next aP:=fun {s₂ ρ2} kp eρ aP S3 bk kf=>by
  subst eρ
  exact N1.cc S3 bk ((S1.kp kp).2.trans kf)
 show wpAny _ _ _ _ _ _
 rcases nQ (env:=env) (kk:=kk) (tp:=tp) (k2:=k2) (vp:=vp) hn hsw with e | e <;> rw [e] <;> refine wpAny_bind (wpAny_pure ?_)
 ·show wpAny _ _ (assign (.Tuple es kk tp) env _ >>= fun _=>pure Flow.next) _ _ _
  refine wpAny_bind (wpAny_assign_Tuple (s:={ s₁ with heap:=s₁.heap.push { cls:=.type "tuple",data:=.seq vals.toArray } }) (items:=vals.toArray) hrm.handled hTup (by rw [a7,List.size_toArray,hl2,hol]) a6 fun aG he=>?_)
  have kp2:Kp { s₁ with heap:=s₁.heap.push { cls:=.type "tuple",data:=.seq vals.toArray } } { s₁ with heap:=aG }:=⟨fun b o eb=>he b o (fun q=>by subst q;rw [bS] at eb;cases eb) eb,rfl,rfl⟩
  have kp:=kp1.trans kp2
  rw [← a1]
  have fK:vals.toArray.toList=L.map (·.val):=by rw [a2]
  rw [fK]
  exact (S1.kp kp).1.iN O L (k₁.kp S1 kp) (fun e he=>⟨(hitem kp e he).1,(hitem kp e he).2.1,(hitem kp e he).2.2,(a5 e he).2 _⟩) hap fun aP S3 bk kf=>wpAny_pure (fin kp rfl aP S3 bk kf)
 ·show wpAny _ _ (rule "assign.swapped-stores" >>= fun _=>unpackItems _ ns.length none >>= fun items=>assignInOrder (ns.reverse.map fun n=>bindName env n) items.reverse >>= fun _=>pure Flow.next) _ _ _
  refine wpAny_bind (wpAny_rule (wpAny_bind ?_))
  have en:ns.length=vals.toArray.size:=by rw [List.size_toArray,hl2,hol,hjl]
  rw [en]
  refine wpAny_unpackItems_tuple (s:={ s₁ with heap:=s₁.heap.push { cls:=.type "tuple",data:=.seq vals.toArray } }) hrm.handled hTup fun aG he=>?_
  have kp2:Kp { s₁ with heap:=s₁.heap.push { cls:=.type "tuple",data:=.seq vals.toArray } } { s₁ with heap:=aG }:=⟨fun b o eb=>he b o (fun q=>by subst q;rw [bS] at eb;cases eb) eb,rfl,rfl⟩
  have kp:=kp1.trans kp2
  have jr:(ns.reverse.map fun n=>bindName env n)=((L.map fun e=>{ e with t:=bindName env e.x }).reverse.map (·.t):List (Value→Sem Unit)):=by
   rw [← a3,← List.map_reverse,← List.map_reverse,List.map_map,List.map_map];rfl
  have fK:vals.toArray.toList.reverse=((L.map fun e=>{ e with t:=bindName env e.x:Ent }).reverse.map (·.val):List Value):=by
   rw [← a2,← List.map_reverse,← List.map_reverse,List.map_map];rfl
  rw [jr,fK]
  have hp':apart (L.map fun e=>{ e with t:=bindName env e.x }).reverse:=by
   unfold apart at hap ⊢
   rw [List.pairwise_reverse,List.pairwise_map]
   exact hap.imp fun q=>⟨fun e=>q.1 e.symm,fun q1 q2 e=>q.2 q2 q1 e.symm⟩
  have hj':(L.map fun e=>{ e with t:=bindName env e.x:Ent }).Pairwise fun e f=>e.j≠f.j:=by
   rw [List.pairwise_map]
   refine hap.imp_of_mem fun {e f} he hf q ej=>q.1 ?_
   have he':=(ez (a5 e he).1).1
   have hf':=(ez (a5 f hf).1).1
   have ej:e.j=f.j:=ej
   rw [ej] at he'
   exact O.inj _ _ _ he' hf'
  refine wpAny_bind ((S1.kp kp).1.iN O _ (k₁.kp S1 kp) (fun e he=>?_) hp' fun aP S3 bk kf=>wpAny_pure (fin kp ?_ aP S3 bk kf))
  ·obtain ⟨e',he',rfl⟩:=List.mem_map.mp (List.mem_reverse.mp he)
   exact ⟨(hitem kp e' he').1,(hitem kp e' he').2.1,(hitem kp e' he').2.2,fun s Q q=>wpAny_bindName q⟩
  ·rw [ry hj']
   unfold putAll
   rw [List.foldl_map]
end
section
variable {C:Cfg} {cx:Cx} {X0 X X' Pn:AP} {env:Env} {aj s s' s'':Shared} {ρ ρ':Fr} {p p':List V} {A:Around} {Q:Flow→Shared→Prop} {E:Value→Shared→Prop} {h h':Heap} {n:Nat} {call:Call} {b:Bool}
theorem LstAt.map {a:Addr} {vs ws:List Value} {f:Array Value→Array Value} (x:LstAt h a vs) (e:f vs.toArray=ws.toArray) (hz:ws.length≤most):LstAt (h.update a (Obj.mapSeq f)) a ws:=by
 obtain ⟨_,m,hob⟩:=x
 have e:∃ n',Obj.mapSeq f (cy vs m)=cy ws n':=by
  obtain ⟨n',hd'⟩:=Obj.data_mapSeq (o:=cy vs m) (xs:=vs.toArray) (n:=m) rfl f
  refine ⟨n',?_⟩
  unfold Obj.mapSeq cy at *
  simpa [e] using hd'
 obtain ⟨n',e⟩:=e
 exact ⟨hz,n',by rw [Heap.get?_update_self _ hob (by rw [e];rfl),e]⟩
theorem St.qz {x:Str} {j:Nat} {l l':List V} {a:Addr} {f:Array Value→Array Value} {vs ws:List Value} (S:St C cx X0 Pn env aj ρ p s X) (k:aN C A s.heap) (O:bc cx) (hx:cx.vars.lookup x=some j) (hg:ay j ρ=.own (.lst l)) (ra:Reads env s.heap x (.ref a))
  (hl:LstAt s.heap a vs) (hf:f vs.toArray=ws.toArray) (hz:ws.length≤most) (hws:∀ h',Tr X s.heap X h'→RepVs C X h' l' ws):
  St C cx X0 Pn env aj (sets j ρ (.own (.lst l'))) p { s with heap:=s.heap.update a (Obj.mapSeq f) } X∧aN C A (s.heap.update a (Obj.mapSeq f))∧Kf X X s { s with heap:=s.heap.update a (Obj.mapSeq f) }:=by
 obtain ⟨a',ra',hXa,_⟩:=S.ownAt hx hg
 cases Reads.unique ra ra'
 have hs:Heap.SameBut a s.heap (s.heap.update a (Obj.mapSeq f)):=Heap.SameBut.update ..
 have ho:OwnR C X (s.heap.update a (Obj.mapSeq f)) (.lst l') a:=by simp only [OwnR];exact ⟨ws,hl.map hf hz,hws _ (bo hs hXa)⟩
 exact S.mut (tk:=s.toks) k O hx hg ra hs ho
theorem fg {α:Type}:∀ (l:List α) (n:Nat) (x:α),jm l n x=l.take (min n l.length)++x::l.drop (min n l.length)
 | [],n,x=>by simp [jm]
 | a::r,0,x=>by show x::a::r=_;simp
 | a::r,n + 1,x=>by
  show a::jm r n x=_
  rw [fg r n x,List.length_cons,Nat.succ_min_succ]
  rfl
theorem p8 {a:Addr} {vs:List Value} {m:Nat} {x:Int} {u:Tok} {val:Value} {Q:Value→Shared→Prop} {E:Value→Shared→Prop} (hob:s.heap.get? a=some (cy vs m)) (hfit:Builtin.List.listFitsIndex x=true) (hz:vs.length≤sizeLine)
  (hQ:Q .none { s with heap:=s.heap.update a (Obj.mapSeq fun xs=>have k:=if x < 0 then (x + (xs.size:Int)).toNat else min x.toNat xs.size;(xs.extract 0 k).push val++xs.extract k) }):
  wpAny (model C.prog C.w) A (PySem.call (.builtin "list.insert") [.ref a,.int x u,val]) Q E s:=
 call_meets F.slot_list_insert ⟨_,hob,rfl⟩ F.entry_list_insert (F.args_list_insert_3 _ _ _) (PySem.AutoSeq1.list_insert_list_int_val_1 a vs.toArray m x u val (by simp [hfit]) (by rw [List.size_toArray];exact hz)) ⟨hob,hQ⟩
theorem aV.insert {x:Str} {px ap cp pos:Pos} {i e:Expr} {di d:aq} {j:Nat} (hi:az C cx true i di) (h:az C cx false e d) (hs:∀ e' p',e≠.Starred e' p') (hs':∀ e' p',i≠.Starred e' p') (O:bc cx) (hx:cx.vars.lookup x=some j) (ok:aM x=true) (hl:(ap.endLine==cp.line)=true):
  aV C cx (.Expr (.Call (.Attribute (.Name x px) "insert" ap) [i,e] [] cp) pos) (oE (ay j) (sets j) di d):=by
 intro n call hc X0 Pn env aj ρ p s X A Q E hA S k hrm N
 obtain ⟨l,hg⟩:=oO N.go
 have N:bf C cx X0 Pn env aj A (@Res.rec (fun _=>af) af.stuck (fun w p=>@Res.rec (fun _=>af) af.stuck (fun v p=>fu (ay j) (sets j) ρ p (rF w v)) (fun e p=>af.exc e ρ p) (d call ρ p)) (fun e p=>af.exc e ρ p) (di call ρ p)) Q E s X:=by
  have q:=N;unfold oE at q;rw [hg] at q;exact q
 refine wpAny_Expr_any ?_ S.eM
 refine wpAny_Call_method (T := "list") (id := "list.insert") (fw rfl _ _) (by rw [aJ hs',aJ hs];rfl) hl F.plainAttrs_list F.slot_list_insert F.type_list_insert (S.recv hx hg ok fun a ra ho=>?_)
 have ho':=ho
 simp only [OwnR] at ho'
 obtain ⟨vs,⟨_,m,hob⟩,_⟩:=ho'
 refine ⟨⟨_,hob,rfl⟩,fun a' ea=>by cases ea;exact ⟨_,hob,rfl⟩,?_⟩
 rw [aJ hs',aJ hs]
 refine uX (hi.st hc S k hrm N fun w p₁ valw s₁ S1 k₁ kf hn hw N1=>h.st hc S1 k₁ hrm N1 fun v aO val s₂ S2 k₂ kf2 bT hv N2=>?_)
 rw [iG hg] at N2
 have ra2:=(ra.ext hn.ext S.vw.au).ext bT.ext S1.vw.au
 obtain ⟨a',ra',hXa,hna,ho,h0,_⟩:=S2.ownAt hx hg
 cases Reads.unique ra2 ra'
 cases happ:rF w v (.lst l) with
 | none=>rw [happ] at N2;exact absurd rfl N2.go
 | some o=>
  rw [happ] at N2
  cases w <;> simp only [rF] at happ <;> (try cases happ)
  case int w=>
   cases w with
   | negSucc q=>cases happ
   | ofNat q=>
    obtain ⟨hq,happ⟩:=cJ happ
    obtain ⟨hsh,eo⟩:=fc happ
    cases eo
    obtain ⟨u,rfl⟩:=hw.b.int
    have ho':=ho
    simp only [OwnR] at ho'
    obtain ⟨vs,⟨hz,m,hob⟩,hvs⟩:=ho'
    have hT:s₂.TypeIs (.ref a) "list" := ⟨_,hob,rfl⟩
    have hlen:=hvs.length
    have hsz:=cU hsh
    have hli:lid=3000:=rfl
    rw [blt_dec,decide_eq_true_eq] at hq
    have hfit:Builtin.List.listFitsIndex (Int.ofNat q)=true:=by
     unfold Builtin.List.listFitsIndex
     simp only [Int.ofNat_eq_natCast,Bool.and_eq_true,decide_eq_true_eq]
     omega
    have hf:(fun xs:Array Value=>have k:=if (Int.ofNat q) < 0 then ((Int.ofNat q) + (xs.size:Int)).toNat else min (Int.ofNat q).toNat xs.size;(xs.extract 0 k).push val++xs.extract k) vs.toArray=(jm vs q val).toArray:=by
     have:¬(Int.ofNat q) < 0:=by simp
     simp only [if_neg this,fg]
     apply Array.ext'
     have e:(min (Int.ofNat q).toNat vs.toArray.size)=min q vs.length:=by simp
     rw [e]
     simp [List.take_of_length_le]
    obtain ⟨S3,bk,kf3⟩:=S2.qz (f:=fun xs:Array Value=>have k:=if (Int.ofNat q) < 0 then ((Int.ofNat q) + (xs.size:Int)).toNat else min (Int.ofNat q).toNat xs.size;(xs.extract 0 k).push val++xs.extract k) k₂ O hx hg ra2 ⟨hz,m,hob⟩ hf (l':=jm l q v) (ws:=jm vs q val) (by rw [fg];simp [most];omega) (fun h' T=>by
     rw [fg,fg,← hlen]
     exact ((hvs.take _).tr T).append (.cons (RepV.tr T hv) ((hvs.drop _).tr T)))
    have hQ:=N2.cc S3 bk kf3
    exact p8 hob hfit (by rw [aT];omega) hQ
end
section
variable {C:Cfg} {cx:Cx} {X0 X X' Pn:AP} {env:Env} {aj s s' s'':Shared} {ρ ρ':Fr} {p p':List V} {A:Around} {Q:Flow→Shared→Prop} {E:Value→Shared→Prop} {h h':Heap} {n:Nat} {call:Call} {b:Bool}
theorem jK:∀ {l l':List V} {v:V},lastInit l=some (l',v)→l=l'++[v]
 | [],_,_,e=>by cases e
 | [v],_,_,e=>by cases e;rfl
 | v::w::r,l',x,e=>by
  unfold lastInit at e
  cases q:lastInit (w::r) with
  | none=>rw [q] at e;cases e
  | some y=>rw [q] at e;cases e;rw [jK q];rfl
theorem RepVs.snoc:∀ {l:List V} {v:V} {vs:List Value},RepVs C X h (l++[v]) vs→∃ ws y,vs=ws++[y]∧RepVs C X h l ws∧RepV C X h v y
 | [],v,vs,r=>by
  simp only [List.nil_append,RepVs] at r
  obtain ⟨y,r,rfl,q,rfl⟩:=r
  exact ⟨[],y,rfl,.nil,q⟩
 | x::l,v,vs,r=>by
  simp only [List.cons_append,RepVs] at r
  obtain ⟨z,r,rfl,q,t⟩:=r
  obtain ⟨ws,y,rfl,a,b⟩:=t.snoc
  exact ⟨z::ws,y,rfl,.cons q a,b⟩
theorem mx:∀ (ws:List Value) (y:Value),(ws++[y]).eraseIdx ws.length=ws
 | [],_=>rfl
 | a::r,y=>by show a::(r++[y]).eraseIdx r.length=_;rw [mx r y]
theorem rK (ws:List Value) (y:Value):((ws++[y]).toArray).eraseIdxIfInBounds ((ws++[y]).toArray.size - 1)=ws.toArray:=by
 have e:(ws++[y]).toArray.size - 1=ws.length:=by simp
 rw [e]
 simp [Array.eraseIdxIfInBounds,mx]
theorem qq {y:Str} {py ap cp:Pos} {kk:Nat} {l l':List V} {v:V} {Q₁:Value→Shared→Prop} (S:St C cx X0 Pn env aj ρ p s X) (k:aN C A s.heap) (O:bc cx) (hx:cx.vars.lookup y=some kk) (hg:ay kk ρ=.own (.lst l)) (ok:aM y=true) (hl:(ap.endLine==cp.line)=true)
  (e:lastInit l=some (l',v)) (hQ:∀ val s',St C cx X0 Pn env aj (sets kk ρ (.own (.lst l'))) p s' X→aN C A s'.heap→Kf X X s s'→RepV C X s'.heap v val→Q₁ val s'):
  wpAny (model C.prog C.w) A (eval (.Call (.Attribute (.Name y py) "pop" ap) [] [] cp) env) Q₁ E s:=by
 refine wpAny_Call_method (T := "list") (id := "list.pop") (fw rfl _ _) (by rfl) hl F.plainAttrs_list F.slot_list_pop F.type_list_pop (S.recv hx hg ok fun a ra ho=>?_)
 have ho':=ho
 simp only [OwnR] at ho'
 obtain ⟨vs,⟨hz,m,hob⟩,hvs⟩:=ho'
 refine ⟨⟨_,hob,rfl⟩,fun a' ea=>by cases ea;exact ⟨_,hob,rfl⟩,Ar ?_⟩
 have hT:s.TypeIs (.ref a) "list" := ⟨_,hob,rfl⟩
 rw [jK e] at hvs
 obtain ⟨ws,z,rfl,hws,hz'⟩:=hvs.snoc
 have hm:most=8000:=rfl
 have hzz:=hz
 rw [List.length_append,List.length_singleton] at hzz
 obtain ⟨S1,k₁,kf⟩:=S.qz (f:=fun xs=>xs.eraseIdxIfInBounds ((ws++[z]).toArray.size - 1)) (l':=l') (ws:=ws) k O hx hg ra ⟨hz,m,hob⟩ (rK ws z) (by omega) fun h' T=>hws.tr T
 refine call_meets F.slot_list_pop hT F.entry_list_pop (F.args_list_pop_1 _) (PySem.MeetsSeq.list_pop_last a (ws++[z]).toArray m z (by simp) (by rw [List.size_toArray,aT];omega)) ⟨hob,hQ _ _ S1 k₁ kf (RepV.tr kf.tr hz')⟩
noncomputable def popK (ts:List bw) (v:V) (ρ:Fr) (p:List V):af:=match ts with
 | [t]=>.next (t ρ (.val v)) p
 | _=>match itemsOf v with
  | some m=>match storeAll (vals ts) m ρ with
   | some ρ=>.next ρ p
   | none=>.stuck
  | none=>.stuck
theorem qm {ts:List bw} {g:cZ} {st:bw} (e:sPop ts g st call ρ p≠.stuck):∃ l l' v,g ρ=.own (.lst l)∧lastInit l=some (l',v)∧sPop ts g st call ρ p=popK ts v (st ρ (.own (.lst l'))) p:=by
 have h1:∃ l,g ρ=.own (.lst l):=by
  unfold sPop at e
  split at e
  ·exact ⟨_,‹_›⟩
  ·exact absurd rfl e
 obtain ⟨l,hg⟩:=h1
 have h2:∃ l' v,lastInit l=some (l',v):=by
  unfold sPop at e
  simp only [hg] at e
  split at e
  ·exact ⟨_,_,‹_›⟩
  ·exact absurd rfl e
 obtain ⟨l',v,hl⟩:=h2
 refine ⟨l,l',v,hg,hl,?_⟩
 unfold sPop popK
 simp only [hg,hl]
 try rfl
theorem aV.pop {x y:Str} {px py ap cp pos:Pos} {j kk:Nat} (O:bc cx) (ht:cq cx x=some j) (hy:cx.vars.lookup y=some kk) (ok:aM y=true) (hl:(ap.endLine==cp.line)=true):
  aV C cx (.Assign [.Name x px] (.Call (.Attribute (.Name y py) "pop" ap) [] [] cp) pos) (sPop [sets j] (ay kk) (sets kk)):=by
 intro n call hc X0 Pn env aj ρ p s X A Q E hA S k hrm N
 obtain ⟨l,l',v,hg,he,e⟩:=qm N.go
 rw [e] at N
 exact wpAny_Assign_Name (qq S k O hy hg ok hl he fun val s₁ S1 k₁ kf hv=>S1.store O k₁ ht (sl:=.val v) hv (RepV.fE S1.loc hv) (fun _ q=>nomatch q) fun s₂ S2 k₂ kf2 _=>(N.to kf).cc S2 k₂ kf2) (eZ rfl)
theorem aV.Bu {es:List Expr} {ns:List Str} {js:List Nat} {k1:Nat} {tp:Pos} {y:Str} {py ap cp pos:Pos} {kk:Nat} (O:bc cx) (hn:namesOf es=some ns) (hd:distinct ns=true) (hj:fA cx ns=some js) (h1:ns.length≠1) (hy:cx.vars.lookup y=some kk) (ok:aM y=true) (hl:(ap.endLine==cp.line)=true):
  aV C cx (.Assign [.Tuple es k1 tp] (.Call (.Attribute (.Name y py) "pop" ap) [] [] cp) pos) (sPop (js.map sets) (ay kk) (sets kk)):=by
 intro n call hc X0 Pn env aj ρ p s X A Q E hA S k hrm N
 obtain ⟨l,l',v,hg,he,e⟩:=qm N.go
 have hl1:js.length≠1:=by rw [lu hj];exact h1
 have e:sPop (js.map sets) (ay kk) (sets kk) call ρ p=(match itemsOf v with
    | some m=>match storeAll (vals (js.map sets)) m (sets kk ρ (.own (.lst l'))) with
     | some ρ=>.next ρ p
     | none=>.stuck
    | none=>.stuck):=by
  rw [e]
  match js,hl1 with
  | [],_=>rfl
  | [_],q=>exact absurd rfl q
  | _::_::_,_=>rfl
 rw [e] at N
 refine wpAny_Assign_stores (qq S k O hy hg ok hl he fun val s₁ S1 k₁ kf hv=>?_) gR (jQ fun _ _ _ q=>by cases q)
 have N1:=N.to kf
 show wpAny _ _ (assign (.Tuple es k1 tp) env val) _ _ _
 cases hm:itemsOf v with
 | none=>rw [hm] at N1;exact absurd rfl N1.go
 | some m=>
  rw [hm] at N1
  cases hst:storeAll (vals (js.map sets)) m (sets kk ρ (.own (.lst l'))) with
  | none=>simp only [hst] at N1;exact absurd rfl N1.go
  | some ρ'=>
   simp only [hst] at N1
   exact iL S1 k₁ O hrm.handled hn hd hj hv hm hst fun s₂ S2 k₂ kf2=>N1.cc S2 k₂ kf2
theorem gu {α:Type}:∀ (l:List α) (n:Nat),d6 l n=l.eraseIdx n
 | [],_=>rfl
 | a::r,0=>rfl
 | a::r,n + 1=>by show a::d6 r n=_;rw [gu r n];rfl
theorem RepVs.erase:∀ {l:List V} {vs:List Value} (n:Nat),RepVs C X h l vs→RepVs C X h (l.eraseIdx n) (vs.eraseIdx n)
 | [],_,n,r=>by simp only [RepVs] at r;subst r;simpa using RepVs.nil
 | x::xs,_,0,r=>by
  simp only [RepVs] at r
  obtain ⟨v,q,rfl,a,b⟩:=r
  exact b
 | x::xs,_,n + 1,r=>by
  simp only [RepVs] at r
  obtain ⟨v,q,rfl,a,b⟩:=r
  exact .cons a (b.erase n)
theorem ip {α β:Type} (f:α→β):∀ (l:List α) (n:Nat),(l.eraseIdx n).map f=(l.map f).eraseIdx n
 | [],_=>rfl
 | a::r,0=>rfl
 | a::r,n + 1=>by simp [ip f r n]
theorem ke {w:World}:∀ (l:List V) (n:Nat),hashVs w (l.eraseIdx n)=(hashVs w l).eraseIdx n
 | [],_=>by simp [hashVs]
 | a::r,0=>by simp [hashVs]
 | a::r,n + 1=>by simp [hashVs,ke r n]
theorem nj {d:Addr} {ks xs:List V} {k:V} {key:Value} {o:Option Nat} {Q:Option DictEntry→Shared→Prop} {E:Value→Shared→Prop} (hd:OwnR C X s.heap (.aQ ks xs) d) (hX:X d) (hx:keyOk 8 k=true) (hkey:RepV C X s.heap k key) (hu:A.units + 100 < cLine) (hf:cD ks k 0=some o)
  (hnone:o=none→∀ tk,Q none { s with toks:=tk })
  (hsome:∀ m v,o=some m→dM xs m=some v→∀ e h' tk,Heap.SameBut d s.heap h'→OwnR C X h' (.aQ (d6 ks m) (d6 xs m)) d→RepV C X s.heap v e.val→Q (some e) { s with heap:=h',toks:=tk }):
  wpAny (model C.prog C.w) A (Builtin.Dict.takeOut d key) Q E s:=by
 simp only [OwnR] at hd
 obtain ⟨es,⟨⟨hsys,hz⟩,n,ho⟩,hks,hxs,hh,hok⟩:=hd
 have hm:most=8000:=rfl
 unfold Builtin.Dict.takeOut
 try with_reducible refine wpAny_holding ?_
 refine wpAny_bind (lB (C:=C) (X:=X) 8 k key _ _ _ _ hx hkey (by omega) fun tk=>wpAny_bind (jz (C:=C) (X:=X) (s:={ s with toks:=tk }) ho hks hh hok hx hkey hu hf ?_))
 cases o with
 | none=>exact wpAny_pure (hnone rfl tk)
 | some m=>
  obtain ⟨e,he,_⟩:=(ents hks hh hok hf).hit m rfl
  refine wpAny_bind (wpAny_dictEntries (s:={ s with toks:=tk }) ho rfl ?_)
  have he':es.toArray[m]?=some e:=by simpa using he
  rw [he']
  refine wpAny_bind (wpAny_updateDictKeys (s:={ s with toks:=tk }) ho rfl ?_ (by rw [aT,List.size_toArray];omega))
  have hs:Heap.SameBut d s.heap (s.heap.update d (Obj.mapDictKeys fun x=>x.eraseIdxIfInBounds m)):=Heap.SameBut.update ..
  have T:=bo (X:=X) hs hX
  have hlt:=(List.getElem?_eq_some_iff.mp he).1
  have hlen:=hxs.length
  rw [List.length_map] at hlen
  have hv:xs[m]?=some xs[m]:=List.getElem?_eq_getElem (by omega)
  obtain ⟨v',hv',hr'⟩:=hxs.get hv
  rw [List.getElem?_map,he] at hv'
  cases hv'
  refine wpAny_pure (hsome m xs[m] rfl (by rw [fq];exact hv) e _ tk hs ?_ hr')
  simp only [OwnR]
  refine ⟨es.eraseIdx m,⟨⟨hsys,?_⟩,n + 1,?_⟩,?_,?_,?_,?_⟩
  ·rw [List.length_eraseIdx];split <;> omega
  ·have e:Obj.mapDictKeys (fun x=>x.eraseIdxIfInBounds m) (cH es n)=cH (es.eraseIdx m) (n + 1):=by
    unfold Obj.mapDictKeys cH
    simp
   rw [Heap.get?_update_self _ ho (by rw [e];rfl),e]
  ·rw [ip,gu];exact (hks.tr T).erase m
  ·rw [ip,gu];exact (hxs.tr T).erase m
  ·rw [ip,hh,gu,ke]
  ·intro q hq
   rw [gu] at hq
   exact hok q (List.mem_of_mem_eraseIdx hq)
end
section
variable {C:Cfg} {cx:Cx} {X0 X X' Pn:AP} {env:Env} {aj s s' s'':Shared} {ρ ρ':Fr} {p p':List V} {A:Around} {Q:Flow→Shared→Prop} {E:Value→Shared→Prop} {h h':Heap} {n:Nat} {call:Call} {b:Bool}
noncomputable def popDK (t st:bw) (ks vs:List V) (k d:V) (ρ:Fr) (p:List V):af:=match keyOk 8 k with
 | true=>match cD ks k 0 with
  | some (some n)=>match dM vs n with
   | some v=>.next (t (st ρ (.own (.aQ (d6 ks n) (d6 vs n)))) (.val v)) p
   | none=>.stuck
  | some none=>.next (t ρ (.val d)) p
  | none=>.stuck
 | false=>.stuck
theorem tN {t:bw} {g:cZ} {st:bw} {dk dd:aq} (e:sPopD t g st dk dd call ρ p≠.stuck):∃ ks vs,g ρ=.own (.aQ ks vs)∧
  sPopD t g st dk dd call ρ p=@Res.rec (fun _=>af) af.stuck (fun k p=>@Res.rec (fun _=>af) af.stuck (fun d p=>popDK t st ks vs k d ρ p) (fun e p=>af.exc e ρ p) (dd call ρ p)) (fun e p=>af.exc e ρ p) (dk call ρ p):=by
 have h1:∃ ks vs,g ρ=.own (.aQ ks vs):=by
  unfold sPopD at e
  split at e
  ·exact ⟨_,_,‹_›⟩
  ·exact absurd rfl e
 obtain ⟨ks,vs,hg⟩:=h1
 refine ⟨ks,vs,hg,?_⟩
 unfold sPopD popDK
 simp only [hg]
 cases dk call ρ p with
 | stuck=>rfl
 | exc k q=>rfl
 | ok k q=>dsimp only;cases dd call ρ q <;> rfl
theorem ux {a:Addr} {ks xs:List V} {k:V} {key val:Value} {o:Option Nat} {Q E:Value→Shared→Prop} (hd:OwnR C X s.heap (.aQ ks xs) a) (hX:X a) (hx:keyOk 8 k=true) (hkey:RepV C X s.heap k key) (hu:A.units + 200 < cLine) (hf:cD ks k 0=some o)
  (hnone:o=none→∀ tk,Q val { s with toks:=tk })
  (hsome:∀ m v,o=some m→dM xs m=some v→∀ y h' tk,Heap.SameBut a s.heap h'→OwnR C X h' (.aQ (d6 ks m) (d6 xs m)) a→RepV C X s.heap v y→Q y { s with heap:=h',toks:=tk }):
  wpAny (model C.prog C.w) A (PySem.call (.builtin "dict.pop") [.ref a,key,val]) Q E s:=by
 have ho':=hd
 simp only [OwnR] at ho'
 obtain ⟨es,⟨⟨hsys,hz⟩,m,hob⟩,hks,hxs,hh,hok⟩:=ho'
 have hT:s.TypeIs (.ref a) "dict" := ⟨_,hob,rfl⟩
 refine wpAny_call_entry F.slot_dict_pop hT F.entry_dict_pop ?_ (F.args_dict_pop_3 _ _ _)
 unfold Builtin.«dict.pop»
 refine wpAny_bind ?_
 unfold Builtin.Dict.keyAndDefault
 refine wpAny_bind (wpAny_notOrdered_dict hT ?_)
 show wpAny _ _ (pure (a,key,some val)) _ _ s
 refine wpAny_pure ?_
 dsimp only
 have none_:∀ tk,o=none→wpAny (model C.prog C.w) A.in1 (Builtin.Dict.missedRemoval a key >>= fun _=>rule "dict.pop.default" >>= fun _=>PySem.ret val) (fun fin s'=>∃ v,fin=.done (.ret v)∧Q v s') E { s with toks:=tk }:=fun tk e=>
  wpAny_bind (wpAny_missedRemoval_other hsys (wpAny_bind (wpAny_rule (wpAny_pure ⟨val,rfl,hnone e tk⟩))))
 have tk_some:∀ m v,o=some m→dM xs m=some v→∀ (en:DictEntry) h' tk,Heap.SameBut a s.heap h'→OwnR C X h' (.aQ (d6 ks m) (d6 xs m)) a→RepV C X s.heap v en.val→wpAny (model C.prog C.w) A.in1 (letGo [en.key] [en.val] >>= fun _=>PySem.ret en.val) (fun fin s'=>∃ v,fin=.done (.ret v)∧Q v s') E { s with heap:=h',toks:=tk }:=fun m v e hv en h' tk hs ho hr=>
  wpAny_bind (wpAny_letGo (wpAny_pure ⟨en.val,rfl,hsome m v e hv en.val h' tk hs ho hr⟩))
 have hu':A.in1.units + 100 < cLine:=by show A.units + 1 + 100 < cLine;omega
 split
 ·refine wpAny_bind (wpAny_pure ?_)
  simp only [Bool.false_eq_true,if_false]
  refine wpAny_bind (nj hd hX hx hkey hu' hf (fun e tk=>?_) fun m v e hv en h' tk hs ho hr=>?_)
  ·simp only [Option.isNone_none,if_true]
   exact none_ tk e
  ·simp only [Option.isNone_some,Bool.false_eq_true,if_false]
   exact tk_some m v e hv en h' tk hs ho hr
 ·refine wpAny_bind (wpAny_dictEntries hob rfl (wpAny_bind (wpAny_pure ?_)))
  cases hes:es.toArray.isEmpty with
  | true=>
   have he:es=[]:=by simpa using hes
   subst he
   have hk0:ks=[]:=by have:=hks.length;simpa using this.symm
   subst hk0
   have ho:o=none:=by have hf:(some none:Option (Option Nat))=some o:=hf;cases hf;rfl
   simp only [if_true]
   refine wpAny_bind (wpAny_rule (wpAny_bind (wpAny_pure ?_)))
   simp only [Option.isNone_none,if_true]
   exact none_ s.toks ho
  | false=>
   simp only [Bool.false_eq_true,if_false]
   refine wpAny_bind (nj hd hX hx hkey hu' hf (fun e tk=>?_) fun m v e hv en h' tk hs ho hr=>?_)
   ·simp only [Option.isNone_none,if_true]
    exact none_ tk e
   ·simp only [Option.isNone_some,Bool.false_eq_true,if_false]
    exact tk_some m v e hv en h' tk hs ho hr
theorem aV.Bv {x y:Str} {px py ap cp pos:Pos} {j kk:Nat} {ek ed:Expr} {dk dd:aq} (hk':az C cx false ek dk) (hd':az C cx false ed dd) (hs':∀ e' p',ek≠.Starred e' p') (hs:∀ e' p',ed≠.Starred e' p') (O:bc cx) (ht:cq cx x=some j) (hy:cx.vars.lookup y=some kk) (ok:aM y=true) (hl:(ap.endLine==cp.line)=true):
  aV C cx (.Assign [.Name x px] (.Call (.Attribute (.Name y py) "pop" ap) [ek,ed] [] cp) pos) (sPopD (sets j) (ay kk) (sets kk) dk dd):=by
 intro n call hc X0 Pn env aj ρ p s X A Q E hA S k hrm N
 obtain ⟨ks,xs,hg,e⟩:=tN N.go
 rw [e] at N
 refine wpAny_Assign_Name (wpAny_Call_method (T := "dict") (id := "dict.pop") (fw rfl _ _) (by rw [aJ hs',aJ hs];rfl) hl F.plainAttrs_dict F.slot_dict_pop F.type_dict_pop (S.recv hy hg ok fun a ra ho=>?_)) (eZ rfl)
 have ho':=ho
 simp only [OwnR] at ho'
 obtain ⟨es,⟨_,m,hob⟩,_⟩:=ho'
 refine ⟨⟨_,hob,rfl⟩,fun a' ea=>by cases ea;exact ⟨_,hob,rfl⟩,?_⟩
 rw [aJ hs',aJ hs]
 refine uX (hk'.st hc S k hrm N fun w p₁ valw s₁ S1 k₁ kf hn hw N1=>hd'.st hc S1 k₁ hrm N1 fun v aO val s₂ S2 k₂ kf2 bT hv N2=>?_)
 have hw:RepV C X s₂.heap w valw:=RepV.tr kf2.tr hw
 have ra2:=(ra.ext hn.ext S.vw.au).ext bT.ext S1.vw.au
 obtain ⟨a',ra',hXa,hna,ho,h0,_⟩:=S2.ownAt hy hg
 cases Reads.unique ra2 ra'
 unfold popDK at N2
 cases hkey:keyOk 8 w with
 | false=>simp only [hkey] at N2;exact absurd rfl N2.go
 | true=>
  simp only [hkey] at N2
  cases hf:cD ks w 0 with
  | none=>simp only [hf] at N2;exact absurd rfl N2.go
  | some o=>
   have hu:=hrm.units
   refine ux ho hXa hkey hw (by omega) hf (fun e tk=>?_) fun m v' e hv' y h' tk hs ho' hr=>?_
   ·subst e
    simp only [hf] at N2
    have kp:Kp s₂ { s₂ with toks:=tk }:=.toks tk
    obtain ⟨S3,kf3⟩:=S2.kp kp
    exact S3.store O (k₂.kp S2 kp) ht (sl:=.val v) hv (RepV.fE S3.loc hv) (fun _ q=>nomatch q) fun dG S4 k4 kf4 _=>N2.cc S4 k4 (kf3.trans kf4)
   ·subst e
    simp only [hf,hv'] at N2
    obtain ⟨S3,bk,kf3⟩:=S2.mut (tk:=tk) k₂ O hy hg ra2 hs ho'
    have hr3:RepV C X h' v' y:=hr.tr (bo hs hXa)
    exact S3.store O bk ht (sl:=.val v') hr3 (RepV.fE S3.loc hr3) (fun _ q=>nomatch q) fun dG S4 k4 kf4 _=>N2.cc S4 k4 (kf3.trans kf4)
end
section
variable {C:Cfg} {cx:Cx} {X0 X X' Pn:AP} {env:Env} {aj s s' s'':Shared} {ρ ρ':Fr} {p p':List V} {A:Around} {Q:Flow→Shared→Prop} {E:Value→Shared→Prop} {h h':Heap} {n:Nat} {call:Call} {b:Bool}
theorem jX {l:Addr} {vs:List Value} {i:Int} {t:Tok} {v:Value} {Q:Unit→Shared→Prop} {E:Value→Shared→Prop} (hl:LstAt s.heap l vs) (h0:0≤i) (hi:i < vs.length)
  (hQ:∀ h',Heap.SameBut l s.heap h'→LstAt h' l (vs.set i.toNat v)→Q () { s with heap:=h' }):wpAny (model C.prog C.w) A (setItem (.ref l) (.int i t) v) Q E s:=by
 have hl0:=hl
 obtain ⟨hz,n,ho⟩:=hl
 have hm:most=8000:=rfl
 have hT:s.TypeIs (.ref l) "list" := ⟨_,ho,rfl⟩
 have hfit:i < 2 ^ 63:=by omega
 unfold setItem
 try with_reducible refine wpAny_holding ?_
 first | refine wpAny_bind (wpAny_pure ?_) | skip
 refine wpAny_bind (wpAny_sequenceKey hT (by decide) ?_)
 refine wpAny_bind (wpAny_callSpecial?_slot (name:=Str.ofString "__setitem__") hT slot_list_setitem
  (wpAny_call_entry slot_list_setitem hT entry_list_setitem ?_ (args_list_setitem _ _ _)))
 show wpAny _ _ (Builtin.List.listSubscript? (.int i t) >>= _) _ _ s
 refine wpAny_bind (wpAny_listSubscript_int (fitsIndex_of h0 hfit) ?_)
 clear hfit
 obtain ⟨j,rfl⟩:=Int.eq_ofNat_of_zero_le h0
 have hj:j < vs.length:=by omega
 have hx':vs.toArray[j]?=some vs[j]:=by simp
 show wpAny _ _ ((seqItemAt l j >>= fun r=>pure (r.map (j,·))) >>= _) _ _ s
 refine wpAny_bind (wpAny_bind (wpAny_seqItemAt ho rfl (wpAny_pure ?_)))
 rw [hx']
 show wpAny _ _ (setSeqItemAt l j v >>= _) _ _ s
 have hfin:LstAt (s.heap.update l (Obj.mapSeq (·.setIfInBounds j v))) l (vs.set j v):=hl0.map (by simp) (by simpa using hz)
 refine wpAny_bind (wpAny_setSeqItemAt ho rfl ?_)
 first
  | exact wpAny_bind (wpAny_pure (wpAny_pure ⟨.none,rfl,wpAny_pure (hQ _ (Heap.SameBut.update ..) hfin)⟩))
  | exact wpAny_pure ⟨.none,rfl,wpAny_pure (hQ _ (Heap.SameBut.update ..) hfin)⟩
theorem oC {d:Addr} {ks xs ks' xs':List V} {k v:V} {key val:Value} {Q:Unit→Shared→Prop} {E:Value→Shared→Prop} (hd:OwnR C X s.heap (.aQ ks xs) d) (hX:X d) (hput:dJ ks xs k v=some (ks',xs'))
  (hkey:RepV C X s.heap k key) (hval:RepV C X s.heap v val) (hu:A.units + 200 < cLine)
  (hQ:∀ h' tk,Heap.SameBut d s.heap h'→OwnR C X h' (.aQ ks' xs') d→Q () { s with heap:=h',toks:=tk }):wpAny (model C.prog C.w) A (setItem (.ref d) key val) Q E s:=by
 have oi:=hd
 simp only [OwnR] at hd
 obtain ⟨es,⟨_,n,ho⟩,_⟩:=hd
 have hT:s.TypeIs (.ref d) "dict" := ⟨_,ho,rfl⟩
 unfold setItem
 try with_reducible refine wpAny_holding ?_
 refine wpAny_bind (wpAny_sequenceKey hT (by decide) ?_)
 refine wpAny_bind (wpAny_callSpecial?_slot (name:=Str.ofString "__setitem__") hT slot_dict_setitem
  (wpAny_call_entry slot_dict_setitem hT entry_dict_setitem ?_ (args_dict_setitem _ _ _)))
 show wpAny _ _ (Builtin.Dict.notOrdered "__setitem__" ⟨[.ref d,key,val],[]⟩ >>= _) _ _ s
 refine wpAny_bind (wpAny_notOrdered_dict hT ?_)
 show wpAny _ _ (dictSet d key val >>= _) _ _ s
 exact wpAny_bind (kh oi hX hput hkey hval (by show A.units + 1 + 100 < cLine;omega) fun h' tk hs' ho'=>wpAny_pure ⟨.none,rfl,wpAny_pure (hQ h' tk hs' ho')⟩)
theorem rx {l l':List V} {i:Int} {v:V} (e:putAt l i v=some l'):∃ n,i=Int.ofNat n∧n < l.length∧l'=l.set n v:=by
 cases i with
 | negSucc n=>cases e
 | ofNat n=>
  have e:(@Bool.rec (fun _=>Option (List V)) none (some (setAt l n v)) (Nat.blt n (cW l)))=some l':=e
  obtain ⟨q,e⟩:=cJ e
  cases e
  rw [blt_dec,decide_eq_true_eq,bD] at q
  exact ⟨n,rfl,q,lz _ _ _⟩
theorem St.au {P:Addr} {h':Heap} {p':List V} {vs:List Value} (S:St C cx X0 Pn env aj ρ p s X) (k:aN C A s.heap) (hP:Pn P) (hs:Heap.SameBut P s.heap h') (hl:LstAt h' P vs) (hr:RepVs C X h' p' vs):
  St C cx X0 Pn env aj ρ p' { s with heap:=h' } X∧aN C A h'∧Kf X X s { s with heap:=h' }:=by
 obtain ⟨ws,⟨hz,m,hob⟩,hw⟩:=S.vw.au.at_ P hP
 have hX:=S.vw.pnX P hP
 have hn:Nx C Pn s { s with heap:=h' }:=by
  refine ⟨⟨fun b o e=>hs.extBut b o (fun q=>?_) (S.vw.base b o e),fun b o e q _=>hs.extBut b o (fun r=>q (r ▸ hP)) e,fun b o e q=>⟨o,hs.extBut b o (fun r=>q (r ▸ hP)) e,rfl,.inr rfl⟩,fun X x=>x.but (W:=fun b=>b=P) (fun b o e q=>hs.extBut b o q e) (fun b q=>q ▸ .gZ hob rfl (by decide)) fun b q=>.inl q.1⟩,rfl,rfl⟩
  subst q
  rw [S.vw.fresh _ hX] at e;cases e
 have hp:aY C X Pn h' p':=⟨S.vw.au.one,fun P' hP'=>by cases S.vw.au.one P P' hP hP';exact ⟨vs,hl,hr⟩⟩
 obtain ⟨S',kf⟩:=S.next hn hp
 exact ⟨S',k.ext hn.ext S.vw.au,kf⟩
noncomputable def putK (g:cZ) (st:bw) (di:aq) (call:Call) (ρ:Fr) (v:V) (p:List V):af:=@Res.rec (fun _=>af) af.stuck (fun i p=>gW g st ρ p fun o=>lC o i v) (fun e p=>af.exc e ρ p) (di call ρ p)
theorem tM {g:cZ} {st:bw} {di d:aq} {o:V} (hg:g ρ=.own o):dW g st di d call ρ p=@Res.rec (fun _=>af) af.stuck (fun v p=>putK g st di call ρ v p) (fun e p=>af.exc e ρ p) (d call ρ p):=by
 unfold dW putK;rw [hg]
theorem tL {g:cZ} {st:bw} {di d:aq} (hg:g ρ=.au):dW g st di d call ρ p=@Res.rec (fun _=>af) af.stuck (fun v p=>putK g st di call ρ v p) (fun e p=>af.exc e ρ p) (d call ρ p):=by
 unfold dW putK;rw [hg]
theorem sk {g:cZ} {st:bw} {di d:aq} (h1:∀ o,g ρ≠.own o) (h2:g ρ≠.au):dW g st di d call ρ p=@Res.rec (fun _=>af) af.stuck (fun _ _=>af.stuck) (fun e p=>af.exc e ρ p) (d call ρ p):=by
 unfold dW
 cases hg:g ρ with
 | own o=>exact absurd hg (h1 o)
 | au=>exact absurd hg h2
 | _=>rfl
theorem oM {l:List V} {i v o:V} (e:lC (.lst l) i v=some o):∃ n l',i=.int (Int.ofNat n)∧n < l.length∧l'=l.set n v∧o=.lst l':=by
 cases i with
 | int i=>
  have e:(@Option.rec (List V) (fun _=>Option V) none (fun l=>some (.lst l)) (putAt l i v))=some o:=e
  cases hp:putAt l i v with
  | none=>rw [hp] at e;cases e
  | some l'=>rw [hp] at e;cases e;obtain ⟨n,rfl,h1,h2⟩:=rx hp;exact ⟨n,l',rfl,h1,h2,rfl⟩
 | _=>cases e
theorem tS {ks xs:List V} {i v o:V} (e:lC (.aQ ks xs) i v=some o):∃ ks' xs',dJ ks xs i v=some (ks',xs')∧o=.aQ ks' xs':=by
 have e:(@Option.rec (List V×List V) (fun _=>Option V) none (fun q=>some (.aQ q.1 q.2)) (dJ ks xs i v))=some o:=e
 cases hp:dJ ks xs i v with
 | none=>rw [hp] at e;cases e
 | some q=>rw [hp] at e;cases e;exact ⟨q.1,q.2,rfl,rfl⟩
theorem aV.put {x:Str} {px sp pos:Pos} {i e:Expr} {di d:aq} {j:Nat} (h:az C cx false e d) (hi:az C cx true i di) (O:bc cx) (hx:cx.vars.lookup x=some j) (ok:aM x=true) (hn:notComp e=true):
  aV C cx (.Assign [.Subscript (.Name x px) i sp] e pos) (dW (ay j) (sets j) di d):=by
 intro n call hc X0 Pn env aj ρ p s X A Q E hA S k hrm N
 refine wpAny_Assign_Subscript ?_ (eZ hn)
 have own:∀ o,ay j ρ=.own o→wpAny (model C.prog C.w) A (eval e env) (fun v s₁=>wpAny (model C.prog C.w) A (eval (.Name x px) env) (fun ov s₂=>wpAny (model C.prog C.w) A (eval i env) (fun iv aP=>wpAny (model C.prog C.w) A (setItem ov iv v) (fun _=>Q .next) E aP) E s₂) E s₁) E s:=fun o hg=>by
  rw [tM hg] at N
  refine h.st hc S k hrm N fun v p₁ val s₁ S1 k₁ kf1 rG hv N1=>?_
  refine S1.recv hx hg ok fun a ra ho=>?_
  refine hi.st hc S1 k₁ hrm N1 fun w aO valw s₂ S2 k₂ kf2 bT hw N2=>?_
  have hv:RepV C X s₂.heap v val:=RepV.tr kf2.tr hv
  have ra2:=ra.ext bT.ext S1.vw.au
  obtain ⟨a',ra',hXa,hna,ho,h0,_⟩:=S2.ownAt hx hg
  cases Reads.unique ra2 ra'
  have hu:=hrm.units
  cases hput:lC o w v with
  | none=>unfold gW at N2;simp only [hg,hput] at N2;exact absurd rfl N2.go
  | some o'=>
   have N2:bf C cx X0 Pn env aj A (af.next (sets j ρ (.own o')) aO) Q E s₂ X:=by
    have q:=N2;unfold gW at q;simp only [hg,hput] at q;exact q
   cases o with
   | lst l=>
    obtain ⟨m,l',rfl,hm,rfl,rfl⟩:=oM hput
    obtain ⟨u,rfl⟩:=hw.b.int
    have ho':=ho
    simp only [OwnR] at ho'
    obtain ⟨vs,hl,hvs⟩:=ho'
    have hlen:=hvs.length
    refine jX hl (by simp) (by simp only [Int.ofNat_eq_natCast];omega) fun h' hs hl'=>?_
    have gh:OwnR C X h' (.lst (l.set m v)) a:=by simp only [OwnR];exact ⟨_,hl',RepVs.set (hvs.tr (bo hs hXa)) (RepV.tr (bo hs hXa) hv)⟩
    obtain ⟨S3,bk,kf3⟩:=S2.mut (tk:=s₂.toks) k₂ O hx hg ra2 hs gh
    exact N2.cc S3 bk kf3
   | aQ ks xs=>
    obtain ⟨ks',xs',hp,rfl⟩:=tS hput
    have hk:keyOk 8 w=true:=by
     cases hq:keyOk 8 w with
     | true=>rfl
     | false=>unfold dJ at hp;rw [hq] at hp;cases hp
    refine oC ho hXa hp (hw.b.pd hk) hv (by omega) fun h' tk hs gh=>?_
    obtain ⟨S3,bk,kf3⟩:=S2.mut (tk:=tk) k₂ O hx hg ra2 hs gh
    exact N2.cc S3 bk kf3
   | _=>cases hput
 by_cases hpen:ay j ρ=.au
 ·rw [tL hpen] at N
  refine h.st hc S k hrm N fun v p₁ val s₁ S1 k₁ kf1 rG hv N1=>?_
  obtain ⟨pv,rp,sp',_⟩:=S1.vw.vars x j hx (by rw [hpen];simp)
  rw [hpen] at sp'
  obtain ⟨P,rfl,hP⟩:=sp'
  refine wpAny_Name (bH S1.vw.kind ok rp ?_) (bW ok)
  refine hi.st hc S1 k₁ hrm N1 fun w aO valw s₂ S2 k₂ kf2 bT hw N2=>?_
  have hv:RepV C X s₂.heap v val:=RepV.tr kf2.tr hv
  cases hput:lC (.lst aO) w v with
  | none=>unfold gW at N2;simp only [hpen,hput] at N2;exact absurd rfl N2.go
  | some o'=>
   obtain ⟨m,l',rfl,hm,rfl,rfl⟩:=oM hput
   have N2:bf C cx X0 Pn env aj A (af.next ρ (aO.set m v)) Q E s₂ X:=by
    have q:=N2;unfold gW at q;simp only [hpen,hput] at q;exact q
   obtain ⟨u,rfl⟩:=hw.b.int
   obtain ⟨vs,hl,hvs⟩:=S2.vw.au.at_ P hP
   have hlen:=hvs.length
   have hX:=S2.vw.pnX P hP
   refine jX hl (by simp) (by simp only [Int.ofNat_eq_natCast];omega) fun h' hs hl'=>?_
   obtain ⟨S3,bk,kf3⟩:=S2.au k₂ hP hs hl' (RepVs.set (hvs.tr (bo hs hX)) (RepV.tr (bo hs hX) hv))
   exact N2.cc S3 bk kf3
 ·by_cases ho:∃ o,ay j ρ=.own o
  ·obtain ⟨o,ho⟩:=ho;exact own o ho
  ·rw [sk (fun o q=>ho ⟨o,q⟩) hpen] at N
   exact h.st hc S k hrm N fun v p₁ val s₁ S1 k₁ kf1 rG hv N1=>absurd rfl N1.go
theorem wo {op:Operator} {j:Nat} {st:bw} {d:aq} (e:aA st (Mine.c2 (ko op) (ao (ay j)) d) call ρ p≠.stuck):∃ u,ay j ρ=.val u∧
  aA st (Mine.c2 (ko op) (ao (ay j)) d) call ρ p=@Res.rec (fun _=>af) af.stuck (fun w p=>@Option.rec V (fun _=>af) af.stuck (fun v=>af.next (st ρ (.val v)) p) (ko op u w)) (fun e p=>af.exc e ρ p) (d call ρ p):=by
 unfold aA Mine.c2 ao at e ⊢
 cases hg:ay j ρ with
 | val u=>
  refine ⟨u,rfl,?_⟩
  dsimp only
  cases d call ρ p with
  | stuck=>rfl
  | exc k q=>rfl
  | ok w q=>dsimp only;cases ko op u w <;> rfl
 | _=>rw [hg] at e;exact absurd rfl e
theorem aV.aug {x:Str} {px pos:Pos} {op:Operator} {e:Expr} {d:aq} {j:Nat} (h:az C cx true e d) (O:bc cx) (ht:cq cx x=some j):
  aV C cx (.AugAssign (.Name x px) op e pos) (aA (sets j) (Mine.c2 (ko op) (ao (ay j)) d)):=by
 intro n call hc X0 Pn env aj ρ p s X A Q E hA S k hrm N
 obtain ⟨u,hg,e⟩:=wo N.go
 rw [e] at N
 obtain ⟨hx,_,_,ok⟩:=ez ht
 obtain ⟨old,ro,so,_⟩:=S.vw.vars x j hx (by rw [hg];simp)
 rw [hg] at so
 refine wpAny_AugAssign_Name (bH S.vw.kind ok ro ?_)
 refine h.st hc S k hrm N fun w p₁ val s₁ S1 k₁ kf1 rG hv N1=>?_
 have fin:∀ {a:Int} {tk tk':Tok},ko op u w=some (.int a)→(fun r aP=>wpAny (model C.prog C.w) A (storeName env x r) (fun _=>Q .next) E aP) (.int a tk) { s₁ with toks:=tk' }:=fun {a tk tk'} ha=>by
  rw [ha] at N1
  obtain ⟨S2,kf2⟩:=S1.kp (.toks tk')
  exact S2.store O (k₁.kp S1 (.toks tk')) ht (sl:=.val (.int a)) (by show RepV C X _ _ _;simp [RepV]) (by simp) (fun _ q=>nomatch q) fun aP S3 bk kf3 _=>N1.cc S3 bk (kf2.trans kf3)
 have int:∀ {f:Int→Int→Int},eY f u w≠none→∃ a b ta tb,u=.int a∧w=.int b∧old=.int a ta∧val=.int b tb:=fun {f} q=>by
  cases u <;> simp only [eY] at q <;> (try exact absurd rfl q)
  cases w <;> simp only [] at q <;> (try exact absurd rfl q)
  obtain ⟨tb,rfl⟩:=hv.b.int
  have so:RepV C X s.heap (.int _) old:=so
  simp only [RepV] at so
  obtain ⟨ta,rfl⟩:=so
  exact ⟨_,_,_,_,rfl,rfl,rfl,rfl⟩
 cases ha:ko op u w with
 | none=>rw [ha] at N1;exact absurd rfl N1.go
 | some r=>
  cases op <;> (try (cases ha;done))
  ·obtain ⟨a,b,ta,tb,rfl,rfl,rfl,rfl⟩:=int (f:=bR) (by have q:eY bR u w=some r:=ha;rw [q];simp)
   exact P.iadd_int (by rw [← gP];exact fin rfl)
  ·obtain ⟨a,b,ta,tb,rfl,rfl,rfl,rfl⟩:=int (f:=dw) (by have q:eY dw u w=some r:=ha;rw [q];simp)
   exact P.isub_int (by rw [← iT];exact fin rfl)
end
section
variable {C:Cfg} {cx:Cx} {X0 X X' Pn:AP} {env:Env} {aj s s' s'':Shared} {ρ ρ':Fr} {p p':List V} {A:Around} {Q:Flow→Shared→Prop} {E:Value→Shared→Prop} {h h':Heap} {n:Nat} {call:Call} {b:Bool}
theorem Reads.yr {L:Addr} {x:Str} {val:Value} (r:Reads env h x val) (hs:Heap.SameBut L h h') (hL:env.locals≠L) (hc:∀ y c,env.kindOf y=some .cell∨env.kindOf y=some .free→env.cells.lookup y=some c→c≠L):Reads env h' x val:=by
 unfold Reads at r ⊢
 split at r
 ·obtain ⟨m',hm',hv'⟩:=r;exact ⟨m',hm'.at' fun o e=>hs.extBut _ o hL e,hv'⟩
 ·rename_i e;obtain ⟨c',q,o,r1,r2,r3⟩:=r;exact ⟨c',q,o,hs.extBut c' o (hc _ _ (.inl e) q) r1,r2,r3⟩
 ·rename_i e;obtain ⟨c',q,o,r1,r2,r3⟩:=r;exact ⟨c',q,o,hs.extBut c' o (hc _ _ (.inr e) q) r1,r2,r3⟩
 ·exact r.elim
theorem Tr.drop {L:Addr} (hs:Heap.SameBut L h h'):Tr (Xa X L) h X h':=fun a o e _ hx=>⟨hs.extBut a o (fun q=>hx (.inr q)) e,fun q=>hx (.inl q)⟩
theorem Vw.rL {L:Addr} (v:Vw C cx (Xa X L) Pn env ρ p h) (hs:Heap.SameBut L h h') (hnX:¬X L) (hL:env.locals≠L) (hc:∀ y c,env.kindOf y=some .cell∨env.kindOf y=some .free→env.cells.lookup y=some c→c≠L) (hP:¬Pn L) (hn:NC h L)
  (hown:∀ y j w a,cx.vars.lookup y=some j→ay j ρ=.own w→Reads env h y (.ref a)→a≠L):Vw C cx X Pn env ρ p h':=by
 have T:=Tr.drop (X:=X) hs
 refine { kind:=v.kind,code:=v.code,globals:=v.globals,builtins:=v.builtins,kinds:=v.kinds,cells:=v.cells,vars:=fun y k hy hu=>?_,own:=v.own,caps:=fun y c a b q=>v.caps y c a b (.inl q),tab:=v.tab.but (W:=fun b=>b=L) (fun b o e q=>hs.extBut b o q e) (fun b q=>q ▸ hn) fun b q=>.inl (.inl q),au:=v.au.tr T fun b o hb e _=>hs.extBut b o (fun q=>hP (q ▸ hb)) e,pnX:=fun b hb=>(v.pnX b hb).resolve_right fun q=>hP (q ▸ hb),base:=fun b o e=>hs.extBut b o (fun q=>by subst q;rw [v.fresh _ (.inr rfl)] at e;cases e) (v.base b o e),lt:=fun b hb=>?_,fresh:=fun b hb=>v.fresh b (.inl hb) }
 ·obtain ⟨val,q1,q2,q3⟩:=v.vars y k hy hu
  refine ⟨val,q1.yr hs hL hc,?_,q3⟩
  cases hgk:ay k ρ with
  | undef=>trivial
  | val w=>rw [hgk] at q2;exact RepV.tr T q2
  | own w=>
   rw [hgk] at q2;obtain ⟨a',e,h1,h2,h3⟩:=q2;subst e
   have hne:=hown y k w a' hy hgk q1
   exact ⟨a',rfl,h1.resolve_right hne,h2,h3.tr T fun o e _=>hs.extBut a' o hne e⟩
  | au=>rw [hgk] at q2;exact q2
 ·obtain ⟨o,fk⟩:=v.lt b (.inl hb)
  exact ⟨o,hs.extBut b o (fun q=>hnX (q ▸ hb)) fk⟩
theorem St.rL {L:Addr} (S:St C cx X0 Pn env aj ρ p s (Xa X L)) (hs:Heap.SameBut L s.heap h') (hnX:¬X L) (h0:aj.heap.get? L=none) (hL:env.locals≠L) (hc:∀ y c,env.kindOf y=some .cell∨env.kindOf y=some .free→env.cells.lookup y=some c→c≠L) (hP:¬Pn L) (hns:NC s.heap L)
  (hown:∀ y j w a,cx.vars.lookup y=some j→ay j ρ=.own w→Reads env s.heap y (.ref a)→a≠L):St C cx X0 Pn env aj ρ p { s with heap:=h' } X:=by
 have vw:=S.vw.rL hs hnX hL hc hP hns hown
 obtain ⟨m,hm⟩:=S.lns
 obtain ⟨oL,hoL,hcL⟩:=S.frm
 obtain ⟨ad,a1,a2⟩:=S.own
 refine ⟨vw,?_,fun b hb=>(S.sub b hb).resolve_right fun q=>?_,fun b hb=>S.new b (.inl hb),S.pn0,S.lt0,S.base0,⟨m,hm.at' fun o e=>hs.extBut _ o hL e⟩,⟨oL,hs.extBut _ _ hL hoL,hcL⟩,S.efr,S.lX.resolve_right hL,S.l0,fun x c hk hcx=>?_,S.capK,S.cinj,S.nofree,⟨ad,fun y j u hy hg=>⟨(a1 y j u hy hg).1.yr hs hL hc,(a1 y j u hy hg).2⟩,a2⟩⟩
 ·exact ((S.nx.grow (Y:=fun b=>Pn b∨b=L) fun _ q=>.inl q).trans (fC (o:=default) S.vw.base hs (S.lD h0) (.inr rfl) hns _)).shrink fun b hb=>hb.elim .inl fun q=>.inr (q ▸ h0)
 ·subst q;obtain ⟨o,e⟩:=S.lt0 b hb;rw [h0] at e;cases e
 ·obtain ⟨⟨o,w,ho,hcl,hd⟩,r1,r2⟩:=S.cellX x c hk hcx
  have hne:=hc x c (.inl hk) hcx
  exact ⟨⟨o,w,hs.extBut c o hne ho,hcl,hd⟩,r1,fun q=>(r2 q).resolve_right hne⟩
theorem Frames.th {L:Addr} (hs:Heap.SameBut L h h'):∀ {l:List Env},Frames C h l→(∀ e∈l,∀ F,e.frame=some F→F≠L)→Frames C h' l
 | [],_,_=>trivial
 | env::r,⟨hk,⟨F,o,es,ep,hf,hn,ho,hc,hd⟩,hr⟩,q=>⟨hk,⟨F,o,es,ep,hf,hn,hs.extBut F o (q env List.mem_cons_self F hf) ho,hc,hd⟩,hr.th hs fun e he=>q e (List.mem_cons_of_mem _ he)⟩
theorem rf {K:Kd} {gs:List Comprehension} {sc:Scope} {pos px:Pos} {x:Str} {l:Nat}:∃ r,swapsWith (K.expr gs sc pos) (some (.Name x px)) l env=pure r:=by cases K <;> exact ⟨_,rfl⟩
theorem St.xk {x:Str} {j:Nat} {v:V} {val:Value} (S:St C cx X0 Pn env aj ρ p s X) (O:bc cx) (k:aN C A s.heap) (ht:cq cx x=some j) (hv:RepV C X s.heap v val)
  (N:bf C cx X0 Pn env aj A (.next (sets j ρ (.val v)) p) Q E s X):wpAny (model C.prog C.w) A (storeName env x val) (fun _=>Q .next) E s:=
 S.store O k ht (sl:=.val v) hv (RepV.fE S.loc hv) (fun _ q=>nomatch q) fun s₂ S2 k₂ kf2 _=>N.cc S2 k₂ kf2
theorem aV.comp {K:Kd} {t src:Expr} {ifs:List Expr} {gs:List Comprehension} {sc:Scope} {cp px pos:Pos} {g:G} {x:Str} {j:Nat} (hG:ia C true cx (dC cx sc) K.elt (⟨t,src,ifs,0⟩::gs) g) (hok:dP cx sc=true) (O:bc cx) (hsys:∃ o,C.h₀.get? sysModules=some o) (ht:cq cx x=some j):
  aV C cx (.Assign [.Name x px] (K.expr (⟨t,src,ifs,0⟩::gs) sc cp) pos) (aA (sets j) (fh (fl cx sc) (K.comb g))):=by
 intro n call hc X0 Pn env aj ρ p s X A Q E hA S k hrm N
 obtain ⟨r,hr⟩:=rf (env:=env) (K:=K) (gs:=⟨t,src,ifs,0⟩::gs) (sc:=sc) (pos:=cp) (px:=px) (x:=x) (l:=pos.line)
 cases r with
 | false=>
  exact wpAny_Assign_Name ((az.comp (b:=false) hG hok O hsys).st hc S k hrm N fun v p₁ val s₁ S1 k₁ kf _ hv N1=>S1.xk O k₁ ht hv N1) hr
 | true=>
  have N:bf C cx X0 Pn env aj A (@Res.rec (fun _=>af) af.stuck (fun v p=>af.next (sets j ρ (.val v)) p) (fun e p=>af.exc e ρ p) (fh (fl cx sc) (K.comb g) call ρ p)) Q E s X:=N
  have hne:fh (fl cx sc) (K.comb g) call ρ p≠.stuck:=fun e=>by rw [e] at N;exact absurd rfl N.go
  obtain ⟨hg,e⟩:=nG hne
  rw [e] at N hne
  obtain ⟨l,p',w,e,hF,hw,e'⟩:=qS hne
  rw [e'] at N
  have N:bf C cx X0 Pn env aj A (af.next (sets j ρ (.val w)) p') Q E s X:=N
  rw [exec_Assign_arm]
  refine wpAny_bind (wpAny_standAt ?_)
  show wpAny _ _ (swapsWith (K.expr (⟨t,src,ifs,0⟩::gs) sc cp) (some (.Name x px)) pos.line env >>= _) _ _ _
  rw [hr]
  refine wpAny_bind (wpAny_pure ?_)
  rw [if_pos rfl]
  have key:∀ pp,wpAny (model C.prog C.w) A (comprehension (K.expr (⟨t,src,ifs,0⟩::gs) sc cp) sc env pp K.new false (eval src env) (some fun v=>assignAll v ((assignEach [.Name x px] env).map (·.2)))) (fun _=>Q .next) E s:=fun pp=>by
   refine pJ hG hok O (mz S.vw hg) hc S.vw k hrm hsys e hF fun D L s' w' hD hL hDL hns hn hp ha ho=>?_
   rw [hw] at ha;cases ha
   have hXL:¬X L:=fun q=>by obtain ⟨o,ho⟩:=S.vw.lt L q;rw [hL] at ho;cases ho
   have hXD:¬X D:=fun q=>by obtain ⟨o,ho⟩:=S.vw.lt D q;rw [hD] at ho;cases ho
   have hPL:¬Pn L:=fun q=>hXL (S.vw.pnX L q)
   have T:Tr (X2 X D L) s'.heap (Xa X L) s'.heap:=fun a o e _ hx=>⟨e,fun q=>hx (q.elim .inl fun q=>.inr (.inr q))⟩
   have hp':aY C (Xa X L) Pn s'.heap p':=hp.tr T fun b o _ e _=>e
   obtain ⟨mL,hmL⟩:=hns
   obtain ⟨S1,kf1⟩:=S.xQ hn (X':=Xa X L) (fun b q=>.inl q) (fun b q=>q.elim .inl fun q=>.inr (q ▸ hL)) (fun b q=>q.elim (fun q=>Ext.lt hn.ext hp b (S.vw.lt b q)) fun q=>by obtain ⟨o,es,ep,ho,_⟩:=hmL;exact ⟨o,q ▸ ho⟩) hp' (fun b (q:Xa X L b)=>Or.imp id (fun (q:b=L)=>q ▸ .ij hmL) q)
   have k₁:=k.ext hn.ext S.vw.au
   have hwR:RepV C (Xa X L) s'.heap w (.ref D):=OwnR.rep (ho.tr T fun o e _=>e) (fun q=>q.elim hXD hDL)
   have hLL:env.locals≠L:=fun q=>by obtain ⟨o,ho,_⟩:=S.frm;rw [q,hL] at ho;cases ho
   have hcL:∀ y c,env.kindOf y=some .cell∨env.kindOf y=some .free→env.cells.lookup y=some c→c≠L:=fun y c hk hcy q=>by
    rcases hk with hk | hk
    ·obtain ⟨⟨o,_,ho,_⟩,_⟩:=S.cellX y c hk hcy;rw [q,hL] at ho;cases ho
    ·exact S.nofree y hk
   show wpAny _ _ (assign (.Name x px) env (.ref D)) _ _ _
   refine wpAny_assign_Name (S1.store O k₁ ht (sl:=.val w) hwR (RepV.fE S1.loc hwR) (fun _ q=>nomatch q) fun s₂ S2 k₂ kf2 sd=>⟨mL,?_,fun h' hs'=>?_⟩)
   ·obtain ⟨t,ht',hst⟩:=sd.but
    refine hmL.at' fun o e=>hst.extBut _ o (fun q=>?_) e
    rcases ht' with q' | ⟨q',q''⟩
    ·exact hLL (q'.symm.trans q.symm)
    ·exact hcL x t (.inl q') q'' q.symm
   ·have hnsL:NC s₂.heap L:=by
     obtain ⟨t,ht',hst⟩:=sd.but
     refine .ij (m:=mL) (hmL.at' fun o e=>hst.extBut _ o (fun q=>?_) e)
     rcases ht' with q' | ⟨q',q''⟩
     ·exact hLL (q'.symm.trans q.symm)
     ·exact hcL x t (.inl q') q'' q.symm
    have hj:=(ez ht).1
    have S3:=S2.rL hs' hXL (S.old hL) hLL hcL hPL hnsL fun y i u a hy hgy ra q=>by
     by_cases hyx:y=x
     ·subst hyx
      rw [hj] at hy;cases hy
      rw [bO] at hgy
      by_cases h16:j < 16
      ·rw [if_pos ⟨rfl,h16⟩] at hgy;cases hgy
      ·rw [if_neg (by omega),cG (by omega)] at hgy;cases hgy
     ·rw [dD O hyx hy hj] at hgy
      obtain ⟨b,rb,_,_,hob,_⟩:=S.ownAt hy hgy
      have rb':=sd.oth y _ hyx (rb.ext hn.ext S.vw.au)
      cases Reads.unique ra rb'
      obtain ⟨o,ho',_⟩:=hob.obj
      rw [q,hL] at ho';cases ho'
    obtain ⟨l',hl',fr⟩:=k
    have bk:aN C A h':=by
     obtain ⟨xV,jn,fr2⟩:=k₂
     rw [hl'] at jn;cases jn
     refine ⟨l',hl',fr2.th hs' fun e he F hf q=>?_⟩
     obtain ⟨o,ho',_⟩:=fr.cls e he F hf
     rw [q,hL] at ho';cases ho'
    refine N.cc S3 bk ⟨fun b o e hc hx=>?_⟩
    have hb:b≠L:=fun q=>by rw [q,hL] at e;cases e
    obtain ⟨q1,q2⟩:=(kf1.trans kf2).keep b o e hc hx
    exact ⟨hs'.extBut b o hb q1,hx⟩
  cases K with
  | l elt=>exact wpAny_bind (wpAny_bind (wpAny_mono (key _) (fun _ _ q=>wpAny_pure (wpAny_pure q)) fun _ _ q=>q))
  | d k u ck cp=>exact wpAny_bind (wpAny_bind (wpAny_mono (key _) (fun _ _ q=>wpAny_pure (wpAny_pure q)) fun _ _ q=>q))
end
section
variable {M:Model} {A:Around} {E:Value→Shared→Prop} {s s₁:Shared}
theorem kj:∀ (names:List (Str×NameKind)) (h:Heap) (acc:List (Str×Addr)),(∀ n c,(n,c)∈acc→h.get? c=some { cls:=.type "cell",data:=.cell none })→
  ∀ n c,(n,c)∈cellsFrom h.objs.size names acc→(pushCells h names).get? c=some { cls:=.type "cell",data:=.cell none }
 | [],_,_,x=>x
 | (name,kind)::r,h,acc,x=>by
  unfold pushCells cellsFrom
  split
  ·have:=kj r (h.push { cls:=.type "cell",data:=.cell none }) ((name,h.objs.size)::acc) fun n c hm=>by
    rcases List.mem_cons.mp hm with e | hm
    ·cases e;exact Heap.get?_push_size _ rfl
    ·exact Heap.get?_push_of_some _ (x n c hm)
   rwa [Heap.size_push] at this
  ·exact kj r h acc x
theorem gv:∀ (names:List (Str×NameKind)) (n:Nat) (acc:List (Str×Addr)) (x:Str),((x,NameKind.cell)∈names∨∃ c,acc.lookup x=some c)→∃ c,(cellsFrom n names acc).lookup x=some c
 | [],_,_,_,h=>h.resolve_left (by simp)
 | (name,kind)::r,n,acc,x,h=>by
  unfold cellsFrom
  split
  ·rename_i hk
   refine gv r (n + 1) _ x ?_
   by_cases e:x=name
   ·subst e;exact .inr ⟨n,by simp [List.lookup_cons]⟩
   ·rcases h with h | ⟨c,h⟩
    ·rcases List.mem_cons.mp h with h | h
     ·cases h;exact absurd rfl e
     ·exact .inl h
    ·exact .inr ⟨c,by rw [List.lookup_cons,show (x==name)=false by simpa using e];exact h⟩
  ·rename_i hk
   refine gv r n acc x ?_
   rcases h with h | h
   ·rcases List.mem_cons.mp h with h | h
    ·cases h;exact absurd rfl hk
    ·exact .inl h
   ·exact .inr h
structure Laid (s:Shared) (env:Env) (m cm:Str→Option Value) (s₁:Shared):Prop where
 kp:Kp s s₁
 ns:s₁.heap.Ns env.locals m
 frm:∃ o,s₁.heap.get? env.locals=some o∧o.cls=aL
 cell:∀ n c,env.cells.lookup n=some c→∃ o,s₁.heap.get? c=some o∧o.cls=.type "cell" ∧ o.data=.cell (cm n)
 apart:env.cells.Pairwise fun x y=>x.2≠y.2
 above:∀ n c,(n,c)∈env.cells→env.locals < c
 fresh:s.heap.objs.size≤env.locals
theorem Laid.iN {env:Env} {m cm:Str→Option Value} {x:Str} {v:Value} {Q:Unit→Shared→Prop} (l:Laid s env m cm s₁) (hk:env.scope.kind=.function) (hl:env.kindOf x=some .local)
  (hQ:∀ s₂,Laid s env (fun y=>if y=x then some v else m y) cm s₂→Q () s₂):wpAny M A (storeName env x v) Q E s₁:=by
 obtain ⟨oL,hoL,hcL⟩:=l.frm
 rw [storeName_local hl (by rw [hk];rfl)]
 refine j3 l.ns hoL fun h' o' hn' hs' ho' hc' hd'=>hQ _ ⟨⟨fun b o e=>hs'.extBut b o (Nat.ne_of_lt (Nat.lt_of_lt_of_le (Heap.lt_size e) l.fresh)) (l.kp.keep b o e),l.kp.gens,l.kp.os⟩,hn',⟨o',ho',hc'.trans hcL⟩,fun n c hc=>?_,l.apart,l.above,l.fresh⟩
 obtain ⟨o,h1,h2,h3⟩:=l.cell n c hc
 exact ⟨o,hs'.extBut c o (Nat.ne_of_gt (l.above n c (mem_of_lookup hc))) h1,h2,h3⟩
theorem Laid.ox {env:Env} {m cm:Str→Option Value} {x:Str} {v:Value} {c:Addr} {Q:Unit→Shared→Prop} (l:Laid s env m cm s₁) (hk:env.scope.kind=.function) (hl:env.kindOf x=some .cell) (hc:env.cells.lookup x=some c)
  (hQ:∀ s₂,Laid s env m (fun y=>if y=x then some v else cm y) s₂→Q () s₂):wpAny M A (storeName env x v) Q E s₁:=by
 obtain ⟨o,h1,h2,h3⟩:=l.cell x c hc
 have hLc:=l.above x c (mem_of_lookup hc)
 have e:storeName env x v=cellSet c (some v):=by
  unfold storeName
  simp only [hl,hk,cellOf,hc]
  rfl
 rw [e]
 refine kY h1 h3 fun h' hc' hs'=>hQ _ ⟨⟨fun b o e=>hs'.extBut b o (Nat.ne_of_lt (Nat.lt_trans (Nat.lt_of_lt_of_le (Heap.lt_size e) l.fresh) hLc)) (l.kp.keep b o e),l.kp.gens,l.kp.os⟩,l.ns.at' fun o e=>hs'.extBut _ o (Nat.ne_of_lt hLc) e,?_,fun n c' hcn=>?_,l.apart,l.above,l.fresh⟩
 ·obtain ⟨oL,hoL,hcL⟩:=l.frm
  exact ⟨oL,hs'.extBut _ _ (Nat.ne_of_lt hLc) hoL,hcL⟩
 ·by_cases hnx:n=x
  ·subst hnx
   rw [hc] at hcn;cases hcn
   exact ⟨_,hc',h2,by simp⟩
  ·obtain ⟨o',g1,g2,g3⟩:=l.cell n c' hcn
   refine ⟨o',hs'.extBut c' o' (fun q=>hnx (name_of_addr l.apart (mem_of_lookup hcn) (q ▸ mem_of_lookup hc))) g1,g2,by rw [if_neg hnx];exact g3⟩
theorem Laid.binds {env:Env} (hk:env.scope.kind=.function) (f:Str×Value→Unit→Sem (ForInStep Unit)) (hf:∀ n v u,f (n,v) u=(do storeName env n v;pure (.yield ⟨⟩))):
  ∀ (binds:List (Str×Value)) (m cm:Str→Option Value) (s₁:Shared) (Q:Unit→Shared→Prop),Laid s env m cm s₁→
   (∀ x∈binds,env.kindOf x.1=some .local∨(env.kindOf x.1=some .cell∧∃ c,env.cells.lookup x.1=some c))→
   (∀ s',Laid s env (bindL env.kindOf binds m) (PySem.bindC env.kindOf binds cm) s'→Q ⟨⟩ s')→wpAny M A (forIn binds ⟨⟩ f) Q E s₁
 | [],m,cm,s₁,Q,l,_,h=>by rw [List.forIn_nil];exact wpAny_pure (h s₁ l)
 | (n,v)::r,m,cm,s₁,Q,l,hkind,h=>by
  rw [List.forIn_cons,hf]
  have hr:∀ y∈r,env.kindOf y.1=some .local∨(env.kindOf y.1=some .cell∧∃ c,env.cells.lookup y.1=some c):=fun y hy=>hkind y (List.mem_cons_of_mem _ hy)
  rcases hkind (n,v) List.mem_cons_self with hl | ⟨hl,c,hc⟩
  ·refine wpAny_bind (wpAny_bind (l.iN hk hl fun s' x'=>wpAny_pure (Laid.binds hk f hf r _ _ s' Q x' hr fun s'' x''=>h s'' ?_)))
   unfold bindL PySem.bindC;rw [if_pos hl,if_pos hl];exact x''
  ·have hnl:¬env.kindOf n=some .local:=by rw [hl];decide
   refine wpAny_bind (wpAny_bind (l.ox hk hl hc fun s' x'=>wpAny_pure (Laid.binds hk f hf r _ _ s' Q x' hr fun s'' x''=>h s'' ?_)))
   unfold bindL PySem.bindC;rw [if_neg hnl,if_neg hnl];exact x''
noncomputable abbrev hZ (fd:FuncData) (L a:Addr):Env:=newEnv fd.scope L fd.globals (cellsFrom (L + 1) fd.scope.names []) (fd.qualname ++ ".<locals>.") (some a) fd.code none fd.builtins
theorem o8 {fd:FuncData} {a:Addr} {binds:List (Str×Value)} {Q:Env→Shared→Prop} (hk:fd.scope.kind=.function)
  (hkind:∀ x∈binds,fd.scope.names.lookup x.1=some .local∨fd.scope.names.lookup x.1=some .cell)
  (hQ:∀ s₁,Laid s (hZ fd s.heap.objs.size a) (bindL (hZ fd s.heap.objs.size a).kindOf binds fun _=>none) (PySem.bindC (hZ fd s.heap.objs.size a).kindOf binds fun _=>none) s₁→Q (hZ fd s.heap.objs.size a) s₁):
  wpAny M A (newFunctionEnv fd.scope fd.globals [] binds (fd.qualname ++ ".<locals>.") (some a) fd.code none fd.builtins) Q E s:=by
 simp only [newFunctionEnv,Option.isSome_none,Bool.false_eq_true,if_false]
 refine wpAny_bind (wpAny_alloc ?_)
 refine wpAny_bind (wpAny_layCells _ (fun name kind cells=>by cases hkc:kind==NameKind.cell <;> simp [hkc]) _ _ _ _ ?_)
 have ok:=cellsFrom_ok fd.scope.names (s.heap.push { cls:=.type "frame",data:=.dict #[] }) (s.heap.objs.size + 1) [] ⟨fun _ _ hm=>(nomatch hm),List.Pairwise.nil⟩ (by rw [Heap.size_push];exact Nat.le_refl _)
 have cl:=kj fd.scope.names (s.heap.push { cls:=.type "frame",data:=.dict #[] }) [] (fun _ _ hm=>nomatch hm)
 rw [Heap.size_push] at ok cl
 rw [show ({ s with heap:=s.heap.push { cls:=.type "frame",data:=.dict #[] } }:Shared).heap.objs.size=s.heap.objs.size + 1 from Heap.size_push ..]
 refine wpAny_bind (Laid.binds (s:=s) (env:=hZ fd s.heap.objs.size a) hk _ (fun _ _ _=>rfl) binds (fun _=>none) (fun _=>none) _ _
  ⟨⟨fun b o e=>pushCells_keeps _ _ b o (Heap.get?_push_of_some _ e),rfl,rfl⟩,(Heap.Ns.new s.heap (.type "frame")).keeps (pushCells_keeps _ _),⟨_,pushCells_keeps _ _ _ _ (Heap.get?_push_size _ rfl),rfl⟩,
   fun n c hc=>⟨_,cl n c (mem_of_lookup hc),rfl,rfl⟩,ok.apart,fun n c hm=>(ok.empty n c hm).2,Nat.le_refl _⟩ (fun x hx=>?_) fun s' l=>wpAny_pure (hQ s' l))
 rcases hkind x hx with h | h
 ·exact .inl h
 ·exact .inr ⟨h,gv _ _ _ _ (.inl (mem_of_lookup h))⟩
end
section
variable {M:Model} {A:Around} {E:Value→Shared→Prop} {s s₁:Shared}
theorem d7 {x:Str} {r:List Str} (h:distinct (x::r)=true):x∉r∧distinct r=true:=by
 unfold distinct at h
 rw [Bool.and_eq_true] at h
 refine ⟨fun q=>?_,h.2⟩
 have:=h.1
 simp [q] at this
theorem ni:∀ {names:List Str} {vals:List Value} (pre:List (Str×Value)),vals.length=names.length→distinct names=true→(∀ x∈names,pre.lookup x=none)→
  names.filterMap (fun n=>((pre++names.zip vals).lookup n).map (n,·))=names.zip vals
 | [],[],_,_,_,_=>rfl
 | [],_::_,_,h,_,_=>by simp at h
 | _::_,[],_,h,_,_=>by simp at h
 | n::r,v::vs,pre,hl,hd,hp=>by
  obtain ⟨h1,h2⟩:=d7 hd
  have e1:(pre++(n::r).zip (v::vs)).lookup n=some v:=by
   rw [List.lookup_append,hp n List.mem_cons_self];simp [List.lookup_cons]
  rw [List.filterMap_cons,e1,List.zip_cons_cons]
  simp only [Option.map_some]
  have e2:pre++(n,v)::r.zip vs=(pre++[(n,v)])++r.zip vs:=by simp
  rw [e2,ni (pre++[(n,v)]) (by simpa using hl) h2 fun x hx=>?_]
  rw [List.lookup_append,hp x (List.mem_cons_of_mem _ hx)]
  have:(x==n)=false:=by rw [beq_eq_false_iff_ne];exact fun e=>h1 (e ▸ hx)
  simp [List.lookup_cons,this]
theorem qg:∀ {names:List Str} {vals:List Value},vals.length=names.length→∀ x∈names,∃ v,(names.zip vals).lookup x=some v
 | [],_,_,x,hx=>by simp at hx
 | _::_,[],h,_,_=>by simp at h
 | n::r,v::vs,h,x,hx=>by
  rw [List.zip_cons_cons,List.lookup_cons]
  by_cases e:x=n
  ·subst e;exact ⟨v,by simp⟩
  ·have:(x==n)=false:=by rw [beq_eq_false_iff_ne];exact e
   rw [this]
   exact qg (by simpa using h) x ((List.mem_cons.mp hx).resolve_left e)
theorem kn {fd:FuncData} {names:List Str} {vals:List Value} {Q:List (Str×Value)→Shared→Prop} (h1:fd.params.posonlyargs=[]) (h2:fd.params.args.map (·.arg)=names) (h3:fd.params.kwonlyargs=[]) (h4:fd.params.vararg=none) (h5:fd.params.kwarg=none) (h6:fd.defaults=.none)
  (hl:vals.length=names.length) (hd:distinct names=true) (hQ:Q (names.zip vals) s):wpAny M A (bindArgs fd ⟨vals,[]⟩) Q E s:=by
 have hz:=ni (names:=names) (vals:=vals) [] hl hd fun _ _=>rfl
 have hm:(names.filter fun n=>((names.zip vals).lookup n).isNone)=[]:=by
  rw [List.filter_eq_nil_iff]
  intro x hx
  obtain ⟨v,e⟩:=qg hl x hx
  rw [e];simp
 unfold bindArgs
 simp only [h1,h2,h3,h4,h5,h6,List.map_nil,List.nil_append,List.append_nil]
 rw [List.forIn_nil]
 refine wpAny_bind (wpAny_pure ?_)
 dsimp only
 refine wpAny_bind (m:=seqItems? .none) (wpAny_bind (wpAny_pure (wpAny_pure ?_)))
 have hgt:¬(vals.length > names.length∧Option.isNone (none:Option Arg)=true):=by omega
 simp only [Option.getD_none,List.drop_nil,List.length_nil,Nat.sub_zero,List.take_length]
 rw [if_neg (by simp;omega),hm]
 simp only [List.isEmpty_nil,Bool.not_true,Bool.false_eq_true,if_false,List.zip_nil_right,List.forIn_nil]
 refine wpAny_bind (wpAny_pure (wpAny_bind (wpAny_pure ?_)))
 simp only [List.isEmpty_nil,Bool.not_true,Bool.false_eq_true,if_false]
 have hz:names.filterMap (fun n=>((names.zip vals).lookup n).map (n,·))=names.zip vals:=hz
 rw [hz]
 exact wpAny_pure hQ
end
theorem kZ {k:Str→Option NameKind} {x:Str}:∀ {names:List Str} {vals:List Value} {m:Str→Option Value},x∉names→bindL k (names.zip vals) m x=m x
 | [],_,_,_=>rfl
 | _::_,[],_,_=>rfl
 | n::r,v::vs,m,h=>by
  rw [List.zip_cons_cons]
  unfold bindL
  rw [kZ fun q=>h (List.mem_cons_of_mem _ q)]
  have:x≠n:=fun e=>h (e ▸ List.mem_cons_self)
  split <;> simp [this]
theorem k8 {k:Str→Option NameKind} {x:Str}:∀ {names:List Str} {vals:List Value} {m:Str→Option Value},x∉names→PySem.bindC k (names.zip vals) m x=m x
 | [],_,_,_=>rfl
 | _::_,[],_,_=>rfl
 | n::r,v::vs,m,h=>by
  rw [List.zip_cons_cons]
  unfold PySem.bindC
  rw [k8 fun q=>h (List.mem_cons_of_mem _ q)]
  have:x≠n:=fun e=>h (e ▸ List.mem_cons_self)
  split <;> simp [this]
theorem nN {k:Str→Option NameKind} {x:Str} {v:Value}:∀ {names:List Str} {vals:List Value} {m:Str→Option Value} {i:Nat},distinct names=true→names[i]?=some x→vals[i]?=some v→k x=some .local→bindL k (names.zip vals) m x=some v
 | [],_,_,_,_,h,_,_=>by simp at h
 | _::_,[],_,_,_,_,h,_=>by simp at h
 | n::r,v'::vs,m,0,hd,hn,hv,hk=>by
  simp at hn hv;subst hn hv
  rw [List.zip_cons_cons]
  unfold bindL
  rw [kZ (d7 hd).1,if_pos hk];simp
 | n::r,v'::vs,m,i + 1,hd,hn,hv,hk=>by
  rw [List.zip_cons_cons]
  unfold bindL
  exact nN (d7 hd).2 (by simpa using hn) (by simpa using hv) hk
theorem nO {k:Str→Option NameKind} {x:Str} {v:Value}:∀ {names:List Str} {vals:List Value} {m:Str→Option Value} {i:Nat},distinct names=true→names[i]?=some x→vals[i]?=some v→k x=some .cell→PySem.bindC k (names.zip vals) m x=some v
 | [],_,_,_,_,h,_,_=>by simp at h
 | _::_,[],_,_,_,_,h,_=>by simp at h
 | n::r,v'::vs,m,0,hd,hn,hv,hk=>by
  simp at hn hv;subst hn hv
  rw [List.zip_cons_cons]
  unfold PySem.bindC
  rw [k8 (d7 hd).1,if_neg (by rw [hk];decide)];simp
 | n::r,v'::vs,m,i + 1,hd,hn,hv,hk=>by
  rw [List.zip_cons_cons]
  unfold PySem.bindC
  exact nO (d7 hd).2 (by simpa using hn) (by simpa using hv) hk
theorem jq {args:List Slot} {j:Nat} (h:ay j (fill args)≠.undef):args[j]?=some (ay j (fill args)):=by
 by_cases hj:j < 16
 ·match args with
  | []=>exact absurd (by match j,hj with | 0,_ | 1,_ | 2,_ | 3,_ | 4,_ | 5,_ | 6,_ | 7,_ | 8,_ | 9,_ | 10,_ | 11,_ | 12,_ | 13,_ | 14,_ | 15,_=>rfl | j + 16,h=>exact absurd h (by omega)) h
  | [a]=>match j,hj with | 0,_=>rfl | 1,_ | 2,_ | 3,_ | 4,_ | 5,_ | 6,_ | 7,_ | 8,_ | 9,_ | 10,_ | 11,_ | 12,_ | 13,_ | 14,_ | 15,_=>exact absurd rfl h | j + 16,q=>exact absurd q (by omega)
  | [a,b]=>match j,hj with | 0,_ | 1,_=>rfl | 2,_ | 3,_ | 4,_ | 5,_ | 6,_ | 7,_ | 8,_ | 9,_ | 10,_ | 11,_ | 12,_ | 13,_ | 14,_ | 15,_=>exact absurd rfl h | j + 16,q=>exact absurd q (by omega)
  | [a,b,c]=>match j,hj with | 0,_ | 1,_ | 2,_=>rfl | 3,_ | 4,_ | 5,_ | 6,_ | 7,_ | 8,_ | 9,_ | 10,_ | 11,_ | 12,_ | 13,_ | 14,_ | 15,_=>exact absurd rfl h | j + 16,q=>exact absurd q (by omega)
  | a::b::c::d::r=>match j,hj with | 0,_ | 1,_ | 2,_ | 3,_=>rfl | 4,_ | 5,_ | 6,_ | 7,_ | 8,_ | 9,_ | 10,_ | 11,_ | 12,_ | 13,_ | 14,_ | 15,_=>exact absurd rfl h | j + 16,q=>exact absurd q (by omega)
 ·exact absurd (cG (by omega) _) h
theorem dF.get {C:Cfg} {X Pn:AP} {h:Heap}:∀ {args:List Slot} {vals:List Value} {j:Nat} {sl:Slot},dF C X Pn h args vals→args[j]?=some sl→∃ v,vals[j]?=some v∧uU C X Pn h sl v
 | [],_,_,_,_,e=>by simp at e
 | a::r,_,0,_,q,e=>by
  obtain ⟨v,t,rfl,q1,q2⟩:=q
  simp at e;subst e
  exact ⟨v,by simp,q1⟩
 | a::r,_,j + 1,_,q,e=>by
  obtain ⟨v,t,rfl,q1,q2⟩:=q
  obtain ⟨v',e',q'⟩:=dF.get q2 (by simpa using e)
  exact ⟨v',by simpa using e',q'⟩
theorem dF.length {C:Cfg} {X Pn:AP} {h:Heap}:∀ {args:List Slot} {vals:List Value},dF C X Pn h args vals→vals.length=args.length
 | [],_,q=>by have q:_=[]:=q;subst q;rfl
 | a::r,_,q=>by obtain ⟨v,t,rfl,_,q2⟩:=q;simp [dF.length q2]
structure ky (C:Cfg) (a:Addr) (cx:Cx) (names:List Str) (body:List Stmt):Prop where
 obj:∃ o fd,C.h₀.get? a=some o∧o.data=.func fd∧fd.closure=[]∧fd.body=.stmts body∧fd.scope.isCoroutine=false∧fd.scope.isGenerator=false∧fd.scope.kind=.function∧fd.globals=mainGlobals∧fd.builtins=builtinsNs∧
  C.h₀.CodeRec fd.code fd.qualname∧fd.params.posonlyargs=[]∧fd.params.args.map (·.arg)=names∧fd.params.kwonlyargs=[]∧fd.params.vararg=none∧fd.params.kwarg=none∧fd.defaults=.none∧fd.scope.names=cx.sc
 dist:distinct names=true
 kinds:∀ x∈names,cx.sc.lookup x=some .local∨cx.sc.lookup x=some .cell
 vars:∀ x j,cx.vars.lookup x=some j→j < names.length→names[j]?=some x
 nofree:∀ x,cx.sc.lookup x≠some .free
 capK:∀ x,cx.caps.contains x=true→cx.sc.lookup x=some .cell
 nolim:C.h₀.NoLimit
 code:cx.caps=[]∨∀ fd,(∃ o,C.h₀.get? a=some o∧o.data=.func fd)→fd.code=.ref C.lc∧fd.qualname++(".<locals>." : Str)++("<lambda>" : Str)=C.lqual
section
variable {C:Cfg} {cx:Cx} {X0 X X' Pn:AP} {env:Env} {aj s s' s'':Shared} {ρ ρ':Fr} {p p':List V} {A:Around} {h h':Heap} {n:Nat} {call:Call} {b:Bool}
theorem Frames.kp (k:Kp s s'):∀ {l:List Env},Frames C s.heap l→Frames C s'.heap l
 | [],_=>trivial
 | env::r,⟨hk,⟨F,o,es,ep,hf,hn,ho,hc,hd⟩,hr⟩=>⟨hk,⟨F,o,es,ep,hf,hn,k.keep _ _ ho,hc,hd⟩,hr.kp k⟩
theorem nJ {a:Addr} {names:List Str} {body:List Stmt} {args:List Slot} {vals:List Value} {R:Result→Shared→Prop} (F:ky C a cx names body) (P:aZ C (n + 1) X Pn p A s) (ha:dF C X Pn s.heap args vals) (hl:args.length=names.length)
  (hQ:∀ env s₁ X1,St C cx X Pn env s (fill args) p s₁ X1→aN C (A.deeper env) s₁.heap→Kf X X1 s s₁→cR (A.deeper env) n→(∃ l,(A.deeper env).frames=some (env::l))→
   wpAny (model C.prog C.w) (A.deeper env) (execs body env) (fun f s'=>R (.ok (.ret (match f with | .ret v=>v | _=>.none))) s')
    (fun e s'=>wpAny (model C.prog C.w) (A.deeper env) (leaving env e) (fun _ s''=>R (.error e) s'') (fun e' s''=>R (.error e') s'') s') s₁):
  codeAny (model C.prog C.w) A (.call (.ref a) ⟨vals,[]⟩) R s:=by
 obtain ⟨o,fd,ho,hd,f1,f2,f3,f4,f5,f6,f7,f8,f9,f10,f11,f12,f13,f14,f15⟩:=F.obj
 have hvl:=ha.length
 have hroom:=P.room
 refine codeAny_call_function (by have:=hroom.depth;omega) (P.base _ _ ho) hd f3 f4 f2 (f8.keeps P.base) ?_
 refine kn f9 f10 f11 f12 f13 f14 (hvl.trans hl) F.dist ?_
 rw [f1]
 refine o8 f5 (fun x hx=>by rw [f15];exact F.kinds x.1 (List.of_mem_zip hx).1) fun s₁ l=>⟨(F.nolim.keeps P.base).keeps l.kp.keep,codeAny_func ?_⟩
 have hLs:s.heap.get? s.heap.objs.size=none:=bS _
 generalize hL:s.heap.objs.size=L at *
 generalize hE:hZ fd L a=env at *
 have e1:env.locals=L:=by rw [← hE];rfl
 have e2:env.scope=fd.scope:=by rw [← hE];rfl
 have e3:env.cells=cellsFrom (L + 1) fd.scope.names []:=by rw [← hE];rfl
 have hkn:∀ x,env.kindOf x=cx.sc.lookup x:=fun x=>by unfold Env.kindOf;rw [e2,f15]
 have hcn:∀ x c,env.cells.lookup x=some c→s.heap.get? c=none:=fun x c hc=>by
  have:=l.above x c (mem_of_lookup hc)
  rw [e1] at this
  exact fi (by rw [hL];exact Nat.le_of_lt this)
 have hcL:∀ x c,env.cells.lookup x=some c→c≠L:=fun x c hc=>by
  have:=l.above x c (mem_of_lookup hc)
  rw [e1] at this
  exact Nat.ne_of_gt this
 have h0:∀ b,s.heap.get? b=none→C.h₀.get? b=none:=fun b e=>by
  cases q:C.h₀.get? b with
  | none=>rfl
  | some o=>have:=P.base b o q;rw [e] at this;cases this
 have hX:∀ b,X b→s.heap.get? b≠none:=fun b hb e=>by obtain ⟨o,q⟩:=P.lt b hb;rw [e] at q;cases q
 let X1:AP:=fun b=>X b∨b=L∨∃ y,env.cells.lookup y=some b∧cx.caps.contains y=false
 have hX1:∀ b,X1 b→X b∨s.heap.get? b=none:=fun b q=>by
  rcases q with q | rfl | ⟨y,q,_⟩
  ·exact .inl q
  ·exact .inr hLs
  ·exact .inr (hcn y b q)
 have T:Tr X s.heap X1 s₁.heap:=fun b o e _ hx=>⟨l.kp.keep b o e,fun q=>(hX1 b q).elim hx fun q=>by rw [q] at e;cases e⟩
 have hlt:∀ b,X1 b→∃ o,s₁.heap.get? b=some o:=fun b q=>by
  rcases q with q | rfl | ⟨y,q,_⟩
  ·obtain ⟨o,q⟩:=P.lt b q;exact ⟨o,l.kp.keep b o q⟩
  ·obtain ⟨o,q,_⟩:=l.frm;exact ⟨o,e1 ▸ q⟩
  ·obtain ⟨o,q,_⟩:=l.cell y b q;exact ⟨o,q⟩
 have nx:Nx C Pn s s₁:=l.kp.nx P.base
 have slots:∀ x j,cx.vars.lookup x=some j→ay j (fill args)≠.undef→∃ val,vals[j]?=some val∧names[j]?=some x∧uU C X Pn s.heap (ay j (fill args)) val:=fun x j hx hu=>by
  have e:=jq hu
  obtain ⟨v,hv,hr⟩:=ha.get e
  have hj:j < args.length:=(List.getElem?_eq_some_iff.mp e).1
  exact ⟨v,hv,F.vars x j hx (hl ▸ hj),hr⟩
 have noown:∀ x j u,cx.vars.lookup x=some j→ay j (fill args)≠.own u:=fun x j u hx e=>by
  obtain ⟨val,_,_,q⟩:=slots x j hx (by rw [e];simp)
  rw [e] at q;exact q
 have hval:∀ x j val,vals[j]?=some val→names[j]?=some x→Reads env s₁.heap x val:=fun x j val hv hn=>by
  unfold Reads
  rw [hkn]
  have hmem:x∈names:=List.mem_of_getElem? hn
  rcases F.kinds x hmem with hk | hk
  ·rw [hk]
   exact ⟨_,l.ns,nN F.dist hn hv (by rw [hkn];exact hk)⟩
  ·rw [hk]
   obtain ⟨c,hc⟩:=gv fd.scope.names (L + 1) [] x (.inl (mem_of_lookup (by rw [f15];exact hk)))
   rw [← e3] at hc
   obtain ⟨o,q1,q2,q3⟩:=l.cell x c hc
   rw [nO F.dist hn hv (by rw [hkn];exact hk)] at q3
   exact ⟨c,hc,o,q1,q2,q3⟩
 have vw:Vw C cx X1 Pn env (fill args) p s₁.heap:={
  kind:=by rw [e2];exact f5
  globals:=by rw [← hE];exact f6
  builtins:=by rw [← hE];exact f7
  kinds:=fun x k hk=>⟨fun _=>by rw [hkn];exact hk,fun e=>absurd (e ▸ hk) (F.nofree x)⟩
  cells:=fun x hk=>by
   rw [hkn] at hk
   rcases hk with hk | hk
   ·rw [e3];exact gv _ _ _ _ (.inl (mem_of_lookup (by rw [f15];exact hk)))
   ·exact absurd hk (F.nofree x)
  vars:=fun x j hx hu=>by
   obtain ⟨val,hv,hn,hr⟩:=slots x j hx hu
   refine ⟨val,hval x j val hv hn,?_,fun e=>?_⟩
   ·cases hg:ay j (fill args) with
    | undef=>trivial
    | val w=>rw [hg] at hr;exact RepV.tr T hr
    | own w=>exact absurd hg (noown x j w hx)
    | au=>rw [hg] at hr;exact hr
   ·subst e
    rw [e1] at hr
    cases hg:ay j (fill args) with
    | undef=>exact hu hg
    | val w=>rw [hg] at hr;obtain ⟨_,o,q,_⟩:=RepV.obj hr;rw [hLs] at q;cases q
    | own w=>exact noown x j w hx hg
    | au=>rw [hg] at hr;obtain ⟨P',e,hP⟩:=hr;cases e;exact hX _ (P.pnX _ hP) hLs
  own:=fun x j v hx hg=>absurd hg (noown x j v hx)
  code:=F.code.imp id fun q=>by rw [← hE];exact q fd ⟨o,ho,hd⟩
  caps:=fun x c hc hcx q=>by
   rcases q with q | q | ⟨y,q,hy⟩
   ·exact hX c q (hcn x c hcx)
   ·exact hcL x c hcx q
   ·have:=name_of_addr l.apart (mem_of_lookup hcx) (mem_of_lookup q)
    subst this;rw [hc] at hy;cases hy
  tab:=P.tab.keeps l.kp.keep fun b q=>(hX1 b q).imp id .none
  au:=P.au.tr T fun b o _ e _=>l.kp.keep b o e
  pnX:=fun b hb=>.inl (P.pnX b hb)
  base:=nx.ext.base
  lt:=hlt
  fresh:=fun b hb=>(hX1 b hb).elim (P.fresh b) (h0 b) }
 have S:St C cx X Pn env s (fill args) p s₁ X1:={
  vw:=vw,nx:=nx,sub:=fun b q=>.inl q,new:=hX1,pn0:=P.pnX,lt0:=P.lt,base0:=P.base,lns:=⟨_,l.ns⟩,frm:=l.frm
  efr:=by rw [← hE];rfl
  lX:=.inr (.inl e1),l0:=by rw [e1];exact hLs
  cellX:=fun x c hk hc=>by
   obtain ⟨o,q1,q2,q3⟩:=l.cell x c hc
   exact ⟨⟨o,_,q1,q2,q3⟩,hcn x c hc,fun q=>.inr (.inr ⟨x,hc,q⟩)⟩
  capK:=fun x hx=>by rw [hkn];exact F.capK x hx
  cinj:=fun x y c hx hy=>name_of_addr l.apart (mem_of_lookup hx) (mem_of_lookup hy)
  nofree:=fun x=>by rw [hkn];exact F.nofree x
  own:=⟨fun _=>0,fun x j u hx hg=>absurd hg (noown x j u hx),fun x y j k u w hx _ hg=>absurd hg (noown x j u hx)⟩ }
 obtain ⟨fr,hfr,hFr⟩:=P.stk
 have hfr':(A.deeper env).frames=some (env::fr):=by show A.frames.map (env::·)=_;rw [hfr];rfl
 obtain ⟨oL,hoL,hcLL⟩:=l.frm
 have hLd:∃ es ep,oL.data=.dict es ep:=by obtain ⟨o',es,ep,q1,q2,_⟩:=l.ns;rw [hoL] at q1;cases q1;exact ⟨es,ep,q2⟩
 obtain ⟨es,ep,hLd⟩:=hLd
 refine hQ env s₁ X1 S ⟨env::fr,hfr',?_,⟨L,oL,es,ep,by rw [S.efr,e1],h0 L hLs,e1 ▸ hoL,hcLL,hLd⟩,hFr.kp l.kp⟩ ⟨fun b o e hc hx=>⟨l.kp.keep b o e,fun q=>(hX1 b q).elim hx fun q=>by rw [q] at e;cases e⟩⟩
  ⟨hroom.handled,?_,?_⟩ ⟨fr,hfr'⟩
 ·rw [e2,f5];decide
 ·have:=hroom.depth;show A.depth + 1 + n + 3 < recursionLimit;omega
 ·have:=hroom.units;show A.units + 3 + 4 * n + 500 < cLine;omega
end
section
variable {C:Cfg} {cx:Cx} {X0 X X' Pn:AP} {env:Env} {aj s s' s'':Shared} {ρ ρ':Fr} {p p':List V} {A:Around} {h h':Heap} {n:Nat} {call:Call} {b:Bool}
noncomputable def af.res (r:af):Res:=@af.rec (fun _=>Res) Res.stuck (fun _ p=>Res.ok V.none p) (fun _ _=>Res.stuck) (fun _ _=>Res.stuck) (fun v _ p=>Res.ok v p) (fun k _ p=>Res.exc k p) r
theorem oF {d:ak} {args:List Slot} (e:eL d call args p≠.stuck):args.length=d.np∧eL d call args p=(d.body call (fill args) p).res:=by
 have q:eL d call args p=@Bool.rec (fun _=>Res) Res.stuck (d.body call (fill args) p).res (Nat.beq (cW args) d.np):=rfl
 rw [q] at e ⊢
 cases hb:Nat.beq (cW args) d.np with
 | false=>rw [hb] at e;exact absurd rfl e
 | true=>
  have:=Nat.eq_of_beq_eq_true hb
  rw [bD] at this
  exact ⟨this,rfl⟩
theorem St.leave (S:St C cx X0 Pn env aj ρ p s X):aY C X0 Pn s.heap p:=S.vw.au.tr (fun a o e _ hx=>⟨e,fun q=>hx (S.sub a q)⟩) fun _ _ _ e _=>e
theorem St.xX (S:St C cx X0 Pn env aj ρ p s X) {v:V} {val:Value} (r:RepV C X s.heap v val):RepV C X0 s.heap v val:=r.tr fun a o e _ hx=>⟨e,fun q=>hx (S.sub a q)⟩
theorem tj {Q E:Value→Shared→Prop} {r:af} {s₁:Shared} {X1:AP} {outer:List Env} (hcls:∃ q,C.cls=.ref q) (N:Ends C false X Pn r.res Q E s) (hA:A.frames=some (env::outer)) (hfr:env.frame=some env.locals):
  bf C cx X Pn env s A r (fun f s'=>(fun r s'=>match r with | .ok (.ret v)=>Q v s' | .ok _=>False | .error e=>E e s') (.ok (.ret (match f with | .ret v=>v | _=>.none)):Result) s')
   (fun e s'=>wpAny (model C.prog C.w) A (leaving env e) (fun _ s''=>E e s'') (fun e' s''=>E e' s'') s') s₁ X1 where
 go:=fun e=>N.1 (by rw [e];rfl)
 next ρ' p' e:=fun s' X' S' _ _=>by
  have N:=N.2.1 .none p' (by rw [e];rfl)
  exact N .none s' S'.nx S'.leave (by show RepV C X _ _ _;simp [RepV])
 brk ρ' p' e:=absurd (show r.res=.stuck by rw [e];rfl) N.1
 cont ρ' p' e:=absurd (show r.res=.stuck by rw [e];rfl) N.1
 ret v ρ' p' e:=fun s' X' S' _ _ val hv=>N.2.1 v p' (by rw [e];rfl) val s' S'.nx S'.leave (S'.xX hv)
 exc k ρ' p' e:=fun s' X' S' k' ex hx=>by
  have N:=N.2.2 k p' (by rw [e];rfl)
  obtain ⟨l,hl,hF⟩:=k'
  rw [hA] at hl;cases hl
  refine kQ hA hF hfr S'.vw.base S'.base0 S'.has hcls hx fun s'' Y m x=>?_
  have S'':=S'.marked m
  exact N ex s'' S''.nx S''.leave x
theorem uF {a:Addr} {names:List Str} {body:List Stmt} {d:ak} {args:List Slot} {vals:List Value} {Q E:Value→Shared→Prop} (hcls:∃ q,C.cls=.ref q) (F:ky C a cx names body) (hnp:d.np=names.length) (B:dn C cx body d.body) (hc:cL C n call)
  (P:aZ C (n + 1) X Pn p A s) (ha:dF C X Pn s.heap args vals) (N:Ends C false X Pn (eL d call args p) Q E s):wpAny (model C.prog C.w) A (PySem.call (.ref a) vals) Q E s:=by
 obtain ⟨hl,e⟩:=oF N.1
 rw [e] at N
 refine wpAny_call (nJ F P ha (hl.trans hnp) fun env s₁ X1 S k kf hr hA=>?_)
 obtain ⟨outer,hA⟩:=hA
 exact B n call hc X Pn env s (fill args) p s₁ X1 (A.deeper env) _ _ ⟨outer,hA⟩ S k hr (tj hcls N hA S.efr)
end
section
variable {M:Model} {A:Around} {E:Value→Shared→Prop} {s:Shared}
theorem wL {scope:Scope} {globals builtins a:Addr} {closure:List (Str×Addr)} {x:Str} {val code:Value} {qual:Str} {Q:Env→Shared→Prop} (hk:scope.kind=.function) (hc:∀ x∈scope.names,x.2≠.cell) (hl:scope.names.lookup x=some .local)
  (hQ:∀ h' tk m,h'.Ns s.heap.objs.size m→m x=some val→(∃ o,h'.get? s.heap.objs.size=some o∧o.cls=aL)→(∀ b o,s.heap.get? b=some o→h'.get? b=some o)→Q (newEnv scope s.heap.objs.size globals closure qual (some a) code none builtins) { s with heap:=h',toks:=tk }):
  wpAny M A (newFunctionEnv scope globals closure [(x,val)] qual (some a) code none builtins) Q E s:=by
 simp only [newFunctionEnv,Option.isSome_none,Bool.false_eq_true,if_false]
 refine wpAny_bind (wpAny_alloc ?_)
 rw [forIn_yield_id closure (fun x hx c=>by
  obtain ⟨name,kind⟩:=x
  have:(kind==NameKind.cell)=false:=by simpa using hc _ hx
  simp only [this,Bool.false_eq_true,if_false])]
 refine wpAny_bind (wpAny_pure (wpAny_bind ?_))
 rw [List.forIn_cons]
 have hk':Env.kindOf { scope,locals:=s.heap.objs.size,globals,cells:=closure,qual,func:=some a,code,frame:=some s.heap.objs.size,builtins } x=some .local:=hl
 rw [storeName_local hk' (by
  show (scope.kind==.class||(scope.kind==.module&&_))=false
  rw [hk];rfl)]
 refine wpAny_bind (wpAny_bind (j3 (s:={ s with heap:=s.heap.push { cls:=.type "frame",data:=.dict #[] } }) (Heap.Ns.new s.heap (.type "frame")) (Heap.get?_push_size _ rfl) fun h' o' hn' hs' ho' hc' hd'=>wpAny_pure ?_))
 dsimp only
 rw [List.forIn_nil]
 refine wpAny_pure (wpAny_pure (hQ h' _ _ hn' (by simp) ⟨o',ho',hc'⟩ fun b o e=>?_))
 exact hs'.extBut b o (Nat.ne_of_lt (Heap.lt_size e)) (Heap.get?_push_of_some _ e)
end
structure rR (C:Cfg) (f:Nat) (d:ak):Prop where
 at_:∀ fd cs,C.lam f fd cs→∃ (cx:Cx) (x y:Str) (c:Addr) (body:Expr) (db:aq),
  cs=[c]∧fd.closure=[(y,c)]∧fd.qualname=C.lqual∧fd.body=.expr body∧fd.scope.isCoroutine=false∧fd.scope.isGenerator=false∧fd.scope.kind=.function∧fd.globals=mainGlobals∧fd.builtins=builtinsNs∧
  fd.params.posonlyargs=[]∧fd.params.args.map (·.arg)=[x]∧fd.params.kwonlyargs=[]∧fd.params.vararg=none∧fd.params.kwarg=none∧fd.defaults=.none∧fd.scope.names=cx.sc∧
  (∀ z∈cx.sc,z.2≠.cell)∧cx.sc.lookup x=some .local∧cx.sc.lookup y=some .free∧(∀ z,cx.sc.lookup z=some .free→z=y)∧(∀ z j,cx.vars.lookup z=some j→j=0∧z=x∨j=1∧z=y∨2≤j)∧cx.caps=[]∧d={ np:=2,body:=ai db }∧az C cx false body db
section
variable {C:Cfg} {cx:Cx} {X0 X X' Pn:AP} {env:Env} {aj s s' s'':Shared} {ρ ρ':Fr} {p p':List V} {A:Around} {h h':Heap} {n:Nat} {call:Call} {b:Bool}
theorem wW {f:Nat} {d:ak} {caps:List V} {a:Addr} {v:V} {val:Value} {Q E:Value→Shared→Prop} (hcls:∃ q,C.cls=.ref q) (hnl:C.h₀.NoLimit) (L:rR C f d) (hc:cL C n call) (P:aZ C (n + 1) X Pn p A s) (hr:RepV C X s.heap (.clo f caps) (.ref a)) (hv:RepV C X s.heap v val)
  (N:Ends C false X Pn (eL d call (.val v::caps.map .val) p) Q E s):wpAny (model C.prog C.w) A (PySem.call (.ref a) [val]) Q E s:=by
 obtain ⟨hl,e⟩:=oF N.1
 rw [e] at N
 simp only [RepV] at hr
 obtain ⟨a',cs,vs,e,hXa,⟨o,fd,cd,ho,hocls,hd,hlam,hcode,⟨hXc,oc,vsc,tk,g1,g2,g3,g4⟩⟩,hXcs,hcells,hcaps⟩:=hr
 cases e
 obtain ⟨cx,x,y,c,body,db,rfl,f1,f2,f3,f4,f5,f6,f7,f8,f9,f10,f11,f12,f13,f14,f15,f16,f17,f18,f19,f20,f21,rfl,hB⟩:=L.at_ fd cs hlam
 have hXc':¬X c:=hXcs c List.mem_cons_self
 obtain ⟨w,r,rfl,hcell,rfl⟩:=hcells
 obtain ⟨cap,rfl⟩:∃ cap,caps=[cap]:=by
  match caps,hl with
  | [cap],_=>exact ⟨cap,rfl⟩
  | [],h=>simp at h
  | _::_::_,h=>simp at h
 have hcap:RepV C X s.heap cap w:=(RepVs.dY.mp hcaps).1
 have hroom:=P.room
 have hcr:s.heap.CodeRec fd.code fd.qualname:=⟨cd,oc,vsc,tk,hcode,g1,g3,by rw [f2];exact g4⟩
 refine wpAny_call (PySem.W.kla_callFunE (by have:=hroom.depth;omega) ho hd f4 f5 f3 hcr ?_)
 refine kn f9 f10 f11 f12 f13 f14 rfl (by simp [distinct]) ?_
 rw [f1]
 show wpAny _ _ (newFunctionEnv fd.scope fd.globals [(y,c)] [(x,val)] _ _ _ _ _) _ _ _
 refine wL f6 (by rw [f15];exact f16) (by rw [f15];exact f17) fun aG tk1 m hns hm hfrm hkeep=>?_
 have kp:Kp s { s with heap:=aG,toks:=tk1 }:=⟨hkeep,rfl,rfl⟩
 refine ⟨(hnl.keeps P.base).keeps hkeep,PySem.W.kla_codeExpr ?_⟩
 have hLs:s.heap.get? s.heap.objs.size=none:=bS _
 generalize hLL:s.heap.objs.size=L at *
 generalize hE:newEnv fd.scope L fd.globals [(y,c)] (fd.qualname ++ ".<locals>.") (some a) fd.code none fd.builtins=env at *
 have e1:env.locals=L:=by rw [← hE];rfl
 have e2:env.scope=fd.scope:=by rw [← hE];rfl
 have e3:env.cells=[(y,c)]:=by rw [← hE];rfl
 have e4:env.frame=some L:=by rw [← hE];rfl
 have hkn:∀ x,env.kindOf x=cx.sc.lookup x:=fun x=>by unfold Env.kindOf;rw [e2,f15]
 have hX:∀ b,X b→s.heap.get? b≠none:=fun b hb e=>by obtain ⟨o,q⟩:=P.lt b hb;rw [e] at q;cases q
 have h0:C.h₀.get? L=none:=by
  cases q:C.h₀.get? L with
  | none=>rfl
  | some o=>have:=P.base L o q;rw [hLs] at this;cases this
 have T:Tr X s.heap (Xa X L) aG:=fun b o e _ hx=>⟨hkeep b o e,fun q=>q.elim hx fun q=>by rw [q,hLs] at e;cases e⟩
 have hcell1:cA aG c w:=by obtain ⟨o,q1,q2,q3⟩:=hcell;exact ⟨o,hkeep c o q1,q2,q3⟩
 have nx:Nx C Pn s { s with heap:=aG,toks:=tk1 }:=kp.nx P.base
 have neL:∀ {u:V} {z:Value},RepV C X s.heap u z→z≠.ref L:=fun {u z} r e=>by subst e;obtain ⟨_,o,q,_⟩:=RepV.obj r;rw [hLs] at q;cases q
 have vw:Vw C cx (Xa X L) Pn env (fill [.val v,.val cap]) p aG:={
  kind:=by rw [e2];exact f6
  globals:=by rw [← hE];exact f7
  builtins:=by rw [← hE];exact f8
  kinds:=fun x k hk=>⟨fun _=>by rw [hkn];exact hk,fun e=>.inl (by rw [hkn];exact e ▸ hk)⟩
  cells:=fun z hk=>by
   rw [hkn] at hk
   rcases hk with hk | hk
   ·exact absurd rfl (f16 _ (mem_of_lookup hk))
   ·rw [f19 z hk,e3];exact ⟨c,by simp⟩
  vars:=fun z j hz hu=>by
   rcases f20 z j hz with ⟨rfl,rfl⟩ | ⟨rfl,rfl⟩ | hj
   ·refine ⟨val,?_,RepV.tr T hv,by rw [e1];exact neL hv⟩
    unfold Reads;rw [hkn,f17,e1];exact ⟨m,hns,hm⟩
   ·refine ⟨w,?_,RepV.tr T hcap,by rw [e1];exact neL hcap⟩
    unfold Reads;rw [hkn,f18,e3];exact ⟨c,by simp,hcell1⟩
   ·have:=jq hu
    rw [List.getElem?_eq_none (by simpa using hj)] at this;cases this
  own:=fun z j u hz hg=>by
   have hu:ay j (fill [.val v,.val cap])≠.undef:=by rw [hg];simp
   have:=jq hu
   rcases f20 z j hz with ⟨rfl,rfl⟩ | ⟨rfl,rfl⟩ | hj
   ·rw [hg] at this;cases this
   ·rw [hg] at this;cases this
   ·rw [List.getElem?_eq_none (by simpa using hj)] at this;cases this
  code:=.inl f21
  caps:=fun x c hx=>by rw [f21] at hx;simp at hx
  tab:=P.tab.keeps hkeep (fun b (q:Xa X L b)=>Or.imp id (fun (q:b=L)=>.none (q ▸ hLs)) q)
  au:=P.au.tr T fun b o _ e _=>hkeep b o e
  pnX:=fun b hb=>.inl (P.pnX b hb)
  base:=nx.ext.base
  lt:=fun b hb=>hb.elim (fun q=>let ⟨o,e⟩:=P.lt b q;⟨o,hkeep b o e⟩) fun q=>by obtain ⟨o,q',_⟩:=hfrm;exact ⟨o,q ▸ q'⟩
  fresh:=fun b hb=>hb.elim (P.fresh b) fun q=>q ▸ h0 }
 obtain ⟨fr,hfr,hFr⟩:=P.stk
 have hfr':(A.deeper env).frames=some (env::fr):=by show A.frames.map (env::·)=_;rw [hfr];rfl
 obtain ⟨oL,hoL,hcLL⟩:=hfrm
 obtain ⟨es,ep,hLd⟩:∃ es ep,oL.data=.dict es ep:=by obtain ⟨o',es,ep,q1,q2,_⟩:=hns;rw [hoL] at q1;cases q1;exact ⟨es,ep,q2⟩
 have k₁:aN C (A.deeper env) aG:=⟨env::fr,hfr',by rw [e2,f6];decide,⟨L,oL,es,ep,e4,h0,hoL,hcLL,hLd⟩,hFr.kp kp⟩
 have Az:cR (A.deeper env) n:=⟨hroom.handled,by have:=hroom.depth;show A.depth + 1 + n + 3 < recursionLimit;omega,by have:=hroom.units;show A.units + 3 + 4 * n + 500 < cLine;omega⟩
 have N:Ends C false X Pn (@af.rec (fun _=>Res) Res.stuck (fun _ p=>Res.ok V.none p) (fun _ _=>Res.stuck) (fun _ _=>Res.stuck) (fun v _ p=>Res.ok v p) (fun k _ p=>Res.exc k p) (ai db call (fill [.val v,.val cap]) p)) Q E s:=N
 have back:∀ {s₂:Shared} {aO:List V},aY C (Xa X L) Pn s₂.heap aO→aY C X Pn s₂.heap aO:=fun R=>R.tr (fun a o e _ hx=>⟨e,fun q=>hx (.inl q)⟩) fun _ _ _ e _=>e
 refine hB n call hc (Xa X L) Pn env (fill [.val v,.val cap]) p _ (A.deeper env) _ _ vw k₁ Az ⟨fun e=>N.1 (by unfold ai;rw [e]),fun u aO e val2 s₂ hn hp hu=>?_,fun kk aO e ex s₂ hn hp hx=>?_⟩
 ·have e':(@af.rec (fun _=>Res) Res.stuck (fun _ p=>Res.ok V.none p) (fun _ _=>Res.stuck) (fun _ _=>Res.stuck) (fun v _ p=>Res.ok v p) (fun k _ p=>Res.exc k p) (ai db call (fill [.val v,.val cap]) p))=.ok u aO:=by unfold ai;rw [e]
  exact N.2.1 u aO e' val2 s₂ (nx.trans hn) (back hp) (RepV.tr (fun a o e _ hx=>⟨e,fun q=>hx (.inl q)⟩) hu)
 ·have e':(@af.rec (fun _=>Res) Res.stuck (fun _ p=>Res.ok V.none p) (fun _ _=>Res.stuck) (fun _ _=>Res.stuck) (fun v _ p=>Res.ok v p) (fun k _ p=>Res.exc k p) (ai db call (fill [.val v,.val cap]) p))=.exc kk aO:=by unfold ai;rw [e]
  have nx2:=nx.trans hn
  have k₂:=k₁.ext hn.ext vw.au
  obtain ⟨l,hl,hF⟩:=k₂
  rw [hfr'] at hl;cases hl
  have hsub:∀ b,(∃ o,s.heap.get? b=some o)→∃ o,s₂.heap.get? b=some o:=fun b q=>Ext.lt nx2.ext hp b q
  have hx':ExcAt C s.heap true (some L) kk s₂.heap ex:=by
   have:=fQ.at (env:=env) hx
   rw [e1] at this
   exact this.back fun b o e=>⟨o,hkeep b o e⟩
  refine kQ hfr' hF e4 nx2.ext.base P.base hsub hcls hx' fun aP Y mk x=>?_
  have nx3:Nx C Pn s aP:=((nx2.grow (Y:=fun b=>Pn b∨Y b) fun _ q=>.inl q).trans (mk.nx.grow fun _ q=>.inr q)).shrink fun b hb=>hb.elim .inl fun q=>.inr (mk.ok b q).1
  refine N.2.2 kk aO e' ex aP nx3 ?_ x
  have hp:=back hp
  have keep:∀ b o,s₂.heap.get? b=some o→bG o.cls→aP.heap.get? b=some o:=fun b o e hcc=>mk.nx.ext.keep b o e (fun q=>((mk.ok b q).2.2 o e).1 hcc) hcc.ne
  exact ⟨hp.one,fun P' hP=>by
   obtain ⟨vs',⟨z,nn,q⟩,r⟩:=hp.at_ P' hP
   exact ⟨vs',⟨z,nn,keep _ _ q (.inr (.inl rfl))⟩,r.tr fun a o e hcc hx=>⟨keep a o e hcc,hx⟩⟩⟩
end
section
variable {C:Cfg}
structure yC (C:Cfg) (T:Tab):Prop where
 def_:∀ f d,T.get f=some d→C.isDef f=true→∃ cx names body,ky C (C.fa f) cx names body∧d.np=names.length∧dn C cx body d.body
 lam:∀ f d,T.get f=some d→rR C f d
def kK (C:Cfg) (orc:ic):Prop:=∀ f g,orc f=some g→(∀ fd cs,¬C.lam f fd cs)∧∀ (n:Nat) (args:List Slot) (v:V),g n args=some v→∀ (p:List V) (X Pn:AP) (s:Shared) (A:Around) (vals:List Value) (Q E:Value→Shared→Prop),
 C.isDef f=true→aZ C (n + 1) X Pn p A s→dF C X Pn s.heap args vals→(∀ val s',Nx C Pn s s'→aY C X Pn s'.heap p→RepV C X s'.heap v val→Q val s')→wpAny (model C.prog C.w) A (PySem.call (.ref (C.fa f)) vals) Q E s
theorem kK.none:kK C fun _=>none:=fun _ _ h=>by cases h
theorem jC {T:Tab} {o:ic} {n f:Nat} {args:List Slot} {p:List V}:aU T o (n + 1) f args p=(match o f with
  | some g=>(match g n args with
   | some v=>Res.ok v p
   | none=>(match T.get f with | some d=>eL d (aU T o n) args p | none=>.stuck))
  | none=>(match T.get f with | some d=>eL d (aU T o n) args p | none=>.stuck)):=by
 have e:aU T o (n + 1) f args p=@Option.rec (Nat→List Slot→Option V) (fun _=>Res) (@Option.rec ak (fun _=>Res) Res.stuck (fun d=>eL d (aU T o n) args p) (T.get f)) (fun g=>@Option.rec V (fun _=>Res) (@Option.rec ak (fun _=>Res) Res.stuck (fun d=>eL d (aU T o n) args p) (T.get f)) (fun v=>Res.ok v p) (g n args)) (o f):=rfl
 rw [e]
 cases o f with
 | none=>cases T.get f <;> rfl
 | some g=>dsimp only;cases g n args <;> cases T.get f <;> rfl
theorem xm {T:Tab} {o:ic} (hcls:∃ q,C.cls=.ref q) (hnl:C.h₀.NoLimit) (hT:yC C T) (hO:kK C o):∀ n,cL C n (aU T o n)
 | 0=>⟨fun f args p X Pn s A vals Q E _ _ _ N=>absurd rfl N.1,fun f caps a v p X Pn s A val Q E _ _ _ N=>absurd rfl N.1⟩
 | n + 1=>by
  have ih:=xm hcls hnl hT hO n
  constructor
  ·intro f args p X Pn s A vals Q E hd P ha N
   rw [jC] at N
   have run:Ends C false X Pn (match T.get f with | some d=>eL d (aU T o n) args p | none=>.stuck) Q E s→wpAny (model C.prog C.w) A (PySem.call (.ref (C.fa f)) vals) Q E s:=fun N=>by
    cases hg:T.get f with
    | none=>rw [hg] at N;exact absurd rfl N.1
    | some d=>
     rw [hg] at N
     obtain ⟨cx,names,body,F,hnp,B⟩:=hT.def_ f d hg hd
     exact uF hcls F hnp B ih P ha N
   cases ho:o f with
   | none=>rw [ho] at N;exact run N
   | some g=>
    rw [ho] at N
    dsimp only at N
    cases hv:g n args with
    | none=>rw [hv] at N;exact run N
    | some v=>
     rw [hv] at N
     exact (hO f g ho).2 n args v hv p X Pn s A vals Q E hd P ha fun val s' h1 h2 h3=>N.2.1 v p rfl val s' h1 h2 h3
  ·intro f caps a v p X Pn s A val Q E P hr hv N
   rw [jC] at N
   have run:Ends C false X Pn (match T.get f with | some d=>eL d (aU T o n) (.val v::caps.map .val) p | none=>.stuck) Q E s→wpAny (model C.prog C.w) A (PySem.call (.ref a) [val]) Q E s:=fun N=>by
    cases hg:T.get f with
    | none=>rw [hg] at N;exact absurd rfl N.1
    | some d=>
     rw [hg] at N
     exact wW hcls hnl (hT.lam f d hg) ih P hr hv N
   cases ho:o f with
   | none=>rw [ho] at N;exact run N
   | some g=>
    have hr':=hr
    simp only [RepV] at hr'
    obtain ⟨a',cs,vs,e,_,⟨_,fd,_,_,_,_,hlam,_⟩,_⟩:=hr'
    exact absurd hlam ((hO f g ho).1 fd cs)
end
def ib (C:Cfg) (cx:Cx) (xs:List Expr) (ds:List aS):Prop:=
 ∀ (n:Nat) (call:Call),cL C n call→∀ (X Pn:AP) (env:Env) (ρ:Fr) (p:List V) (s:Shared) (A:Around) (Q:List Value→Shared→Prop) (E:Value→Shared→Prop) (pos:Pos),
  Vw C cx X Pn env ρ p s.heap→aN C A s.heap→cR A n→bh C X Pn (bZ ds call ρ p).out (fun l s'=>∀ vals,dF C X Pn s'.heap l vals→Q vals s') E s→wpAny (model C.prog C.w) A (spliced (backTo pos (starEach xs env))) Q E s
section
variable {C:Cfg} {fns:List (Str×Nat)} {glb:List (Str×V)} {mg mb:Str→Option Value} {cx:Cx} {b:Bool} {X Pn:AP} {s s':Shared} {A:Around} {n:Nat} {ρ:Fr} {p p':List V} {env:Env} {Q E:Value→Shared→Prop} {h h':Heap} {call:Call}
theorem ib.nil:ib C cx [] []:=by
 intro n call hc X Pn env ρ p s A Q E pos hv hk hr N
 exact wpAny_items_nil (N.gF (v:=[]) hv.base hv.au _ rfl)
theorem ib.exp {x:Expr} {xs:List Expr} {d:aq} {ds:List aS} (hx:az C cx false x d) (hs:∀ e p,x≠.Starred e p) (hxs:ib C cx xs ds):ib C cx (x::xs) (.exp d::ds):=by
 intro n call hc X Pn env ρ p s A Q E pos hv hk hr N
 refine wpAny_items_cons ?_ (aJ hs env)
 have e:(bZ (.exp d::ds) call ρ p).out=(d call ρ p).out.bind fun v p=>(bZ ds call ρ p).out.bind fun l p=>.ok (Slot.val v::l) p:=by
  show (@Res.rec (fun _=>aH) aH.stuck (fun v p=>(@aH.rec (fun _=>aH) aH.stuck (fun l p=>aH.ok (Slot.val v::l) p) aH.exc (bZ ds call ρ p))) aH.exc (d call ρ p)).out=_
  rw [xD]
  congr 1;funext v p
  rw [oP]
  rfl
 rw [e] at N
 refine hx.run hc hv hk hr N fun v p₁ val s₁ hn v1 k₁ hval N1=>hxs n call hc X Pn env ρ p₁ s₁ A _ E pos v1 k₁ hr (N1.bind fun l aO s₂ _ bT hp2 N2 vals hvals=>?_)
 exact N2.gF bT.ext.base hp2 _ ⟨val,vals,rfl,RepV.ext bT.ext hv.pnX hval,hvals⟩
theorem ib.slot {x:Str} {px:Pos} {j:Nat} {xs:List Expr} {ds:List aS} (ok:aM x=true) (hj:cx.vars.lookup x=some j) (hxs:ib C cx xs ds):ib C cx (.Name x px::xs) (.slot (ay j)::ds):=by
 intro n call hc X Pn env ρ p s A Q E pos hv hk hr N
 refine wpAny_items_cons ?_ rfl
 have key:∀ sl,ay j ρ=sl→sl≠.undef→(∀ u,sl≠.own u)→bh C X Pn ((bZ ds call ρ p).out.bind fun l p=>.ok (sl::l) p) (fun l s'=>∀ vals,dF C X Pn s'.heap l vals→Q vals s') E s→
   wpAny (model C.prog C.w) A (eval (.Name x px) env) (fun v s₁=>wpAny (model C.prog C.w) A (spliced (backTo pos (starEach xs env))) (fun vs s₂=>Q (v::vs) s₂) E s₁) E s:=fun sl hg hu ho N=>by
  obtain ⟨val,rd,sr,_⟩:=hv.vars x j hj (by rw [hg];exact hu)
  refine wpAny_Name (bH hv.kind ok rd ?_) (bW ok)
  refine hxs n call hc X Pn env ρ p s A _ E pos hv hk hr (N.bind fun l aO s₂ _ bT hp2 N2 vals hvals=>?_)
  refine N2.gF bT.ext.base hp2 _ ⟨val,vals,rfl,?_,hvals⟩
  rw [hg] at sr
  cases sl with
  | val u=>exact RepV.ext bT.ext hv.pnX sr
  | au=>exact sr
  | undef=>exact absurd rfl hu
  | own u=>exact absurd rfl (ho u)
 have e:bZ (.slot (ay j)::ds) call ρ p=@Slot.rec (fun _=>aH) aH.stuck (fun v=>@aH.rec (fun _=>aH) aH.stuck (fun l p=>aH.ok (Slot.val v::l) p) aH.exc (bZ ds call ρ p)) (fun _=>aH.stuck) (@aH.rec (fun _=>aH) aH.stuck (fun l p=>aH.ok (Slot.au::l) p) aH.exc (bZ ds call ρ p)) (ay j ρ):=rfl
 rw [e] at N
 cases hg:ay j ρ with
 | undef=>rw [hg] at N;exact absurd rfl N.1
 | own u=>rw [hg] at N;exact absurd rfl N.1
 | val u=>
  rw [hg] at N
  exact key _ hg (by simp) (by simp) (by
   have q:(@aH.rec (fun _=>aH) aH.stuck (fun l p=>aH.ok (Slot.val u::l) p) aH.exc (bZ ds call ρ p)).out=(bZ ds call ρ p).out.bind fun l p=>.ok (Slot.val u::l) p:=by rw [oP];rfl
   rw [← q];exact N)
 | au=>
  rw [hg] at N
  exact key _ hg (by simp) (by simp) (by
   have q:(@aH.rec (fun _=>aH) aH.stuck (fun l p=>aH.ok (Slot.au::l) p) aH.exc (bZ ds call ρ p)).out=(bZ ds call ρ p).out.bind fun l p=>.ok (Slot.au::l) p:=by rw [oP];rfl
   rw [← q];exact N)
theorem ma:∀ {l:List Slot} {vals:List Value},mq l=false→dF C X Pn h l vals→dF C X (fun _=>False) h l vals
 | [],_,_,r=>r
 | sl::l,_,hp,⟨v,t,e,q1,q2⟩=>by
  cases sl with
  | val u=>exact ⟨v,t,e,q1,ma (l:=l) hp q2⟩
  | au=>exact absurd hp (by show ¬(true=false);simp)
  | undef=>exact q1.elim
  | own u=>exact q1.elim
theorem Ends.strict {r:Res} (N:Ends C b X Pn r Q E s):Ends C false X Pn r Q E s:=⟨N.1,fun v p e val s' h1 h2 h3=>N.2.1 v p e val s' h1 h2 (.of h3),N.2.2⟩
theorem aZ.rA (P:aZ C n X Pn p A s):aZ C n X (fun _=>False) [] A s:=
 ⟨P.room,P.stk,⟨fun _ _ q=>q.elim,fun _ q=>q.elim⟩,fun _ q=>q.elim,P.base,P.lt,P.fresh,P.tab⟩
theorem kB (P:aZ C n X Pn p A s) (hn:Nx C (fun _=>False) s s'):aY C X Pn s'.heap p:=P.au.tr (fun a o e hc hx=>⟨hn.ext.keep a o e (fun q=>q) hc.ne,hx⟩) fun b o _ e hc=>hn.ext.keep b o e (fun q=>q) hc
theorem te {f:Nat} {l:List Slot} {vals:List Value} (hc:cL C n call) (hd:C.isDef f=true) (P:aZ C n X Pn p A s) (ha:dF C X Pn s.heap l vals) (N:Ends C b X Pn (jB call f l p) Q E s):wpAny (model C.prog C.w) A (PySem.call (.ref (C.fa f)) vals) Q E s:=by
 have N:=N.strict
 have e:jB call f l p=@Bool.rec (fun _=>Res) (gT (call f l []) p) (call f l p) (mq l):=rfl
 rw [e] at N
 cases hp:mq l with
 | true=>rw [hp] at N;exact hc.def_ f l p X Pn s A vals Q E hd P ha N
 | false=>
  rw [hp] at N
  have N:Ends C false X Pn (gT (call f l []) p) Q E s:=N
  refine hc.def_ f l [] X (fun _=>False) s A vals Q E hd P.rA (ma hp ha) ⟨fun e=>N.1 (by unfold gT;rw [e]),fun v p' e val s' hn _ hv=>?_,fun k p' e ex s' hn _ hx=>?_⟩
  ·exact N.2.1 v p (by unfold gT;rw [e]) val s' (hn.grow fun _ q=>q.elim) (kB P hn) hv
  ·exact N.2.2 k p (by unfold gT;rw [e]) ex s' (hn.grow fun _ q=>q.elim) (kB P hn) hx
theorem pC {f:Value} {xs:List Expr} {pos:Pos} {M:Model} {Q:Args→Shared→Prop} (hs:∀ x∈xs,∀ e p,x≠.Starred e p) (h:wpAny M A (spliced (backTo pos (starEach xs env))) (fun vs s'=>Q ⟨vs,[]⟩ s') E s):wpAny M A (evalArgs f true (backTo pos (starEach xs env)) []) Q E s:=by
 cases xs with
 | nil=>
  unfold evalArgs
  show wpAny M A (spliced [] >>= _) Q E s
  refine wpAny_bind (wpAny_mono h (fun vs s' h'=>?_) fun _ _ x=>x)
  refine wpAny_bind (wpAny_pure ?_)
  refine wpAny_holding ?_
  exact wpAny_bind (wpAny_pure (wpAny_pure h'))
 | cons x xs=>
  rw [aJ (hs x List.mem_cons_self)] at h ⊢
  exact Calls.evalArgs_plain h
theorem az.u9 {f:Str} {fp cp:Pos} {i:Nat} {xs:List Expr} {ds:List aS} (W:dv C fns glb mg mb) (hx:aM f=true) (hG:cx.du f=true) (hf:fns.lookup f=some i) (hd:C.isDef i=true) (hs:∀ x∈xs,∀ e p,x≠.Starred e p) (ha:ib C cx xs ds):
  az C cx b (.Call (.Name f fp) xs [] cp) (ae i ds):=by
 intro n call hc X Pn env ρ p s A Q E hv hk hr N
 have e:(ae i ds call ρ p).out=(bZ ds call ρ p).out.bind fun l p=>(jB call i l p).out:=by rw [pQ];exact xE _ _
 have N:=N.o
 rw [e] at N
 obtain ⟨o,fd,ho,hdat⟩:=W.fobj f i hf
 refine wpAny_Call_Name_kw (il W hv hx hG (W.defs f i hf) ?_)
 refine callWith_function (o:=o) (fd:=fd) (pC hs (ha n call hc X Pn env ρ p s A _ E cp hv hk hr (N.bind fun l p₁ s₁ hl hn hp N1 vals hvals=>?_)))
 have v1:=hv.next hn.ext hp
 have k₁:=hk.ext hn.ext hv.au
 exact ⟨⟨v1.base _ _ ho,hdat⟩,te hc hd (v1.pre k₁ hr) hvals N1.e⟩
end
section
variable {C:Cfg} {fns:List (Str×Nat)} {glb:List (Str×V)} {mg mb:Str→Option Value} {cx:Cx} {b:Bool} {X Pn:AP} {s s':Shared} {A:Around} {n:Nat} {ρ:Fr} {p p':List V} {env:Env} {Q E:Value→Shared→Prop} {h h':Heap} {call:Call}
theorem wY {g:cZ} {d:aq} (e:cApp g d call ρ p≠.stuck):∃ f caps,g ρ=.val (.clo f caps)∧(cApp g d call ρ p).out=(d call ρ p).out.bind fun v p=>(gT (call f (.val v::caps.map .val) []) p).out:=by
 have h1:∃ f caps,g ρ=.val (.clo f caps):=by
  unfold cApp at e
  split at e
  ·exact ⟨_,_,‹_›⟩
  ·exact absurd rfl e
 obtain ⟨f,caps,hg⟩:=h1
 refine ⟨f,caps,hg,?_⟩
 unfold cApp
 rw [hg]
 dsimp only
 cases d call ρ p <;> rfl
theorem az.app {f:Str} {fp cp:Pos} {j:Nat} {x:Expr} {d:aq} (ok:aM f=true) (hj:cx.vars.lookup f=some j) (hs:∀ e p,x≠.Starred e p) (hx:az C cx false x d):az C cx b (.Call (.Name f fp) [x] [] cp) (cApp (ay j) d):=by
 intro n call hc X Pn env ρ p s A Q E hv hk hr N
 obtain ⟨i,caps,hg,e⟩:=wY N.1
 have N:=N.o
 rw [e] at N
 obtain ⟨val,rd,sr,_⟩:=hv.vars f j hj (by rw [hg];simp)
 rw [hg] at sr
 have sr:RepV C X s.heap (.clo i caps) val:=sr
 have sr':=sr
 simp only [RepV] at sr'
 obtain ⟨a,cs,vs,rfl,hXa,⟨o,fd,_,ho,hcls,hdat,_⟩,_⟩:=sr'
 refine wpAny_Call_Name_kw (wpAny_Name (bH hv.kind ok rd ?_) (bW ok))
 rw [lU hs]
 refine callWith_function (o:=o) (fd:=fd) (evalArgs_plain (spliced_cons (hx.run hc hv hk hr N fun v p₁ val s₁ hn v1 k₁ hval N1=>spliced_nil ?_)))
 refine ⟨⟨hn.ext.keep a o ho (fun q=>hXa (hv.pnX a q)) (aW hcls (by decide)),hdat⟩,?_⟩
 have N1:=N1.e.strict
 have P:=v1.pre k₁ hr
 refine hc.clo i caps a v [] X (fun _=>False) s₁ A val Q E P.rA (RepV.ext hn.ext hv.pnX sr) hval ⟨fun e=>N1.1 (by unfold gT;rw [e]),fun w p' e val s' hn _ hv=>?_,fun k p' e ex s' hn _ hx=>?_⟩
 ·exact N1.2.1 w p₁ (by unfold gT;rw [e]) val s' (hn.grow fun _ q=>q.elim) (kB P hn) hv
 ·exact N1.2.2 k p₁ (by unfold gT;rw [e]) ex s' (hn.grow fun _ q=>q.elim) (kB P hn) hx
theorem wX {g:cZ} {d:aq} (e:dZ g d call ρ p≠.stuck):g ρ=.au∧(dZ g d call ρ p).out=(d call ρ p).out.bind fun i p=>(@Option.rec V (fun _=>Res) Res.stuck (fun v=>Res.ok v p) (ah (.lst p) i)).out:=by
 have q:dZ g d call ρ p=@Slot.rec (fun _=>Res) Res.stuck (fun _=>Res.stuck) (fun _=>Res.stuck) (@Res.rec (fun _=>Res) Res.stuck (fun i p=>@Option.rec V (fun _=>Res) Res.stuck (fun v=>Res.ok v p) (ah (.lst p) i)) Res.exc (d call ρ p)) (g ρ):=rfl
 rw [q] at e ⊢
 cases hg:g ρ with
 | au=>exact ⟨rfl,cv _ _⟩
 | _=>rw [hg] at e;exact absurd rfl e
theorem az.au {x:Str} {px sp:Pos} {j:Nat} {i:Expr} {d:aq} (ok:aM x=true) (hj:cx.vars.lookup x=some j) (hi:az C cx true i d):az C cx b (.Subscript (.Name x px) i sp) (dZ (ay j) d):=by
 intro n call hc X Pn env ρ p s A Q E hv hk hr N
 obtain ⟨hg,e⟩:=wX N.1
 have N:=N.o
 rw [e] at N
 obtain ⟨val,rd,sr,_⟩:=hv.vars x j hj (by rw [hg];simp)
 rw [hg] at sr
 obtain ⟨P,rfl,hP⟩:=sr
 refine Subscript_ (wpAny_Name (bH hv.kind ok rd ?_) (bW ok))
 refine hi.run hc hv hk hr N fun v p₁ val s₁ hn v1 k₁ hval N1=>?_
 cases hm:ah (.lst p₁) v with
 | none=>rw [hm] at N1;exact absurd rfl N1.1
 | some w=>
  rw [hm] at N1
  obtain ⟨vs,hl,hvs⟩:=v1.au.at_ P hP
  have ho:bx C X (fun _=>False) s₁.heap (.lst p₁) (.ref P):=.inr ⟨P,rfl,fun q=>q,by simp only [OwnR];exact ⟨vs,hl,hvs⟩⟩
  have hval':bx C X (fun _=>False) s₁.heap v val:=by
   rcases hval with hval | ⟨a,e,_,hval⟩
   ·exact .inl hval
   ·exact .inr ⟨a,e,fun q=>q,hval⟩
  exact qt n X (fun _=>False) [] s₁ A Q E (.lst p₁) v w (.ref P) val (v1.pre k₁ hr).rA hm ho hval' fun val' s' hkp hrep=>N1.kp v1.base v1.au hkp _ (.of hrep)
end
section
variable {M:Model} {A:Around} {E:Value→Shared→Prop} {s:Shared} {name qual:Str} {params:Arguments} {body:Expr} {scope:Scope} {env:Env} {c P:Addr} {ps:Array Value} {pos:Pos} {firstLine:Nat} {mg:Str→Option Value}
 {q:Str×Addr} {r:List (Str×Addr)} {Q:Value→Shared→Prop}
open PySem.W in
theorem o6 (hcl:closureFor scope env=pure (q::r)) (hge0:env.globals=mainGlobals) (hg:s.heap.Ns mainGlobals mg) (hcode:env.code=.ref c) (C:CodeHd s.heap c P) (hP:s.heap.get? P=some (tabObj ps)) (ht:TriplesOk ps.toList)
  (hnf:codeAmong pos ps.toList=none) (hgP:mainGlobals≠P) (hb:s.heap.BuiltinsAt mg P)
  (h:∀ c' ctv h' tk,Heap.ExtBut P s.heap h'→s.heap.objs.size≤c'→(∃ o vs t,h'.get? c'=some o∧o.cls=.type "code" ∧ o.data=.fields vs∧vs[1]?=some (.str qual t))→h'.get? P=some (tabObj (ps++#[rawInt pos.line,rawInt pos.col,.ref c']))→
   Q (.ref h'.objs.size) { s with heap:=h'.push (kla_obj name qual params body scope (q::r) ((mg "__name__").getD .none) c' ctv),toks:=tk }):
  wpAny M A (makeTail name qual params (.expr body) scope env .none .none none pos firstLine) Q E s:=by
 obtain ⟨bm,ob,hbm,hne0,_,hneP,hbo,hcls,hdict,hdata⟩:=hb
 unfold makeTail
 rw [hcl,hge0]
 refine wpAny_bind (wpAny_pure ?_)
 simp only [List.isEmpty_cons,Bool.false_eq_true,if_false]
 refine wpAny_bind (wpAny_newTextTuple ?_)
 refine wpAny_bind (wpAny_functionCodeX hcode ((C.keeps fun b o e=>Heap.get?_push_of_some _ e).code (Heap.get?_push_of_some _ hP) ht) ((C.keeps fun b o e=>Heap.get?_push_of_some _ e).tab (Heap.get?_push_of_some _ hP)) hnf fun c' h' tk hx hge hlt _ hrec htb hcd=>?_)
 have hg':=(hg.push _).extBut hx hgP
 have hx':Heap.ExtBut P s.heap h':=fun b o hb' e=>hx b o hb' (Heap.get?_push_of_some _ e)
 have hge':s.heap.objs.size≤c':=Nat.le_trans (by rw [Heap.size_push];omega) hge
 have hC:∃ o vs t,h'.get? c'=some o∧o.cls=.type "code" ∧ o.data=.fields vs∧vs[1]?=some (.str qual t):=by
  obtain ⟨P',_,_,⟨o,vs,e1,e2,e3,_⟩,_⟩:=hcd
  obtain ⟨c₂,xA,vs2,cg,e,g1,g2,g3⟩:=hrec
  cases e
  rw [e1] at g1;cases g1
  exact ⟨o,vs2,cg,e1,e2,g2,g3⟩
 refine wpAny_bind (wpAny_builtinsFor hg' hbm hne0 (hx' _ _ hneP hbo) hcls hdict hdata ?_)
 refine wpAny_bind (wpAny_nsGet hg' ?_)
 exact wpAny_bind (wpAny_pure (wpAny_newObj_type (h c' _ h' tk hx' hge' hC htb.2) (by size_fits)))
end
theorem nH {env:Env} (f:Str×NameKind→List (Str×Addr)→Sem (ForInStep (List (Str×Addr)))) (hf:∀ n k cs,f (n,k) cs=if k==.free then (do let a ← cellOf env n;pure (.yield ((n,a)::cs))) else pure (.yield cs)):
  ∀ (names:List (Str×NameKind)) (acc:List (Str×Addr)),(names.filter fun x=>x.2==.free)=[]→forIn names acc f=pure acc
 | [],acc,_=>by rw [List.forIn_nil]
 | (n,k)::r,acc,h=>by
  rw [List.filter_cons] at h
  cases hk:(k==NameKind.free) with
  | true=>simp only [hk,if_true] at h;cases h
  | false=>
   simp only [hk,Bool.false_eq_true,if_false] at h
   rw [List.forIn_cons,hf,hk]
   simp only [Bool.false_eq_true,if_false]
   exact nH f hf r acc h
theorem pA {env:Env} {x:Str} {c:Addr} (hc:env.cells.lookup x=some c) (f:Str×NameKind→List (Str×Addr)→Sem (ForInStep (List (Str×Addr)))) (hf:∀ n k cs,f (n,k) cs=if k==.free then (do let a ← cellOf env n;pure (.yield ((n,a)::cs))) else pure (.yield cs)):
  ∀ (names:List (Str×NameKind)),((names.filter fun x=>x.2==.free).map (·.1))=[x]→forIn names [] f=pure [(x,c)]
 | [],h=>by cases h
 | (n,k)::r,h=>by
  rw [List.filter_cons] at h
  cases hk:(k==NameKind.free) with
  | true=>
   simp only [hk,if_true,List.map_cons,List.cons.injEq,List.map_eq_nil_iff] at h
   obtain ⟨rfl,h⟩:=h
   rw [List.forIn_cons,hf,hk]
   simp only [if_true]
   have e:cellOf env n=pure c:=by unfold cellOf;rw [hc]
   rw [e]
   show forIn r [(n,c)] f=_
   exact nH (env:=env) f hf r _ h
  | false=>
   simp only [hk,Bool.false_eq_true,if_false] at h
   rw [List.forIn_cons,hf,hk]
   simp only [Bool.false_eq_true,if_false]
   exact pA hc f hf r h
theorem qe {env:Env} {sc:Scope} {x:Str} {c:Addr} (h:freeOf sc=[x]) (hc:env.cells.lookup x=some c):closureFor sc env=pure [(x,c)]:=by
 simp only [closureFor]
 rw [pA hc _ (fun n k cs=>rfl) sc.names h]
 rfl
structure pU (C:Cfg) (mg:Str→Option Value) (f:Nat) (params:Arguments) (body:Expr) (sc:Scope) (pos:Pos) (x:Str):Prop where
 pl:C.h₀.get? C.pl=none
 hd:PySem.W.CodeHd C.h₀ C.lc C.pl
 bm:C.h₀.BuiltinsAt mg C.pl
 pos:pos.line=C.lpos.line∧pos.col=C.lpos.col
 lam:∀ c cd ct,C.lam f (PySem.W.kla_fn "<lambda>" C.lqual params body sc [(x,c)] ((mg "__name__").getD .none) (.ref cd) ct) [c]
 dflt:∀ env,defaultsOf params env=([],[])
section
variable {C:Cfg} {fns:List (Str×Nat)} {glb:List (Str×V)} {mg mb:Str→Option Value} {cx:Cx} {b:Bool} {X Pn:AP} {s s':Shared} {A:Around} {n:Nat} {ρ:Fr} {p p':List V} {env:Env} {Q E:Value→Shared→Prop} {h h':Heap} {call:Call}
theorem nY {pos lp:Pos} {c:Addr} (h:pos.line=lp.line∧pos.col=lp.col):codeAmong pos [rawInt lp.line,rawInt lp.col,.ref c]=some (.ref c):=by
 rw [← h.1,← h.2];simp [codeAmong,rawInt]
open PySem.W in
theorem wK {f:Nat} {params:Arguments} {body:Expr} {sc:Scope} {pos:Pos} {x:Str} {c:Addr} {v:V} {w:Value} {Q:Value→Shared→Prop} (W:dv C fns glb mg mb) (L:pU C mg f params body sc pos x) (hv:Vw C cx X Pn env ρ p s.heap) (hcp:cx.caps≠[]) (hfree:freeOf sc=[x]) (hc:env.cells.lookup x=some c) (hX:¬X c) (hw:cA s.heap c w) (hr:RepV C X s.heap v w)
  (hQ:∀ val s',Nx C Pn s s'→aY C X Pn s'.heap p→RepV C X s'.heap (.clo f [v]) val→Q val s'):wpAny (model C.prog C.w) A (eval (.Lambda params body sc pos) env) Q E s:=by
 obtain ⟨hcode,hq⟩:=hv.code.resolve_left hcp
 have hcl:=qe hfree hc
 have hplX:∀ b o,s.heap.get? b=some o→o.cls≠.none→s.heap.get? C.pl=some { cls:=.none,data:=.fields #[] }→b≠C.pl:=fun b o e hn ht q=>by
  rw [q,ht] at e;cases e;exact hn rfl
 have hgP:mainGlobals≠C.pl:=fun q=>by
  obtain ⟨o,es,ep,e,_⟩:=W.g
  rw [q,L.pl] at e;cases e
 have hg:=hv.base.ns W.g
 have hB:s.heap.BuiltinsAt mg C.pl:=let ⟨bm,o,b1,b2,b3,b4,b5,b6⟩:=L.bm;⟨bm,o,b1,b2,b3,b4,hv.base _ _ b5,b6⟩
 have hH:CodeHd s.heap C.lc C.pl:=L.hd.keeps hv.base
 -- what is shown of the new closure
 have fin:∀ {s':Shared} {a cd:Addr} {ct:Value},Nx C Pn s s'→aY C X Pn s'.heap p→s.heap.get? a=none→s'.heap.get? a=some { cls:=.type "function",data:=.func (kla_fn "<lambda>" C.lqual params body sc [(x,c)] ((mg "__name__").getD .none) (.ref cd) ct) }→fj C X s'.heap cd→Q (.ref a) s':=fun {s' a cd ct} hn hp ha ho hcd=>by
  have hXa:¬X a:=fun q=>by obtain ⟨o,e⟩:=hv.lt a q;rw [ha] at e;cases e
  refine hQ _ s' hn hp ?_
  simp only [RepV]
  refine ⟨a,[c],[w],rfl,hXa,⟨_,_,cd,ho,rfl,rfl,L.lam c cd ct,rfl,hcd⟩,fun c' hc'=>by simp at hc';subst hc';exact hX,⟨w,[],rfl,jJ hn.ext (fun q=>hX (hv.pnX c q)) hw,rfl⟩,RepVs.cons (RepV.ext hn.ext hv.pnX hr) .nil⟩
 refine kla_eval (L.dflt env) ?_
 have hpen:∀ {h':Heap},(∀ b o,s.heap.get? b=some o→Kc o→h'.get? b=some o)→aY C X Pn h' p:=fun k=>hv.au.tr (fun a o e hcc hx=>⟨k a o e hcc.ne,hx⟩) fun b o _ e hcc=>k b o e hcc
 rw [makeFunction_eq]
 simp only [List.zip_nil_right,List.filterMap_nil,List.isEmpty_nil,if_true,pure_bind]
 rw [hq]
 rcases hv.tab with ht | ⟨cd,ht,hcd⟩
 ·refine o6 (mg:=mg) hcl hv.globals hg hcode hH ht trivial rfl hgP hB fun c' ctv h' tk hx hge hC hP=>?_
  have hc'0:s.heap.get? c'=none:=fi hge
  have hkeep:∀ b o,s.heap.get? b=some o→Kc o→(h'.push (kla_obj "<lambda>" C.lqual params body sc [(x,c)] ((mg "__name__").getD .none) c' ctv)).get? b=some o:=fun b o e hcc=>Heap.get?_push_of_some _ (hx b o (hplX b o e hcc.2 ht) e)
  have hsz:s.heap.objs.size≤h'.objs.size:=by
   obtain ⟨o,_,_,q,_⟩:=hC
   exact Nat.le_trans hge (Nat.le_of_lt (Heap.lt_size q))
  have hXc:¬X c':=fun q=>by obtain ⟨o,e⟩:=hv.lt c' q;rw [hc'0] at e;cases e
  have hCA:fj C X (h'.push (kla_obj "<lambda>" C.lqual params body sc [(x,c)] ((mg "__name__").getD .none) c' ctv)) c':=by
   obtain ⟨o,vs,t,q1,q2,q3,q4⟩:=hC
   exact ⟨hXc,o,vs,t,Heap.get?_push_of_some _ q1,q2,q3,q4⟩
  refine fin ⟨⟨fun b o e=>?_,fun b o e _ hcc=>hkeep b o e hcc,fun b o e _=>?_,fun Y _=>.inr ⟨c',?_,fun q=>?_,hCA.2⟩⟩,rfl,rfl⟩ (hpen hkeep) (fi hsz) (Heap.get?_push_size _ rfl) hCA
  ·have hne:b≠C.pl:=fun q=>by rw [q,L.pl] at e;cases e
   exact Heap.get?_push_of_some _ (hx b o hne (hv.base b o e))
  ·by_cases q:b=C.pl
   ·subst q
    rw [ht] at e;cases e
    exact ⟨_,Heap.get?_push_of_some _ hP,rfl,.inl ⟨rfl,_,rfl⟩⟩
   ·exact ⟨o,Heap.get?_push_of_some _ (hx b o q e),rfl,.inr rfl⟩
  ·rw [Heap.get?_push_of_some _ hP,L.pos.1,L.pos.2];rfl
  ·obtain ⟨_,_,o,e⟩:=q;rw [hc'0] at e;cases e
 ·refine kla_makeTailHit (mg:=mg) hcl hv.globals hg hcode hH ht (by simp [TriplesOk,rawInt]) (nY L.pos) hB fun ctv h' tk hk hsz=>?_
  have hkeep:∀ b o,s.heap.get? b=some o→(h'.push { cls:=.type "function",data:=.func (kla_fn "<lambda>" C.lqual params body sc [(x,c)] ((mg "__name__").getD .none) (.ref cd) ctv) }).get? b=some o:=fun b o e=>Heap.get?_push_of_some _ (hk b o e)
  have kp:Kp s { s with heap:=h'.push { cls:=.type "function",data:=.func (kla_fn "<lambda>" C.lqual params body sc [(x,c)] ((mg "__name__").getD .none) (.ref cd) ctv) },toks:=tk }:=⟨hkeep,rfl,rfl⟩
  refine fin (kp.nx hv.base) (kp.au hv.au) (fi hsz) (Heap.get?_push_size _ rfl) ?_
  obtain ⟨q0,o,vs,t,q1,q2⟩:=hcd
  exact ⟨q0,o,vs,t,hkeep _ _ q1,q2⟩
theorem rM {g:cZ} {l:List V} (e:capsOf [g] ρ=some l):∃ v,g ρ=.val v∧l=[v]:=by
 unfold capsOf at e
 cases hg:g ρ with
 | val v=>rw [hg] at e;dsimp only at e;unfold capsOf at e;cases e;exact ⟨v,rfl,rfl⟩
 | _=>rw [hg] at e;cases e
theorem az.lam {params:Arguments} {body:Expr} {sc:Scope} {pos:Pos} {x:Str} {j:Nat} (W:dv C fns glb mg mb) (L:pU C mg cx.lam params body sc pos x) (hfree:freeOf sc=[x]) (hj:cx.vars.lookup x=some j) (hcap:cx.caps.contains x=true) (hcell:cx.sc.lookup x=some .cell):
  az C cx b (.Lambda params body sc pos) (pP cx.lam [ay j]):=by
 intro n call hc X Pn env ρ p s A Q E hv hk hr N
 have e:pP cx.lam [ay j] call ρ p=match capsOf [ay j] ρ with | some l=>.ok (.clo cx.lam l) p | none=>.stuck:=rfl
 rw [e] at N
 cases hcs:capsOf [ay j] ρ with
 | none=>rw [hcs] at N;exact absurd rfl N.1
 | some l=>
  rw [hcs] at N
  obtain ⟨v,hg,rfl⟩:=rM hcs
  obtain ⟨val,rd,sr,_⟩:=hv.vars x j hj (by rw [hg];simp)
  rw [hg] at sr
  have hkc:env.kindOf x=some .cell:=(hv.kinds x .cell hcell).1 (by simp)
  unfold Reads at rd
  rw [hkc] at rd
  obtain ⟨c,hcl,hci⟩:=rd
  exact wK W L hv (fun q=>by rw [q] at hcap;simp at hcap) hfree hcl (hv.caps x c hcap hcl) hci sr fun val' s' hn hp hrep=>N.ok rfl hn hp hrep
end
abbrev ju:List Value:=[.type "Exception",.type "BaseException",.type "object"]
section
variable {prog:Program} {w:World} {A:Around} {E:Value→Shared→Prop} {h:Heap} {g:Array GenState} {d:Drawn} {t:Nat} {os:OsState} {s:Shared}
variable {nm q:Str} {K N e:Addr} {bs:List Value} {sn:List Str} {sub:List Value} {ab:Bool} {col:Option Bool} {dd:Option Addr} {k0 k1 k2 k3 k5:Option Value}
theorem nU {v:Value} {t0:Addr} {Q:Value→Shared→Prop} (hK:h.get? K=some (excClassObj nm q K N bs ju true sn sub ab col dd k0 k1 k2 k3 k5 "Exception.__new__"))
  (he:h.get? e=some { cls:=.ref K,data:=.fields #[.ref t0,.none,.none,.none,.bool false,.none] })
  (hQ:∀ h' t1,(∀ b o,b≠e→h.get? b=some o→h'.get? b=some o)→h'.get? e=some { cls:=.ref K,data:=.fields #[.ref t1,.none,.none,.none,.bool false,.none] }→Q .none ⟨h',g,d,t,os⟩):
  wpAny (model prog w) A (PySem.call (.builtin "Exception.__init__") [.ref e,v]) Q E ⟨h,g,d,t,os⟩:=by
 have F:=PySem.F.excBase_Exception
 refine wpAny_call (codeAny_call_builtin F.init.plain F.initEntry (wpAny_check_init_sub F hK he rfl ?_))
 wp_walk
 refine hQ _ h.objs.size (fun b o hb eb=>?_) ?_
 ·rw [Heap.get?_update_other _ _ (Ne.symm hb)]
  exact Heap.get?_push_of_some _ eb
 ·rw [Heap.get?_update_self _ (Heap.get?_push_of_some _ he) rfl]
  rfl
theorem tu:typeOf (.type "Exception")=pure (.type "type"):=by kernel_rfl
theorem rB {pl:Sem Bool} {Q:Value×List Value→Shared→Prop} (h:Q (.builtin "Exception.__init__",[]) { s with toks:=s.toks + 1 }):wpAny (model prog w) A (getMethod (.type "Exception") "__init__" pl) Q E s:=by
 have X:PySem.W.Frag.In [] s.heap:=fun _ _ e=>by cases e
 have hstub:opaqueClassAbove (.type "Exception")=pure none:=by unfold opaqueClassAbove;dsimp only;rw [show Manifest.isStub "Exception" = false by decide +kernel];rfl
 have L0:PySem.W.Looks (model prog w) s.heap (typeOf (.type "Exception")) (.type "type"):=.of_pure tu
 have hg:PySem.W.findIn [] (.type "type") "__getattribute__" = some (some (.builtin "type.__getattribute__")):=PySem.W.type_tga
 unfold getMethod specialOf
 refine wpAny_bind (wpAny_bind (L0.here ((PySem.W.looks_findIn X hg).here ?_)))
 dsimp only
 rw [if_pos PySem.W.canon_tga]
 refine wpAny_bind (wpAny_mono (Q:=fun v=>Q (v,[])) (E:=E) ?_ (fun _ _ z=>wpAny_pure z) fun _ _ z=>z)
 have LO:PySem.W.Looks (model prog w) s.heap (opaqueClassAbove (.type "Exception")) none:=.of_pure hstub
 have hh:PySem.W.handedIn (.builtin "Exception.__init__")=true:=by decide +kernel
 have ef:PySem.W.findCls [] (.type "Exception") (.type "type") "__init__" = some (.val (.builtin "Exception.__init__")):=by kernel_rfl
 refine PySem.W.cls_open X LO L0 hg (PySem.W.looks_hook X (r:=none) (by rfl)) (by show PySem.W.subIn [] _ _=_;rfl) ef
  (wpAny_pure (by show wpAny _ _ (handedOut _) _ _ _;rw [PySem.W.handedOut_of hh];exact wpAny_pure h))
end
def dU:List (Str×NameKind):=[("self",.local),("kind",.local),("text",.local),("Exception",.globalImplicit)]
def fZ:List Stmt:=[
 .Expr (.Call (.Attribute (.Name "Exception" ⟨5,8,5,17⟩) "__init__" ⟨5,8,5,26⟩)
  [.Name "self" ⟨5,27,5,31⟩,.BinOp (.BinOp (.Name "kind" ⟨5,33,5,37⟩) .Add (.Constant (.str ": ") 0 ⟨5,40,5,44⟩) ⟨5,33,5,44⟩) .Add (.Name "text" ⟨5,47,5,51⟩) ⟨5,33,5,51⟩] [] ⟨5,8,5,52⟩) ⟨5,8,5,52⟩,
 .Assign [.Attribute (.Name "self" ⟨6,8,6,12⟩) "kind" ⟨6,8,6,17⟩] (.Name "kind" ⟨6,20,6,24⟩) ⟨6,8,6,24⟩,
 .Assign [.Attribute (.Name "self" ⟨7,8,7,12⟩) "text" ⟨7,8,7,17⟩] (.Name "text" ⟨7,20,7,24⟩) ⟨7,8,7,24⟩]
def z4 (hs h:Heap) (K e:Addr) (kv:Value):Prop:=∃ oe d m t,h.get? e=some oe∧oe.cls=.ref K∧oe.data=.fields #[.ref t,.none,.none,.none,.bool false,.none]∧oe.dict=some d∧h.Ns d m∧m "kind" = some kv∧hs.get? d=none
section
variable {prog:Program} {w:World} {A:Around} {E:Value→Shared→Prop} {s:Shared}
variable {nm q:Str} {K N e fI:Addr} {bs:List Value} {sn:List Str} {sub:List Value} {ab:Bool} {col:Option Bool} {dd:Option Addr} {k0 k1 k2 k3 k5:Option Value}
variable {mN mg mb:Str→Option Value}
theorem pY {bm:List Value} {B newId sa owner:String} {e:Addr} {o:Obj} {name:Str} {v:Value} {h:Heap} {g:Array GenState} {d:Drawn} {t:Nat} {os:OsState} {Q:Unit→Shared→Prop} (SF:StoreFacts B bm sa owner) (hC:h.get? K=some (excClassObj nm q K N bs bm true sn sub ab col dd k0 k1 k2 k3 k5 newId)) (hn:h.Ns N mN) (hns:mN "__setattr__" = none) (hna:mN name=none)
  (hB:typeLookup (.type B) name=pure none) (hx:h.get? e=some o) (hc:o.cls=.ref K) (hnc:∀ c,o.data≠.cls c) (hdn:o.dict=none)
  (hq:∀ h' tk' dx,h.get? dx=none→h'.get? e=some { o with dict:=some dx }→h'.Ns1 dx (fun y=>if y=name then some v else none)→(∀ b ob,b≠e→h.get? b=some ob→h'.get? b=some ob)→Q () ⟨h',g,d,tk',os⟩):
  wpAny (model prog w) A (setAttr (.ref e) name v) Q E ⟨h,g,d,t,os⟩:=by
 have f3:=SF.slot.bind (.ref e)
 unfold setAttr callSpecial? specialOf
 repeat (any_goals (first | assumption | (with_reducible refine wpAny_loadPart_at hx ?_;rw [hc]) | (with_reducible refine wpAny_typeLookup_exc hC hn SF.mro SF.slot.lookup ?_;rw [hns]) | wp_step))
 refine codeAny_call_builtin SF.slot.plain SF.entry (wpAny_check_sa SF hC hx hc ?_)
 have hpass:=SF.passes (.ref e)
 unfold Builtin.«object.__setattr__»
 repeat (first | rw [refuse_eq] | (rw [refuseLoop_ref,hpass]) | (with_reducible refine wpAny_loadPart_at hx ?_;rw [hc]) | with_reducible refine wpAny_mroOf_exc hC ?_ | (with_reducible refine wpAny_typeLookup_exc hC hn SF.mro hB ?_;rw [hna]) | wp_step)
 rw [hdn,if_neg (by simp [typeHasDict])]
 split
 ·rename_i hcd
  cases hcd
 split
 ·rename_i c hcd
  exact absurd hcd (hnc c)
 ·have u1:(h.push { cls:=.type "dict",data:=.dict #[] }).get? e=some o:=Heap.get?_push_of_some _ hx
  have hxs:e≠h.objs.size:=Nat.ne_of_lt (Heap.lt_size hx)
  refine wpAny_bind (wpAny_alloc' ?_)
  refine wpAny_bind (wpAny_update' u1 ?_)
  refine wpAny_pure ?_
  have hgd:((h.push { cls:=.type "dict",data:=.dict #[] }).update e fun o=>{ cls:=o.cls,dict:=some h.objs.size,data:=o.data,slots:=o.slots }).get? h.objs.size
    = some { cls:=.type "dict",data:=.dict #[] }:=
   (Heap.get?_update_ne _ _ _ _ hxs.symm).trans (Heap.get?_push_at rfl rfl)
  have hnd:((h.push { cls:=.type "dict",data:=.dict #[] }).update e fun o=>{ cls:=o.cls,dict:=some h.objs.size,data:=o.data,slots:=o.slots }).Ns h.objs.size (fun _=>none):=
   ⟨_,#[],_,hgd,rfl,fun e he=>absurd he (by simp),fun _=>rfl⟩
  show wpAny _ _ (Builtin.ObjectAttr.storeInDict h.objs.size (.str name _) name v) _ _ _
  unfold Builtin.ObjectAttr.storeInDict Builtin.ObjectAttr.newKeyGuard
  refine wpAny_bind (wpAny_pure (wpAny_bind (wpAny_nsSet1 (Heap.Ns1.of_empty hnd) fun h' hn' hs=>?_)))
  obtain ⟨oD,esD,epD,hoD,hdD,hcD⟩:=hn'.count (Within.cons name v Within.nil)
  refine wpAny_bind (wpAny_lookBehind hoD (by rw [hdD];exact pastItsLine_dict (Nat.le_trans hcD (by rw [List.length_cons,List.length_nil,sizeLine_eq];omega))) ?_)
  wp_walk
  refine hq h' _ h.objs.size (bS h) ?_ ?_ fun b ob hbx hb=>?_
  ·refine (hs.2 e hxs).trans (Heap.get?_update_self _ u1 ?_)
   have hfr:=(Heap.get?_some_iff.mp hx).2
   obtain ⟨oc,od,odt,osl⟩:=o
   cases odt <;> first | rfl | exact hfr
  ·obtain ⟨o',es,ep,e1,e2,e3,eu,e4⟩:=hn'
   exact ⟨o',es,ep,e1,e2,e3,eu,fun y=>by rw [e4 y]⟩
  ·exact (hs.2 b (Nat.ne_of_lt (Heap.lt_size hb))).trans ((Heap.get?_update_ne _ _ _ _ hbx).trans (Heap.get?_push_of_some _ hb))
theorem qh:typeLookup (.type "Exception") "kind" = pure none:=by rw [typeLookup_type,builtinLookup_eq_fast];kernel_rfl
theorem v7:typeLookup (.type "Exception") "text" = pure none:=by rw [typeLookup_type,builtinLookup_eq_fast];kernel_rfl
theorem ui {fd:FuncData} {oI:Obj} {x y:Str} {tx ty:Tok} {t0:Addr} {Q:Value→Shared→Prop} (hroom:A.depth < recursionLimit)
  (hK:s.heap.get? K=some (excClassObj nm q K N bs ju true sn sub ab col dd k0 k1 k2 k3 k5 "Exception.__new__")) (hN:s.heap.Ns N mN) (hs1:mN "__setattr__" = none) (hs2:mN "kind" = none) (hs3:mN "text" = none)
  (hI:s.heap.get? fI=some oI) (hd:oI.data=.func fd) (f1:fd.closure=[]) (f2:fd.body=.stmts fZ) (f3:fd.scope.isCoroutine=false) (f4:fd.scope.isGenerator=false) (f5:fd.scope.kind=.function) (f6:fd.globals=mainGlobals) (f7:fd.builtins=builtinsNs)
  (f8:s.heap.CodeRec fd.code fd.qualname) (f9:fd.params.posonlyargs=[]) (f10:fd.params.args.map (·.arg)=(["self","kind","text"]:List Str)) (f11:fd.params.kwonlyargs=[]) (f12:fd.params.vararg=none) (f13:fd.params.kwarg=none) (f14:fd.defaults=.none) (f15:fd.scope.names=dU)
  (hnl:s.heap.NoLimit) (hg:s.heap.Ns mainGlobals mg) (hge:mg "Exception" = none) (hb:s.heap.Ns builtinsNs mb) (hbe:mb "Exception" = some (.type "Exception"))
  (he:s.heap.get? e=some { cls:=.ref K,data:=.fields #[.ref t0,.none,.none,.none,.bool false,.none] }) (hx:x.cps.size≤3000) (hy:y.cps.size≤3000)
  (hQ:∀ s',(∀ b o,b≠e→s.heap.get? b=some o→s'.heap.get? b=some o)→s'.gens=s.gens→s'.os=s.os→z4 s.heap s'.heap K e (.str x tx)→Q .none s'):
  wpAny (model prog w) A (PySem.call (.ref fI) [.ref e,.str x tx,.str y ty]) Q E s:=by
 refine wpAny_call (codeAny_call_function hroom hI hd f3 f4 f2 f8 ?_)
 refine kn f9 f10 f11 f12 f13 f14 rfl (by decide +kernel) ?_
 rw [f1]
 show wpAny _ _ (newFunctionEnv _ _ [] [("self",.ref e),("kind",.str x tx),("text",.str y ty)] _ _ _ _ _) _ _ _
 refine o8 f5 (fun z hz=>.inl ?_) fun s₁ l=>⟨hnl.keeps l.kp.keep,codeAny_func ?_⟩
 ·rw [f15]
  simp only [List.mem_cons,List.mem_singleton,List.not_mem_nil,or_false] at hz
  rcases hz with rfl | rfl | rfl
  ·show dU.lookup ("self" : Str)=_;decide +kernel
  ·show dU.lookup ("kind" : Str)=_;decide +kernel
  ·show dU.lookup ("text" : Str)=_;decide +kernel
 generalize hL:s.heap.objs.size=L at *
 generalize hE:hZ fd L fI=env at *
 have e1:env.locals=L:=by rw [← hE];rfl
 have e2:env.scope=fd.scope:=by rw [← hE];rfl
 have hk:env.scope.kind=.function:=by rw [e2];exact f5
 have hkn:∀ z,env.kindOf z=dU.lookup z:=fun z=>by unfold Env.kindOf;rw [e2,f15]
 have k1':env.kindOf "self" = some .local:=by rw [hkn];decide +kernel
 have k2':env.kindOf "kind" = some .local:=by rw [hkn];decide +kernel
 have k3':env.kindOf "text" = some .local:=by rw [hkn];decide +kernel
 have k4':env.kindOf "Exception" = some .globalImplicit:=by rw [hkn];decide +kernel
 have hm:bindL env.kindOf [("self",.ref e),("kind",.str x tx),("text",.str y ty)] (fun _=>none)=fun z:Str=>if z=("text" : Str) then some (Value.str y ty) else if z=("kind" : Str) then some (Value.str x tx) else if z=("self" : Str) then some (Value.ref e) else none:=by
  simp only [bindL,k1',k2',k3',if_true]
 obtain ⟨hkp,hns,hfrm,_,_,_,hfresh⟩:=l
 rw [hm] at hns
 generalize hmm:(fun z:Str=>if z=("text" : Str) then some (Value.str y ty) else if z=("kind" : Str) then some (Value.str x tx) else if z=("self" : Str) then some (Value.ref e) else none)=m at hns
 have m1:m "self" = some (.ref e):=by rw [← hmm];dsimp only;rw [if_neg (by decide +kernel),if_neg (by decide +kernel),if_pos rfl]
 have m2:m "kind" = some (.str x tx):=by rw [← hmm];dsimp only;rw [if_neg (by decide +kernel),if_pos rfl]
 have m3:m "text" = some (.str y ty):=by rw [← hmm];dsimp only;rw [if_pos rfl]
 have hint:interactive env=false:=by unfold interactive;rw [hk];rfl
 have heL:env.locals≠e:=fun q=>by
  have:=Heap.lt_size he
  rw [e1] at q;rw [← q,hL] at this;exact Nat.lt_irrefl _ this
 have eG:env.globals=mainGlobals:=by rw [← hE];exact f6
 have eB:env.builtins=builtinsNs:=by rw [← hE];exact f7
 show wpAny _ _ (execs fZ env) _ _ _
 unfold fZ
 have ld:∀ {z:Str} {v:Value} {s₂:Shared} {A':Around} {E':Value→Shared→Prop} {Q':Value→Shared→Prop} {pos:Pos},s₂.heap.Ns env.locals m→env.kindOf z=some .local→m z=some v→(z==("__debug__" : Str))=false→Q' v s₂→wpAny (model prog w) A' (eval (.Name z pos) env) Q' E' s₂:=fun hn hkz hz hdb q=>wpAny_Name (wpAny_loadName_local hk hkz hn hz q) hdb
 have hgs:s₁.heap.Ns mainGlobals mg:=hg.keeps hkp.keep
 have hbs:s₁.heap.Ns builtinsNs mb:=hb.keeps hkp.keep
 have trees:∀ {a b:Expr} {pos:Pos},(∀ x p,a≠.Starred x p)→(∀ x p,b≠.Starred x p)→backTo pos (starEach [a,b] env)=[(false,eval a env),(false,eval b env)]:=fun h1 h2=>jP h1 h2
 refine wpAny_execs_cons (wpAny_Expr_any (PySem.W.methodCall_KW (Name_function_global hk k4' (loadGlobal_builtin (by rw [eG];exact hgs) hge (by rw [eB];exact hbs) hbe (rB ?_)) (by decide +kernel))) hint)
 show wpAny _ _ (callWith _ (.builtin "Exception.__init__") [] (backTo _ (starEach [_,_] env)) []) _ _ _
 rw [trees (fun _ _ e=>by cases e) (fun _ _ e=>by cases e)]
 refine call2 (.fn _) (ld (s₂:={ s₁ with toks:=s₁.toks + 1 }) hns k1' m1 (by decide +kernel) ?_)
 refine wpAny_BinOp (wpAny_BinOp (ld (s₂:={ s₁ with toks:=s₁.toks + 1 }) hns k2' m2 (by decide +kernel) (Constant_str ?_)))
 have hl2:(": " : Str).length=2:=by decide +kernel
 refine add_str (fun t' tk=>?_) (by rw [hl2,aT];show x.cps.size + 2≤_;omega)
 refine ld (s₂:={ s₁ with toks:=tk }) hns k3' m3 (by decide +kernel) ?_
 refine add_str (fun t'' tk'=>?_) ?_
 ·have hK1:=hkp.keep _ _ hK
  have he1:=hkp.keep _ _ he
  refine nU (h:=s₁.heap) (g:=s₁.gens) (d:=s₁.drawn) (t:=tk') (os:=s₁.os) hK1 he1 fun h' t1 hk' he'=>?_
  have heK:e≠K:=fun q=>by rw [q,hK] at he;cases he
  have hns':h'.Ns env.locals m:=hns.at' fun o eo=>hk' _ o heL eo
  have hnN:h'.Ns N mN:=(hN.keeps hkp.keep).at' fun o eo=>hk' _ o (fun q=>by
   obtain ⟨o',es,ep,q1,q2,_⟩:=hN
   rw [q,he] at q1;cases q1;cases q2) eo
  have hK':=hk' K _ (Ne.symm heK) hK1
  refine wpAny_execs_cons (plainObj_wpAny_Assign_Attribute (ld (s₂:=⟨h',s₁.gens,s₁.drawn,tk',s₁.os⟩) hns' k2' m2 (by decide +kernel) (ld (s₂:=⟨h',s₁.gens,s₁.drawn,tk',s₁.os⟩) hns' k1' m1 (by decide +kernel) ?_)) (by rfl))
  refine pY PySem.F.store_Exception hK' hnN hs1 hs2 qh he' rfl (by simp) rfl fun bu tk2 dx hdx he2 oh ir=>?_
  have hdxe:dx≠e:=fun q=>by rw [q,he'] at hdx;cases hdx
  have hns2:bu.Ns env.locals m:=hns'.at' fun o eo=>ir _ o heL eo
  have hnN2:bu.Ns N mN:=hnN.at' fun o eo=>ir _ o (fun q=>by
   obtain ⟨o',es,ep,q1,q2,_⟩:=hN
   rw [q,he] at q1;cases q1;cases q2) eo
  have hK2:=ir K _ (Ne.symm heK) hK'
  refine wpAny_execs_cons (plainObj_wpAny_Assign_Attribute (ld (s₂:=⟨bu,s₁.gens,s₁.drawn,tk2,s₁.os⟩) hns2 k3' m3 (by decide +kernel) (ld (s₂:=⟨bu,s₁.gens,s₁.drawn,tk2,s₁.os⟩) hns2 k1' m1 (by decide +kernel) ?_)) (by rfl))
  refine store_attr (mA:=fun y:Str=>if y=("kind" : Str) then some (Value.str x tx) else none) PySem.F.store_Exception hK2 hnN2 hs1 hs3 v7 heK ⟨_,he2,rfl,by simp,.inr ⟨dx,rfl,hdxe,oh⟩⟩ fun iJ tk3 I hk3 hsame=>?_
  refine wpAny_execs_nil ?_
  obtain ⟨j2,q1,q2,q3,_,q5⟩:=hsame _ he2
  refine hQ _ (fun b o hbe hb=>?_) hkp.gens hkp.os ?_
  ·have hb1:=hkp.keep b o hb
   have hb':=hk' b o hbe hb1
   refine hk3 b o hbe (fun o0 dx' q q'=>?_) (ir b o hbe hb')
   rw [he2] at q;cases q
   cases q'
   intro q
   rw [q,hdx] at hb';cases hb'
  ·obtain ⟨xA,r1,r2,_,r4⟩:=I
   rw [q1] at r1;cases r1
   have hd:=q5 dx rfl
   rcases r4 with ⟨r4,_⟩ | ⟨d',r4,_,r5⟩
   ·rw [hd] at r4;cases r4
   ·refine ⟨_,d',_,t1,q1,r2,q3,r4,r5.ns,by rw [if_neg (by decide +kernel),if_pos rfl],?_⟩
    have:d'=dx:=by rw [hd] at r4;cases r4;rfl
    subst this
    cases hq:s.heap.get? d' with
    | none=>rfl
    | some o=>have:=hk' d' o hdxe (hkp.keep d' o hq);rw [hdx] at this;cases this
 ·have e':(x++(": " : Str)).length=x.cps.size + 2:=by
   show (x++(": " : Str)).cps.size=_
   rw [Str.cps_append,Array.size_append]
   rfl
  rw [e',aT];show x.cps.size + 2 + y.cps.size≤_;omega
end
structure nh (C:Cfg) (mg:Str→Option Value):Prop where
 at_:∃ (K N fI:Addr) (nm q:Str) (bs:List Value) (sn:List Str) (sub:List Value) (ab:Bool) (col:Option Bool) (dd:Option Addr) (k0 k1 k2 k3 k5:Option Value) (mN:Str→Option Value) (oI:Obj) (fd:FuncData),
  C.cls=.ref K∧mg "CasFail" = some (.ref K)∧C.h₀.get? K=some (excClassObj nm q K N bs ju true sn sub ab col dd k0 k1 k2 k3 k5 "Exception.__new__")∧C.h₀.Ns N mN∧mN "__init__" = some (.ref fI)∧mN "__setattr__" = none∧mN "kind" = none∧mN "text" = none∧mN "__getattribute__" = none∧mN "__getattr__" = none∧
  C.h₀.get? fI=some oI∧oI.cls=.type "function" ∧ oI.data=.func fd∧fd.closure=[]∧fd.body=.stmts fZ∧fd.scope.isCoroutine=false∧fd.scope.isGenerator=false∧fd.scope.kind=.function∧fd.globals=mainGlobals∧fd.builtins=builtinsNs∧
  C.h₀.CodeRec fd.code fd.qualname∧fd.params.posonlyargs=[]∧fd.params.args.map (·.arg)=(["self","kind","text"]:List Str)∧fd.params.kwonlyargs=[]∧fd.params.vararg=none∧fd.params.kwarg=none∧fd.defaults=.none∧fd.scope.names=dU
 exc:mg "Exception" = none
section
variable {M:Model} {A:Around} {E:Value→Shared→Prop} {s:Shared} {env:Env}
variable {nm q:Str} {K N:Addr} {bs bm:List Value} {hdct:Bool} {sn:List Str} {sub:List Value} {ab:Bool} {col:Option Bool} {dd:Option Addr} {k0 k1 k2 k3 k5:Option Value} {newId:String}
theorem rv {x:Sem Value} {Q:Flow→Shared→Prop} (hbase:bm.contains (.type "BaseException")=true) (hh:A.handled=none)
  (h:wpAny M A x (fun v s₁=>∃ e oe t,v=.ref e∧s₁.heap.get? K=some (excClassObj nm q K N bs bm hdct sn sub ab col dd k0 k1 k2 k3 k5 newId)∧
   s₁.heap.get? e=some oe∧oe.cls=.ref K∧oe.data=.fields #[.ref t,.none,.none,.none,.bool false,.none]∧E (.ref e) s₁) E s):
  wpAny M A (raiseStmt env (some x) none) Q E s:=by
 have hcB:(Value.ref K::bm).contains (.type "BaseException")=true:=by rw [List.contains_cons,hbase,Bool.or_true]
 unfold raiseStmt
 refine wpAny_bind (wpAny_mono h (fun v s₁ aG=>?_) fun _ _ x=>x)
 obtain ⟨e,oe,t,rfl,hC,he,hc,hd,hE⟩:=aG
 obtain ⟨hp,g,d,tk,os⟩:=s₁
 repeat (first | (with_reducible refine wpAny_loadPart_at he ?_;rw [hc]) | with_reducible refine wpAny_loadPart_at he ?_ | with_reducible refine wpAny_loadPart_at hC ?_ | (with_reducible refine wpAny_isSubtype_exc hC ?_;rw [hcB]) | wp_step)
 rw [hd]
 refine wpAny_pure ?_
 show wpAny _ _ (pure Value.none) _ _ _
 refine wpAny_pure ?_
 rw [if_neg (by decide)]
 exact wpAny_pure (wpAny_raiseNew_none hh hE)
end
section
variable {prog:Program} {w:World} {A:Around} {E:Value→Shared→Prop} {s:Shared} {env:Env}
variable {nm q:Str} {K N:Addr} {bs bm:List Value} {hdct:Bool} {sn:List Str} {sub:List Value} {ab:Bool} {col:Option Bool} {dd:Option Addr} {k0 k1 k2 k3 k5:Option Value} {newId:String}
theorem callWith_cls {cp:Pos} {t u:Sem Value} {Q:Value→Shared→Prop}
  (h:wpAny (model prog w) A t (fun v s₁=>wpAny (model prog w) A u (fun x s₂=>s₂.heap.get? K=some (excClassObj nm q K N bs bm hdct sn sub ab col dd k0 k1 k2 k3 k5 newId)∧wpAny (model prog w) A (PySem.call (.ref K) [v,x]) Q E s₂) E s₁) E s):
  wpAny (model prog w) A (callWith cp (.ref K) [] [(false,t),(false,u)] []) Q E s:=by
 unfold callWith
 refine wpAny_bind (wpAny_holding (wpAny_mono (evalArgs_plain (spliced_cons (wpAny_mono h (fun _ _ aG=>spliced_cons (wpAny_mono aG (fun _ _ bu=>spliced_nil ⟨_,_,rfl,bu⟩) fun _ _ x=>x)) fun _ _ x=>x)) (Q:=fun a s₂=>∃ v x,a=⟨[v,x],[]⟩∧s₂.heap.get? K=some (excClassObj nm q K N bs bm hdct sn sub ab col dd k0 k1 k2 k3 k5 newId)∧wpAny (model prog w) A (PySem.call (.ref K) [v,x]) Q E s₂)) (fun a s₂ bu=>wpAny_bind (wpAny_standAt ?_)) fun _ _ x=>x))
 obtain ⟨v,x,rfl,hK,hc⟩:=bu
 obtain ⟨hp,g,d,tk,os⟩:=s₂
 refine wpAny_bind (wpAny_keeperOf_exc hK ?_)
 exact wpAny_bind (wpAny_mono hc (fun r aP iJ=>wpAny_bind (wpAny_holding (wpAny_point (wpAny_pure iJ)))) fun _ _ x=>x)
end
section
variable {C:Cfg} {fns:List (Str×Nat)} {glb:List (Str×V)} {mg mb:Str→Option Value} {cx:Cx} {X0 X X' Pn:AP} {env:Env} {aj s s':Shared} {ρ:Fr} {p p':List V} {A:Around} {Q:Flow→Shared→Prop} {E:Value→Shared→Prop} {n:Nat} {call:Call}
noncomputable def j0 (k t:V) (ρ:Fr) (p:List V):af:=match k with
 | .str k=>match t with
  | .str t=>match short lid k with
   | true=>match short lid t with
    | true=>.exc k ρ p
    | false=>.stuck
   | false=>.stuck
  | _=>.stuck
 | _=>.stuck
theorem sj {dk dx:aq}:cS dk dx call ρ p=@Res.rec (fun _=>af) af.stuck (fun k p=>@Res.rec (fun _=>af) af.stuck (fun t p=>j0 k t ρ p) (fun e p=>af.exc e ρ p) (dx call ρ p)) (fun e p=>af.exc e ρ p) (dk call ρ p):=by
 unfold cS j0
 cases dk call ρ p with
 | stuck=>rfl
 | exc k q=>rfl
 | ok k q=>dsimp only;cases dx call ρ q <;> rfl
theorem sq {k t:V} (e:j0 k t ρ p≠.stuck):∃ a b,k=.str a∧t=.str b∧a.length≤3000∧b.length≤3000∧j0 k t ρ p=.exc a ρ p:=by
 cases k with
 | str a=>cases t with
  | str b=>
   have q:j0 (.str a) (.str b) ρ p=match short lid a with | true=>(match short lid b with | true=>af.exc a ρ p | false=>.stuck) | false=>.stuck:=rfl
   rw [q] at e ⊢
   cases h1:short lid a with
   | false=>rw [h1] at e;exact absurd rfl e
   | true=>
    rw [h1] at e
    cases h2:short lid b with
    | false=>rw [h2] at e;exact absurd rfl e
    | true=>exact ⟨a,b,rfl,rfl,cU h1,cU h2,rfl⟩
  | _=>exact absurd rfl e
 | _=>exact absurd rfl e
theorem aV.raise {k x:Expr} {dk dx:aq} {np cp pos:Pos} (W:dv C fns glb mg mb) (Y:nh C mg) (hG:cx.du "CasFail" = true) (hk':az C cx false k dk) (hx':az C cx false x dx) (h1:∀ e p,k≠.Starred e p) (h2:∀ e p,x≠.Starred e p):
  aV C cx (.Raise (some (.Call (.Name "CasFail" np) [k,x] [] cp)) none pos) (cS dk dx):=by
 intro n call hc X0 Pn env aj ρ p s X A Q E hA S BH hrm N
 rw [sj] at N
 obtain ⟨K,Nn,fI,nm,q,bs,sn,sub,ab,col,dd,k0,k1,k2,k3,k5,mN,oI,fd,c1,c2,c3,c4,c5,c6,c7,c8,_,_,c9,c10,c11,f1,f2,f3,f4,f5,f6,f7,f8,f9,f10,f11,f12,f13,f14,f15⟩:=Y.at_
 show wpAny (model C.prog C.w) A (do standAt pos;raiseStmt env (some (do let v ← eval (.Call (.Name "CasFail" np) [k,x] [] cp) env;standAt pos;pure v)) none) Q E s
 refine wpAny_bind (wpAny_standAt (rv (K:=K) (nm:=nm) (q:=q) (N:=Nn) (bs:=bs) (bm:=ju) (hdct:=true) (sn:=sn) (sub:=sub) (ab:=ab) (col:=col) (dd:=dd) (k0:=k0) (k1:=k1) (k2:=k2) (k3:=k3) (k5:=k5) (newId := "Exception.__new__") (by decide +kernel) hrm.handled (wpAny_bind (wpAny_mono (Q:=fun v s₁=>_) (wpAny_Call_Name_kw (il W S.vw (by decide +kernel) hG c2 ?_)) (fun v s₁ q=>wpAny_bind (wpAny_standAt (wpAny_pure q))) fun _ _ x=>x))))
 rw [jP h1 h2]
 refine callWith_cls (nm:=nm) (q:=q) (N:=Nn) (bs:=bs) (bm:=ju) (hdct:=true) (sn:=sn) (sub:=sub) (ab:=ab) (col:=col) (dd:=dd) (k0:=k0) (k1:=k1) (k2:=k2) (k3:=k3) (k5:=k5) (newId := "Exception.__new__") (hk'.st hc S BH hrm N fun kv p₁ kval s₁ S1 k₁ kf hn hkv N1=>hx'.st hc S1 k₁ hrm N1 fun tv aO tval s₂ S2 k₂ kf2 bT htv N2=>?_)
 have hkv:RepV C X s₂.heap kv kval:=RepV.tr kf2.tr hkv
 obtain ⟨a,b,rfl,rfl,la,lb,e⟩:=sq N2.go
 rw [e] at N2
 have htv:RepV C X s₂.heap (.str b) tval:=htv
 simp only [RepV] at hkv htv
 obtain ⟨xs,tx,rfl,rfl⟩:=hkv
 obtain ⟨ys,ty,rfl,rfl⟩:=htv
 have hB:=S2.vw.base
 have hK:=hB _ _ c3
 refine ⟨hK,?_⟩
 obtain ⟨hp,g,d,tk,os⟩:=s₂
 refine wpAny_call_exc_init PySem.F.excBase_Exception hK (hB.ns c4) c5 (hB _ _ c9) c10 (fun h' e hm=>?_) (by simp [aT])
 have hkeep:∀ b o,C.h₀.get? b=some o→h'.get? b=some o:=fun b o eb=>hm.keeps b o (hB b o eb)
 obtain ⟨t0,he,_,_⟩:=hm.there
 have hne:∀ b o,hp.get? b=some o→b≠e:=fun b o eb q=>by rw [q,hm.new] at eb;cases eb
 refine ui (s:=⟨h',g,d,tk,os⟩) (by have:=hrm.depth;show A.depth + 1 < _;omega) (hm.keeps _ _ hK) (c4.at' fun o eo=>hkeep _ o eo) c6 c7 c8 (hkeep _ _ c9) c11 f1 f2 f3 f4 f5 f6 f7 (f8.keeps hkeep) f9 f10 f11 f12 f13 f14 f15 (W.nolimit.keeps hkeep) (W.g.at' fun o eo=>hkeep _ o eo) Y.exc (W.b.at' fun o eo=>hkeep _ o eo)
  (by rw [W.bi _ (by decide +kernel)];decide +kernel) he (by simpa using la) (by simpa using lb) fun s' hk hg ho hx=>⟨rfl,?_⟩
 obtain ⟨oe,d',m,t,q1,q2,q3,q4,q5,q6,q7⟩:=hx
 have kp:Kp ⟨hp,g,d,tk,os⟩ s':=⟨fun b o eb=>hk b o (hne b o eb) (hm.keeps b o eb),hg,ho⟩
 refine ⟨e,oe,t,rfl,kp.keep _ _ hK,q1,q2,q3,?_⟩
 obtain ⟨S3,kf3⟩:=S2.kp kp
 refine N2.exc _ ρ aO rfl s' X S3 (k₂.kp S2 kp) _ ⟨e,oe,d',m,xs,tx,_,rfl,q1,q2.trans c1.symm,q4,q5,q6,rfl,⟨S2.old hm.new,S2.old (by
  cases hq:hp.get? d' with
  | none=>rfl
  | some o=>have:=hm.keeps d' o hq;rw [q7] at this;cases this)⟩,q3,.inl ⟨rfl,rfl⟩⟩
end
structure gQ (B:String) (bm:List Value):Prop where
 ga:PySem.Slot B "__getattribute__" "BaseException.__getattribute__"
 mro:mroOf (.type B)=pure bm
 noGetattr:typeLookup (.type B) "__getattr__" = pure none
 hasBase:bm.contains (.type "BaseException")=true
theorem o5:gQ "Exception" ju where
 ga:=.of (owner := "BaseException") (n := "__getattribute__") (by rw [typeLookup_type,builtinLookup_eq_fast];kernel_rfl) (by decide +kernel) (by decide +kernel) (by decide +kernel)
  (by first | exact .inl (by decide +kernel) | exact .inr (by decide +kernel)) (by rw [isSubtype_type];kernel_rfl)
 mro:=by kernel_rfl
 noGetattr:=by rw [typeLookup_type,builtinLookup_eq_fast];kernel_rfl
 hasBase:=by decide +kernel
section
variable {prog:Program} {w:World} {A:Around} {E:Value→Shared→Prop} {h:Heap} {g:Array GenState} {d:Drawn} {t:Nat} {os:OsState} {a dx:Addr} {o:Obj} {vs:Array Value}
 {nm q:Str} {K N:Addr} {bs bm:List Value} {hdct:Bool} {sn:List Str} {sub:List Value} {ab:Bool} {col:Option Bool} {dd:Option Addr} {k0 k1 k2 k3 k5:Option Value} {B newId:String} {mN m:Str→Option Value} {name:Str} {v:Value}
theorem ub {tk:Tok} {Q:Fin→Shared→Prop} (FB:gQ B bm) (hC:h.get? K=some (excClassObj nm q K N bs bm true sn sub ab col dd k0 k1 k2 k3 k5 newId)) (hN:h.Ns N mN) (hna:mN name=none) (hB:typeLookup (.type B) name=pure none)
  (hx:h.get? a=some o) (hc:o.cls=.ref K) (hd:o.data=.fields vs) (hdx:o.dict=some dx) (hns:h.Ns dx m) (hv:m name=some v) (hq:Q (.done (.ret v)) ⟨h,g,d,t,os⟩):
  wpAny (model prog w) A (Builtin.«object.__getattribute__» ⟨[.ref a,.str name tk],[]⟩) Q E ⟨h,g,d,t,os⟩:=by
 repeat (any_goals (first | assumption | (with_reducible refine wpAny_loadPart_at hx ?_;rw [hc]) | (with_reducible refine wpAny_typeLookup_exc hC hN FB.mro hB ?_;rw [hna]) | (with_reducible refine wpAny_nsGet hns ?_;rw [hv]) | wp_step))
 rw [hd]
 dsimp only
 unfold instanceDict
 repeat (first | (with_reducible refine wpAny_loadPart_at hx ?_;rw [hc]) | with_reducible refine wpAny_loadPart_at hC ?_ | wp_step)
 rw [hdx]
 repeat (first | (with_reducible refine wpAny_nsGet hns ?_;rw [hv]) | wp_step)
 exact hq
theorem uc {M:Model} {nameV:Value} {Q:Unit→Shared→Prop} (FB:gQ B bm) (hC:h.get? K=some (excClassObj nm q K N bs bm hdct sn sub ab col dd k0 k1 k2 k3 k5 newId))
  (hx:h.get? a=some o) (hc:o.cls=.ref K) (hq:Q () ⟨h,g,d,t,os⟩):wpAny M A (checkBuiltinCall "BaseException.__getattribute__" ⟨[.ref a,nameV],[]⟩) Q E ⟨h,g,d,t,os⟩:=by
 have hk:builtinKind "BaseException.__getattribute__" = some .slot:=by decide +kernel
 have hsplit:splitId "BaseException.__getattribute__" = some ("BaseException","__getattribute__"):=by decide +kernel
 have hcB:(Value.ref K::bm).contains (.type "BaseException")=true:=by rw [List.contains_cons,FB.hasBase,Bool.or_true]
 have ha:=PySem.F.args_bexc_ga (.ref a) nameV
 simp only [checkBuiltinCall,hk,hsplit]
 refine wpAny_bind ?_
 ·unfold isInstance
  repeat (first | (with_reducible refine wpAny_loadPart_at hx ?_;rw [hc]) | (with_reducible refine wpAny_isSubtype_exc hC ?_;rw [hcB]) | wp_step)
  exact hq
theorem wG {tk:Tok} {R:Result→Shared→Prop} (FB:gQ B bm) (hC:h.get? K=some (excClassObj nm q K N bs bm true sn sub ab col dd k0 k1 k2 k3 k5 newId)) (hN:h.Ns N mN) (hna:mN name=none) (hB:typeLookup (.type B) name=pure none)
  (hx:h.get? a=some o) (hc:o.cls=.ref K) (hd:o.data=.fields vs) (hdx:o.dict=some dx) (hns:h.Ns dx m) (hv:m name=some v) (hq:R (.ok (.ret v)) ⟨h,g,d,t,os⟩):
  codeAny (model prog w) A (.call (.builtin "BaseException.__getattribute__") ⟨[.ref a,.str name tk],[]⟩) R ⟨h,g,d,t,os⟩:=
 codeAny_call_builtin FB.ga.plain PySem.F.entry_bexc_ga (uc FB hC hx hc (ub FB hC hN hna hB hx hc hd hdx hns hv hq))
theorem Av {tk:Tok} {fill expr:Bool} {Q:Value→Shared→Prop} (FB:gQ B bm) (hC:h.get? K=some (excClassObj nm q K N bs bm true sn sub ab col dd k0 k1 k2 k3 k5 newId)) (hN:h.Ns N mN) (hna:mN name=none) (hng:mN "__getattribute__" = none) (hnh:mN "__getattr__" = none) (hB:typeLookup (.type B) name=pure none)
  (hx:h.get? a=some o) (hc:o.cls=.ref K) (hd:o.data=.fields vs) (hdx:o.dict=some dx) (hns:h.Ns dx m) (hv:m name=some v) (hh:handedOut v=pure v) (hq:Q v ⟨h,g,d,t,os⟩):
  wpAny (model prog w) A (getAttrBy (.ref a) (.str name tk) fill expr) Q E ⟨h,g,d,t,os⟩:=by
 have f3:=FB.ga.bind (.ref a)
 have hx0:(expr&&onTheHeap (Value.builtin "BaseException.__getattribute__"))=false:=by cases expr <;> rfl
 have hx2:(Value.builtin "BaseException.__getattribute__" == Value.builtin "object.__getattribute__")=false:=by decide +kernel
 have hx1:(onTheHeap (Value.ref K)&&Value.builtin "BaseException.__getattribute__" == Value.builtin "object.__getattribute__")=false:=by rw [hx2];rfl
 repeat (any_goals (first | assumption | (with_reducible refine wpAny_loadPart_at hx ?_;rw [hc]) | (with_reducible refine wpAny_typeLookup_exc hC hN FB.mro FB.ga.lookup ?_;rw [hng]) | (with_reducible refine wpAny_typeLookup_exc hC hN FB.mro FB.noGetattr ?_;rw [hnh]) | wp_step))
 refine wG FB hC hN hna hB hx hc hd hdx hns hv ?_
 repeat (any_goals (first | assumption | wp_step))
theorem wH {expr:Bool} {Q:Value→Shared→Prop} (FB:gQ B bm) (hC:h.get? K=some (excClassObj nm q K N bs bm true sn sub ab col dd k0 k1 k2 k3 k5 newId)) (hN:h.Ns N mN) (hna:mN name=none) (hng:mN "__getattribute__" = none) (hnh:mN "__getattr__" = none) (hB:typeLookup (.type B) name=pure none)
  (hx:h.get? a=some o) (hc:o.cls=.ref K) (hd:o.data=.fields vs) (hdx:o.dict=some dx) (hns:h.Ns dx m) (hv:m name=some v) (hh:handedOut v=pure v) (hq:Q v ⟨h,g,d,t + 1,os⟩):
  wpAny (model prog w) A (getAttr (.ref a) name expr) Q E ⟨h,g,d,t,os⟩:=by
 unfold getAttr
 repeat (any_goals (first | assumption | with_reducible apply Av FB hC hN hna hng hnh hB hx hc hd hdx hns hv hh | wp_step))
end
section
variable {M:Model} {A:Around} {E:Value→Shared→Prop} {s:Shared} {env:Env}
theorem sC {a:Addr} {m:Str→Option Value} {name:Str} {o:Obj} {v:Value} {Q:Bool→Shared→Prop} (hn:s.heap.Ns a m) (ho:s.heap.get? a=some o) (hv:m name=some v)
  (hQ:∀ h' o' m',h'.Ns a m'→Heap.SameBut a s.heap h'→h'.get? a=some o'→o'.cls=o.cls→Q true { s with heap:=h' }):wpAny M A (nsDel a name) Q E s:=by
 obtain ⟨o',es,ep,ho',hd,hk,hm⟩:=id hn
 rw [ho] at ho';cases ho'
 have hany:es.any (·.refKey)=false:=by
  rw [Array.any_eq_false'];intro e he;obtain ⟨n,t,h⟩:=hk e he;simp [DictEntry.refKey,h]
 have hsome:es.any (·.key.isStr name)=true:=by
  have e:=hm name
  rw [hv] at e
  simp only [nsFind,findBy,Option.map_eq_some_iff] at e
  obtain ⟨x,hx,_⟩:=e
  have:=Array.find?_some hx
  rw [Array.any_eq_true]
  obtain ⟨i,hi,q⟩:=Array.mem_iff_getElem.mp (Array.mem_of_find?_eq_some hx)
  exact ⟨i,hi,by rw [q];exact this⟩
 have hhas:nsHas name o=pure (es.any (·.key.isStr name)):=by
  rw [nsHas_eq];unfold nsHasByArray;rw [hd]
  show (if (es.any fun x=>x.key.isStr name)=true then _ else _)=_
  generalize (es.any fun x=>x.key.isStr name)=b
  cases b <;> simp [hany]
 unfold nsDel
 refine wpAny_bind (wpAny_loadPart ho ?_)
 rw [hhas,hsome]
 refine wpAny_bind (wpAny_pure ?_)
 refine wpAny_bind (wpAny_updatePart ho (wpAny_pure ?_))
 have key:∃ m' o',(s.heap.update a (Obj.dropName name)).Ns a m'∧(s.heap.update a (Obj.dropName name)).get? a=some o'∧o'.cls=o.cls:=by
  obtain ⟨cl,d,dt,sl⟩:=o
  subst hd
  cases hi:es.findIdx? (·.key.isStr name) with
  | some i=>
   have e:=Heap.get?_update_self (h:=s.heap) (a:=a) (fun o=>Obj.dropName name o) ho (by simp only [Obj.dropName_eq,Obj.dropNameByArray,hi] <;> rfl)
   exact ⟨_,_,⟨_,_,ep + 1,e,(by simp only [Obj.dropName_eq,Obj.dropNameByArray,hi] <;> rfl),hk.erase i,fun _=>rfl⟩,e,by simp only [Obj.dropName_eq,Obj.dropNameByArray,hi]⟩
  | none=>
   have e:=Heap.get?_update_self (h:=s.heap) (a:=a) (fun o=>Obj.dropName name o) ho (by simp only [Obj.dropName_eq,Obj.dropNameByArray,hi] <;> rfl)
   exact ⟨_,_,⟨_,_,ep,e,(by simp only [Obj.dropName_eq,Obj.dropNameByArray,hi] <;> rfl),hk,fun _=>rfl⟩,e,by simp only [Obj.dropName_eq,Obj.dropNameByArray,hi]⟩
 obtain ⟨m',o',h1,h2,h3⟩:=key
 exact hQ _ o' m' h1 (Heap.SameBut.update ..) h2 h3
theorem qX {n:Str} {m:Str→Option Value} {v:Value} {o:Obj} {Q:Unit→Shared→Prop} (hk:env.scope.kind=.function) (hl:env.kindOf n=some .local) (hn:s.heap.Ns env.locals m) (ho:s.heap.get? env.locals=some o) (hv:m n=some v)
  (hQ:∀ h' o' m',h'.Ns env.locals m'→Heap.SameBut env.locals s.heap h'→h'.get? env.locals=some o'→o'.cls=o.cls→Q () { s with heap:=h' }):wpAny M A (unbindName env n) Q E s:=by
 unfold unbindName
 refine wpAny_bind (wpAny_point (wpAny_bind ?_))
 unfold deleteName
 have hp:(env.scope.kind==.class||(env.scope.kind==.module&&env.locals !=env.globals))=false:=by rw [hk];rfl
 simp only [hl,hp,Bool.false_eq_true,if_false]
 refine wpAny_bind (sC hn ho hv fun h' o' m' h1 h2 h3 h4=>?_)
 exact wpAny_pure (wpAny_point (hQ h' o' m' h1 h2 h3 h4))
theorem mZ {prog:Program} {w:World} {A:Around} {R:Result→Shared→Prop} {e:Value} {n:Str} {b0:Stmt} {body:List Stmt} {pos:Pos} {s:Shared} {env:Env}
  (h:wpAny (model prog w) A (setFlight e none) (fun _ s₁=>wpAny (model prog w) A (bindName env n e) (fun _ s₂=>wpAny (model prog w) A (execs (b0::body) env) (fun f aP=>R (.ok f) aP) (fun _ _=>False) s₂) (notedBy (model prog w) A env fun x s₂=>R (.error x) s₂) s₁) (notedBy (model prog w) A env fun x s₁=>R (.error x) s₁) s):
  codeAny (model prog w) A (.handlers e [.ExceptHandler none (some n) (b0::body) pos] env) R s:=by
 refine codeAny_of_tree ?_
 show wpAny _ A (do return Fin.done (← (handleWith e env [.ExceptHandler none (some n) (b0::body) pos]).onRaise (fun x=>do noteFrame x env;theTreesLotGoes x))) _ _ s
 refine wpAny_bind (wpAny_noted ?_)
 unfold handleWith
 refine wpAny_bind (wpAny_standAt (wpAny_bind (wpAny_mono h (fun _ s₁ aG=>wpAny_bind (wpAny_mono aG (fun _ s₂ bu=>wpAny_bind (wpAny_attempt (wpAny_mono bu (fun f aP iJ=>?_) fun _ _ q=>q.elim))) fun _ _ x=>x)) fun _ _ x=>x)))
 exact wpAny_pure (wpAny_pure iJ)
theorem tl {M:Model} {A:Around} {E:Value→Shared→Prop} {s:Shared} {env:Env} {x name:Str} {np pos:Pos} {Q:Value→Shared→Prop} (h:wpAny M A (eval (.Name x np) env) (fun o s₁=>wpAny M A (getAttr o name true) Q E s₁) E s):wpAny M A (eval (.Attribute (.Name x np) name pos) env) Q E s:=by
 rw [arm_eval_Attribute]
 show wpAny M A (eval (.Name x np) env >>= _) Q E s
 refine wpAny_bind (wpAny_mono h (fun o s₁ aG=>wpAny_bind (wpAny_standAt (wpAny_bind (wpAny_holding (wpAny_mono aG (fun r s₂ bu=>?_) fun _ _ x=>x))))) fun _ _ x=>x)
 show wpAny M A (pure () >>= fun _=>pure r) Q E s₂
 exact wpAny_bind (wpAny_pure (wpAny_pure bu))
end
section
variable {C:Cfg} {fns:List (Str×Nat)} {glb:List (Str×V)} {mg mb:Str→Option Value} {cx:Cx} {X0 X X' Pn:AP} {env:Env} {aj s s':Shared} {ρ ρ':Fr} {p p':List V} {A:Around} {Q:Flow→Shared→Prop} {E:Value→Shared→Prop} {n:Nat} {call:Call} {h h':Heap}
theorem je (j:Nat):ay j j5=.undef:=by
 by_cases hj:j < 16
 ·match j,hj with | 0,_ | 1,_ | 2,_ | 3,_ | 4,_ | 5,_ | 6,_ | 7,_ | 8,_ | 9,_ | 10,_ | 11,_ | 12,_ | 13,_ | 14,_ | 15,_=>rfl | j + 16,h=>exact absurd h (by omega)
 ·exact cG (by omega) _
theorem St.bare {o':Obj} {m':Str→Option Value} (S:St C cx X0 Pn env aj ρ p s X) (k:aN C A s.heap) (hs:Heap.SameBut env.locals s.heap h') (hns:h'.Ns env.locals m') (ho':h'.get? env.locals=some o') (hc:o'.cls=aL):
  St C cx X0 Pn env aj j5 p { s with heap:=h' } X∧aN C A h'∧Kf X X s { s with heap:=h' }:=by
 have v:=S.vw
 obtain ⟨m,hm⟩:=S.lns
 have T:=bo (X:=X) hs S.lX
 have hlt:∀ b,X b→∃ o,h'.get? b=some o:=fun b hb=>by
  by_cases q:b=env.locals
  ·exact ⟨o',q ▸ ho'⟩
  ·obtain ⟨o,e⟩:=v.lt b hb;exact ⟨o,hs.extBut b o q e⟩
 have hno:∀ x j u,cx.vars.lookup x=some j→ay j j5=.own u→cx.muts.contains x=true:=fun x j u _ hg=>by rw [je] at hg;cases hg
 have vw:Vw C cx X Pn env j5 p h':={ kind:=v.kind,code:=v.code,globals:=v.globals,builtins:=v.builtins,kinds:=v.kinds,cells:=v.cells,vars:=fun x j _ hu=>absurd (je j) hu,own:=hno,caps:=v.caps,tab:=v.tab.but (W:=fun b=>b=env.locals) (fun b o e q=>hs.extBut b o q e) (fun b q=>q ▸ .ij hm),au:=v.au.tr T fun b o hb e _=>hs.extBut b o (fun q=>gJ v.au hm (q ▸ hb)) e,pnX:=v.pnX,base:=fun b o e=>hs.extBut b o (fun q=>by rw [q,S.lD S.l0] at e;cases e) (v.base b o e),lt:=hlt,fresh:=v.fresh }
 have hd:∃ es ep,o'.data=.dict es ep:=by obtain ⟨o,es,ep,q1,q2,_⟩:=hns;rw [ho'] at q1;cases q1;exact ⟨es,ep,q2⟩
 obtain ⟨oL,hoL,hcL⟩:=S.frm
 obtain ⟨S',kf⟩:=S.turned (tk:=s.toks) vw hs S.lX S.l0 (.ij hm) ⟨m',hns⟩ ⟨o',ho',hc⟩ (fun y hy hcy=>by
  obtain ⟨⟨o,_,q1,q2,_⟩,_⟩:=S.cellX y _ hy hcy
  rw [hoL] at q1;cases q1;rw [hcL] at q2;exact absurd q2 (by simp [aL])) ⟨fun _=>0,fun x j u _ hg=>(by rw [je] at hg;cases hg),fun x y j k u w _ _ hg=>(by rw [je] at hg;cases hg)⟩
 exact ⟨S',k.but hs fun o e q=>⟨o',ho',hc,hd⟩,kf⟩
theorem aV.xd {x:Expr} {d:aq} {wn:Str} {j:Nat} {rp np ap kpos rp' hpos pos:Pos} (W:dv C fns glb mg mb) (Y:nh C mg) (hG:cx.du "CasFail" = true) (hx':az C cx false x d) (O:bc cx) (ht:cq cx wn=some j) (hloc:cx.sc.lookup wn=some .local):
  aV C cx (.Try [.Return (some x) rp] [.ExceptHandler (some (.Name "CasFail" np)) (some wn) [.Return (some (.Attribute (.Name wn ap) "kind" kpos)) rp'] hpos] [] [] pos) (n6 d):=by
 intro n call hc X0 Pn env aj ρ p s X A Q E hA S k hrm N
 have N:bf C cx X0 Pn env aj A (@Res.rec (fun _=>af) af.stuck (fun v p=>af.ret v ρ p) (fun k p=>af.ret (.str k) j5 p) (d call ρ p)) Q E s X:=N
 refine wpAny_Try_except (wpAny_execs_cons (wpAny_Return_some ?_))
 refine hx' n call hc X Pn env ρ p s A _ _ S.vw k hrm ⟨fun e=>N.go (by rw [e]),fun v p₁ e val s₁ hn hp hv=>?_,fun kk p₁ e ex s₁ hn hp hx=>?_⟩
 ·obtain ⟨S1,kf⟩:=S.next hn hp
  rw [e] at N
  exact (N.to kf).ret v ρ p₁ rfl s₁ X S1 (k.ext hn.ext S.vw.au) .refl val hv
 ·rw [e] at N
  obtain ⟨K,Nn,fI,nm,q,bs,sn,sub,ab,col,dd,k0,k1,k2,k3,k5,mN,oI,fd,c1,c2,c3,c4,c5,c6,c7,c8,c9,c10,_⟩:=Y.at_
  obtain ⟨hj,hsc,_,okw⟩:=ez ht
  have hkw:env.kindOf wn=some .local:=S.vw.j8 hloc
  obtain ⟨S1,kf1⟩:=S.next hn hp
  have kk1:=k.ext hn.ext S.vw.au
  obtain ⟨outer,hA⟩:=hA
  have kk1':=kk1
  obtain ⟨l,hl,hF⟩:=kk1
  rw [hA] at hl;cases hl
  have hsub:∀ b,(∃ o,s.heap.get? b=some o)→∃ o,s₁.heap.get? b=some o:=fun b q=>Ext.lt hn.ext hp b q
  have hLs:∃ o,s.heap.get? env.locals=some o∧o.cls=aL:=S.frm
  refine lE hA hF S.efr S1.vw.base S.vw.base hsub W.cls (fQ.at hx) fun s₂ yB m₂ x2=>?_
  refine gL (l':=none) m₂.nx.ext.base S.vw.base x2 fun aP Y3 tZ x3=>?_
  have m:=m₂.trans tZ
  have up:∀ {Z:AP} {t t':Shared},Mk C s.heap Z t t'→Mk C aj.heap Z t t':=fun m=>⟨m.nx,fun b hb=>⟨S.old (m.ok b hb).1,(m.ok b hb).2⟩⟩
  have S3:=S1.marked (up m)
  have bk:aN C A aP.heap:=kk1'.mk m
  have kfm:∀ {Z:AP} {t t':Shared},Mk C s.heap Z t t'→(∀ b o,s.heap.get? b=some o→Kc o→¬X b→t.heap.get? b=some o)→∀ b o,s.heap.get? b=some o→Kc o→¬X b→t'.heap.get? b=some o:=fun m q b o e hcc hx=>m.nx.ext.keep b o (q b o e hcc hx) (fun z=>by rw [(m.ok b z).1] at e;cases e) hcc
  have yb:∀ b o,s.heap.get? b=some o→Kc o→¬X b→s₁.heap.get? b=some o:=fun b o e hcc hx=>(kf1.keep b o e hcc hx).1
  have BK:=kfm m yb
  have x3':=x3
  obtain ⟨a,oe,dx,mm,xs,tt,vs,rfl,e2,e3,e4,e5,e6,e7,e8,e9,_⟩:=x3'
  have hK3:=S3.vw.base _ _ c3
  refine wpAny_handleBy_cons (codeAny_handlers_test (il W S3.vw (by decide +kernel) hG c2 ?_)) (by intro q;cases q)
  refine wpAny_excMatches_sub_self (h:=aP.heap) (g:=aP.gens) (d:=aP.drawn) (t:=aP.toks) (os:=aP.os) hK3 e2 (e3.trans c1) (by decide +kernel) ?_
  show codeAny _ (A.mark (some (.ref a))) _ _ aP
  refine mZ (gL (l':=none) S3.vw.base S.vw.base x3 fun dG Y4 m4 x4=>?_)
  have S4:=S3.marked (up m4)
  have k4:aN C A dG.heap:=bk.mk m4
  have BJ:=kfm m4 BK
  obtain ⟨a',oe,dx,mm,xs,tt,vs,ea,e2,e3,e4,e5,e6,e7,e8,e9,_⟩:=x4
  cases ea
  have hne:(Value.ref a)≠.ref env.locals:=fun q=>by
   obtain ⟨o,q1,q2⟩:=S4.frm
   cases q
   rw [e2] at q1;cases q1;rw [e3,c1] at q2;cases q2
  refine wpAny_bindName (S4.store (A:=A.mark (some (.ref a))) O k4 ht (sl:=.undef) trivial hne (fun _ q=>nomatch q) fun bE S5 fY kf5 sd=>?_)
  obtain ⟨t,ht',hst⟩:=sd.but
  have ht'':t=env.locals:=ht'.resolve_right fun q=>by rw [hkw] at q;cases q.1
  subst ht''
  have e2':bE.heap.get? a=some oe:=hst.extBut a oe (fun q=>hne (by rw [q])) e2
  have hdL:dx≠env.locals:=fun q=>by
   obtain ⟨o,q1,_⟩:=hLs
   rw [← q,e8.2] at q1;cases q1
  have e5':bE.heap.Ns dx mm:=e5.at' fun o eo=>hst.extBut _ o hdL eo
  have hK5:=S5.vw.base _ _ c3
  refine wpAny_execs_cons (wpAny_Return_some (tl (wpAny_Name (bH S5.vw.kind okw sd.self ?_) (bW okw))))
  refine wH (h:=bE.heap) (g:=bE.gens) (d:=bE.drawn) (t:=bE.toks) (os:=bE.os) o5 hK5 (S5.vw.base.ns c4) c7 c9 c10 qh e2' (e3.trans c1) e9 e4 e5' e6 rfl ?_
  have kp:Kp bE { bE with toks:=bE.toks + 1 }:=.toks _
  obtain ⟨S5',kf5'⟩:=S5.kp kp
  have k5':aN C A bE.heap:=fY
  show wpAny _ A (do bindName env wn .none;unbindBehindTheSuite env wn hpos) _ _ { bE with toks:=bE.toks + 1 }
  refine wpAny_bind (wpAny_bindName (S5'.store (A:=A) O k5' ht (sl:=.undef) trivial (by simp) (fun _ q=>nomatch q) fun xj S6 k6 kf6 sd6=>?_))
  have rd:=sd6.self
  unfold Reads at rd
  rw [hkw] at rd
  obtain ⟨m6,hm6,hv6⟩:=rd
  obtain ⟨oL,hoL,hcL⟩:=S6.frm
  refine wpAny_onRaise (qX S6.vw.kind hkw hm6 hoL hv6 fun h' o' m' q1 q2 q3 q4=>?_)
  obtain ⟨S7,k7,kf7⟩:=S6.bare k6 q2 q1 q3 (q4.trans hcL)
  refine N.ret (.str kk) j5 p₁ rfl _ X S7 k7 ⟨fun b o e hcc hx=>⟨?_,hx⟩⟩ _ (by show RepV C X _ _ _;simp only [RepV];exact ⟨xs,tt,rfl,e7⟩)
  have pk:=(kf5.keep b o (BJ b o e hcc hx) hcc hx).1
  have pj:=(kf6.keep b o pk hcc hx).1
  exact (kf7.keep b o pj hcc hx).1
end
structure CW (fns:List (Str×Nat)) (glb:List (Str×V)) (cx:Cx):Prop where
 O:bc cx
 fns:cx.fns=fns
 glb:cx.glb=glb
 caps:cx.caps=[]
 ok:∀ x j,cx.vars.lookup x=some j→aM x=true
structure z5 (C:Cfg):Prop where
 dict:fR C jA (fun v=>PySem.call (.type "dict") [v])
 sorted:fR C sortedF (fun v=>PySem.call (.builtin "sorted") [v])
 max:fR C maxF (fun v=>PySem.call (.builtin "max") [v])
section
variable {C:Cfg} {fns:List (Str×Nat)} {glb:List (Str×V)} {mg mb:Str→Option Value} {cx:Cx} {b:Bool}
theorem notStar {n:Nat} {cx:Cx} {b:Bool} {e:Expr} {r:aq×List Nat} (h:compE n cx b e=some r):∀ e' p,e≠.Starred e' p:=by
 intro e' p q
 subst q
 cases n with
 | zero=>unfold compE at h;cases h
 | succ n=>unfold compE at h;cases h
theorem oS {n:Nat} {cx:Cx} {b:Bool} {e:Expr} {r:aq×List Nat} (h:compE n cx b e=some r):∀ l k p,e≠.Set l k p:=by
 intro e' k p q
 subst q
 cases n with
 | zero=>unfold compE at h;cases h
 | succ n=>unfold compE at h;cases h
theorem marks {op:CmpOp} {e:Expr} (h:∀ l k p,e≠.Set l k p):behindInMarks op e=false:=by
 cases e <;> first | rfl | exact absurd rfl (h _ _ _)
theorem sU {e:Expr} (h:∀ l k p,e≠.Set l k p) (env:Env) (x:Value):foldedSetIterable e env x=pure x:=by
 cases e <;> first | rfl | exact absurd rfl (h _ _ _)
theorem tU {op:Value→Value→Sem Value}:d9 C (fun _ _=>none) op:=by
 intro n X Pn p s A Q E a b v va vb P hf;cases hf
theorem xO (h0:C.h₀.NoLimit) (op:Operator):d9 C (yt op) (binaryOp op):=by
 cases op <;> first | exact xP h0 | exact xF | exact xK | exact xN | exact xM h0 | exact xG | exact tU
theorem sy (op:CmpOp):d9 C (yn op) (compareOp op):=by
 cases op <;> first | exact An | exact Ag | exact Ah | exact Ai | exact Al | exact Am | exact Aj | exact wx | exact Ak | exact xI
theorem gC.e {e:Expr} {d:aq} (h:gC C cx e d):az C cx b e d:=by
 intro n call hc X Pn env ρ p s A Q E hv hk hr N
 have N:=N.o
 refine h n call hc X Pn env ρ p s A Q E hv hk hr ⟨N.1,fun v p₁ e s₁ hn hp s' a kp ha ho=>?_,N.2.2⟩
 have hXa:¬X a:=fun q=>by obtain ⟨o,e⟩:=Ext.lt hn.ext hp a (hv.lt a q);rw [ha] at e;cases e
 refine N.2.1 v p₁ e s' (hn.trans (kp.nx hn.ext.base)) (kp.au hp) _ (.of (OwnR.rep (ho.tr (fun b o eb _ hx=>⟨eb,fun q=>hx (.inl q)⟩) fun o e _=>e) hXa))
theorem both {e:Expr} {d:aq} (h:∀ b,az C cx b e d) (he:∀ env whole,isTrue e env whole=(do let v ← whole;standAt e.pos;holding [v] (truthy v))):az C cx b e d∧cQ C cx e d:=⟨h b,(h true).test he⟩
structure Sound (C:Cfg) (fns:List (Str×Nat)) (glb:List (Str×V)) (n:Nat):Prop where
 e:∀ {cx b e d js},CW fns glb cx→compE n cx b e=some (d,js)→az C cx b e d∧cQ C cx e d
 i:∀ {cx b e d js},CW fns glb cx→compI n cx b e=some (d,js)→dp C cx b e d (rz e)
 o:∀ {cx e d js},CW fns glb cx→compO n cx e=some (d,js)→ng C cx e d
 bl:∀ {cx op xs d js},CW fns glb cx→compBool n cx op xs=some (d,js)→(∀ b,gD C cx b op xs d)∧fm C cx op xs d
 es:∀ {cx xs ds js},CW fns glb cx→compEs n cx xs=some (ds,js)→gj C cx xs ds∧gO C cx xs ds∧ds.length=xs.length
 ar:∀ {cx xs ds js},CW fns glb cx→compArgs n cx xs=some (ds,js)→ib C cx xs ds∧∀ x∈xs,∀ e p,x≠.Starred e p
 g:∀ {b cx ci elt gs g js},CW fns glb cx→CW fns glb ci→compG n b cx ci elt gs=some (g,js)→ia C b cx ci elt gs g
theorem tB {n:Nat} (ih:Sound C fns glb n) {xs:List Expr} {ds:List aq} {js:List Nat} (W':CW fns glb cx) (h:compEs (n + 1) cx xs=some (ds,js)):gj C cx xs ds∧gO C cx xs ds∧ds.length=xs.length:=by
 unfold compEs at h
 split at h
 ·cases h;exact ⟨.nil,.nil,rfl⟩
 ·split at h
  ·rename_i h1 h2
   cases h
   obtain ⟨a1,a2⟩:=ih.e W' h1
   obtain ⟨b1,b2,b3⟩:=ih.es W' h2
   exact ⟨.cons a1 (notStar h1) b1,.cons a2 b2,by simp [b3]⟩
  ·cases h
theorem wb {n:Nat} (ih:Sound C fns glb n) {e:Option Expr} {d:Option aq} {js:List Nat} (W':CW fns glb cx) (h:compO (n + 1) cx e=some (d,js)):ng C cx e d:=by
 unfold compO at h
 split at h
 ·cases h;trivial
 ·split at h
  ·rename_i h1;cases h;exact (ih.e W' h1).1
  ·cases h
theorem tC {n:Nat} (ih:Sound C fns glb n) {op:BoolOp} {xs:List Expr} {d:aq} {js:List Nat} (W':CW fns glb cx) (h:compBool (n + 1) cx op xs=some (d,js)):(∀ b,gD C cx b op xs d)∧fm C cx op xs d:=by
 unfold compBool at h
 split at h
 ·cases h
 ·split at h
  ·rename_i h1
   cases h
   obtain ⟨a1,a2⟩:=ih.e W' h1
   exact ⟨fun b=>.one a1.weak,.one a2⟩
  ·rename_i h1
   split at h
   ·rename_i h3
    obtain ⟨a1,a2⟩:=ih.e W' h1
    obtain ⟨b1,b2⟩:=ih.bl W' h3
    split at h
    ·cases h;exact ⟨fun b=>.and a1.weak (b1 b),.and a2 b2⟩
    ·cases h;exact ⟨fun b=>.or a1.weak (b1 b),.or a2 b2⟩
   ·cases h
  ·cases h
theorem tD {n:Nat} (ih:Sound C fns glb n) {xs:List Expr} {ds:List aS} {js:List Nat} (W':CW fns glb cx) (h:compArgs (n + 1) cx xs=some (ds,js)):ib C cx xs ds∧∀ x∈xs,∀ e p,x≠.Starred e p:=by
 unfold compArgs at h
 split at h
 ·cases h;exact ⟨.nil,fun _ q=>nomatch q⟩
 ·split at h
  ·rename_i h1
   obtain ⟨b1,b2⟩:=ih.ar W' h1
   split at h
   ·rename_i h2
    cases h
    refine ⟨.slot (W'.ok _ _ h2) h2 b1,fun x hx=>?_⟩
    rcases List.mem_cons.mp hx with rfl | hx
    ·exact fun _ _ q=>by cases q
    ·exact b2 x hx
   ·split at h
    ·rename_i h3
     cases h
     refine ⟨.exp (ih.e W' h3).1 (notStar h3) b1,fun x hx=>?_⟩
     rcases List.mem_cons.mp hx with rfl | hx
     ·exact notStar h3
     ·exact b2 x hx
    ·cases h
  ·cases h
 ·split at h
  ·rename_i h1 h2
   cases h
   obtain ⟨b1,b2⟩:=ih.ar W' h2
   refine ⟨.exp (ih.e W' h1).1 (notStar h1) b1,fun x hx=>?_⟩
   rcases List.mem_cons.mp hx with rfl | hx
   ·exact notStar h1
   ·exact b2 x hx
  ·cases h
theorem az.my {K:Kd} {gs:List Comprehension} {sc:Scope} {pos:Pos} {g:G} (hG:ia C true cx (dC cx sc) K.elt gs g) (hok:dP cx sc=true) (O:bc cx) (hsys:∃ o,C.h₀.get? sysModules=some o):az C cx b (K.expr gs sc pos) (fh (fl cx sc) (K.comb g)):=by
 cases hG with
 | clause h1 h2 h3 h4 h5 h6 h7=>exact az.comp (.clause h1 h2 h3 h4 h5 h6 h7) hok O hsys
theorem CW.inner (W':CW fns glb cx) (sc:Scope):CW fns glb (dC cx sc):=⟨nE W'.O,W'.fns,W'.glb,rfl,fun x j h=>W'.ok x j (bY (f:=fun y=>sc.names.lookup y==some .free) h).2⟩
theorem pz {x:Str} (h:cP cx x=true):aM x=true:=by
 unfold cP at h
 simp only [Bool.and_eq_true] at h
 exact h.2
theorem qT {x:Str} (W':CW fns glb cx) (h:cP cx x=true) (O:bc (bQ cx x)):CW fns glb (bQ cx x):=by
 refine ⟨O,W'.fns,W'.glb,W'.caps,fun y j hy=>?_⟩
 unfold bQ at hy
 rw [List.lookup_cons] at hy
 by_cases q:y=x
 ·subst q;exact pz h
 ·have:(y==x)=false:=by rw [beq_eq_false_iff_ne];exact q
  rw [this] at hy
  exact W'.ok y j hy
theorem fo {s t:Str} (h:(s==t)=true):s=t:=by simpa using h
theorem az.isStr {x:Expr} {d:aq} {np tp pos:Pos} (W:dv C fns glb mg mb) (hG1:cx.du "isinstance" = true) (hG2:cx.du "str" = true) (hx:az C cx true x d) (hs:∀ e p,x≠.Starred e p):
  az C cx b (.Call (.Name "isinstance" np) [x,.Name "str" tp] [] pos) (Mine.c1 ff d):=by
 intro n call hc X Pn env ρ p s A Q E hv hk hr N
 have N:=N.o
 rw [show (Mine.c1 ff d call ρ p).out=(d call ρ p).out.bind fun a p=>(@Option.rec V (fun _=>Res) Res.stuck (fun v=>Res.ok v p) (ff a)).out from cv _ _] at N
 refine wpAny_Call_NameR (dg W hv (by decide +kernel) hG1 (by decide +kernel) (val:=.builtin "isinstance") (by decide +kernel) ?_)
 rw [jP hs (fun _ _ e=>by cases e)]
 refine call2 (.fn _) (hx.run hc hv hk hr N fun v p₁ val s₁ hn v1 k₁ hval N1=>dg W v1 (by decide +kernel) hG2 (by decide +kernel) (val:=.type "str") (by decide +kernel) ?_)
 cases hg:ff v with
 | none=>rw [hg] at N1;exact absurd rfl N1.1
 | some r=>
  rw [hg] at N1
  exact w3 n X Pn p₁ s₁ A Q E v r val (v1.pre k₁ hr) hg hval.b fun val' s' hkp hrep=>N1.kp v1.base v1.au hkp _ (.of hrep)
theorem we {n:Nat} (ih:Sound C fns glb n) (W:dv C fns glb mg mb) (BI:z5 C) (qG:∀ {cx:Cx} {b:Bool} {o:Expr} {x:aq} {np ap cp pos:Pos},CW fns glb cx→cx.du "sorted" = true→gY o ap cp=true→az C cx true o x→az C cx b (.Call (.Name "sorted" np) [.Call (.Attribute o "items" ap) [] [] cp] [] pos) (Mine.c1 sortItemsF x)) (hD:∀ f i,fns.lookup f=some i→C.isDef i=true) {e:Expr} {d:aq} {js:List Nat} (W':CW fns glb cx) (h:compE (n + 1) cx b e=some (d,js)):az C cx b e d∧cQ C cx e d:=by
 unfold compE at h
 split at h
 ·-- a constant
  split at h
  ·rename_i h1;cases h;exact both (fun b=>.const h1) (fun _ _=>rfl)
  ·cases h
 ·-- a name
  split at h
  ·cases h
  ·rename_i ho
   split at h
   ·rename_i hj
    split at h
    ·cases h;exact ⟨.bor ho hj,(az.bor ho hj).test (fun _ _=>rfl)⟩
    ·cases h;exact ⟨.var ho hj,(az.var (b:=true) ho hj).test (fun _ _=>rfl)⟩
   ·split at h
    ·rename_i hG hl;cases h
     exact both (fun b=>.glob W ho hG (by rw [← W'.glb];exact hl)) (fun _ _=>rfl)
    ·cases h
 ·obtain ⟨h1,h2⟩:=ih.bl W' h;exact ⟨(h1 b).e,h2.t⟩
 ·split at h
  ·rename_i h1 h2;cases h
   exact both (fun b=>.c2 (ih.e W' h1).1 (ih.e W' h2).1 (xO W.nolimit _) fun env s A Q E h=>wpAny_BinOp h) (fun _ _=>rfl)
  ·cases h
 ·split at h
  ·rename_i h1
   split at h
   ·cases h;exact both (fun b=>.c1 (ih.e W' h1).1 xJ fun env s A Q E h=>wpAny_UnaryOp h) (fun _ _=>rfl)
   ·cases h;exact ⟨.c1 (ih.e W' h1).1 xH fun env s A Q E h=>wpAny_UnaryOp h,.not (ih.e W' h1).2⟩
   ·cases h
  ·cases h
 ·split at h
  ·rename_i h1 h2 h3;cases h
   exact ⟨.ite (ih.e W' h1).2 (ih.e W' h2).1.weak (ih.e W' h3).1.weak,.ite (ih.e W' h1).2 (ih.e W' h2).2 (ih.e W' h3).2⟩
  ·cases h
 ·split at h
  ·rename_i h1 h2;cases h
   exact ⟨.c2 (ih.e W' h1).1 (ih.e W' h2).1 (sy _) fun env s A Q E h=>wpAny_Compare1 h (marks (oS h2)),az.v8 (ih.e W' h1).1 (ih.e W' h2).1 (sy _) (marks (oS h2))⟩
  ·cases h
 ·split at h
  ·rename_i h1 h2;cases h
   obtain ⟨a1,_,a3⟩:=ih.es W' h1
   exact both (fun b=>.tup a1 (by rw [a3];exact Nat.le_of_ble_eq_true h2)) (fun _ _=>rfl)
  ·cases h
 ·split at h
  ·rename_i h1 h2;cases h
   obtain ⟨a1,_,a3⟩:=ih.es W' h1
   exact both (fun b=>.lst a1 (by rw [a3];exact Nat.le_of_ble_eq_true h2)) (fun _ _=>rfl)
  ·cases h
 ·cases h;exact both (fun b=>(gC.aQ W.sys).e) (fun _ _=>rfl)
 ·split at h
  ·rename_i h1 h2 h3;cases h
   exact both (fun b=>.slice (ih.e W' h1).1 (ih.o W' h2) (ih.o W' h3)) (fun _ _=>rfl)
  ·cases h
 ·split at h
  ·rename_i h1;cases h
   exact both (fun b=>.rev (ih.e W' h1).1) (fun _ _=>rfl)
  ·cases h
 ·split at h
  ·rename_i hp
   split at h
   ·rename_i h1;cases h
    unfold penName at hp
    split at hp
    ·split at hp
     ·rename_i hq
      simp only [Bool.and_eq_true] at hq
      exact both (fun b=>.au hq.2 hp (ih.e W' h1).1) (fun _ _=>rfl)
     ·cases hp
    ·cases hp
   ·cases h
  ·split at h
   ·rename_i h1 h2;cases h
    exact both (fun b=>.c2 (ih.e W' h1).1 (ih.e W' h2).1 qt fun env s A Q E h=>Subscript_ h) (fun _ _=>rfl)
   ·cases h
 ·split at h
  ·rename_i h1 h2;cases h
   exact both (fun b=>az.my (K:=.l _) (ih.g W' (W'.inner _) h2) h1 W'.O W.sys) (fun _ _=>rfl)
  ·cases h
 ·split at h
  ·rename_i h1 h2;cases h
   exact both (fun b=>az.my (K:=.d _ _ _ _) (ih.g W' (W'.inner _) h2) h1 W'.O W.sys) (fun _ _=>rfl)
  ·cases h
 ·split at h
  ·split at h
   ·rename_i h1;rw [W'.caps] at h1;simp at h1
   ·cases h
  ·cases h
 ·split at h
  ·rename_i h1 h2 h3 h4;cases h
   simp only [Bool.and_eq_true] at h1
   have hm:=fo h1.1
   subst hm
   exact both (fun b=>.get (ih.e W' h2).1 (ih.e W' h3).1 (ih.e W' h4).1 (notStar h3) (notStar h4) h1.2) (fun _ _=>rfl)
  ·cases h
 ·split at h
  ·rename_i h1 h2;cases h
   simp only [Bool.and_eq_true] at h1
   have hf:=fo h1.1.1.1.1.1.1
   have hm:=fo h1.1.1.1.1.1.2
   subst hf hm
   exact both (fun b=>qG W' h1.1.1.2 h1.1.1.1.1.2 (ih.e W' h2).1) (fun _ _=>rfl)
  ·cases h
 ·split at h
  ·rename_i hj
   split at h
   ·rename_i ho _
    split at h
    ·rename_i h1;cases h
     exact both (fun b=>.app ho hj (notStar h1) (ih.e W' h1).1) (fun _ _=>rfl)
    ·cases h
   ·cases h
  ·split at h
   ·cases h
   ·rename_i hoG
    simp only [Bool.and_eq_true] at hoG
    split at h
    ·rename_i hi
     rw [W'.fns] at hi
     split at h
     ·rename_i h1;cases h
      obtain ⟨a1,a2⟩:=ih.ar W' h1
      exact both (fun b=>.u9 W hoG.1 hoG.2 hi (hD _ _ hi) a2 a1) (fun _ _=>rfl)
     ·cases h
    ·split at h
     ·split at h
      ·rename_i hg h1;cases h
       refine both (fun b=>?_) (fun _ _=>rfl)
       have hs:=notStar h1
       have hx:=(ih.e W' h1).1
       have hm:=mem_of_lookup hg
       simp only [qP,List.mem_cons,List.not_mem_nil,or_false,Prod.mk.injEq] at hm
       rcases hm with ⟨rfl,rfl⟩ | ⟨rfl,rfl⟩ | ⟨rfl,rfl⟩ | ⟨rfl,rfl⟩ | ⟨rfl,rfl⟩ | ⟨rfl,rfl⟩ | ⟨rfl,rfl⟩ | ⟨rfl,rfl⟩ | ⟨rfl,rfl⟩ | ⟨rfl,rfl⟩
       ·exact .b1 W hoG.1 hoG.2 (by decide +kernel) (fv:=.builtin "len") (by decide +kernel) (.fn _) hx hs AM
       ·exact .b1 W hoG.1 hoG.2 (by decide +kernel) (fv:=.builtin "abs") (by decide +kernel) (.fn _) hx hs AO
       ·exact .b1 W hoG.1 hoG.2 (by decide +kernel) (fv:=.builtin "any") (by decide +kernel) (.fn _) hx hs AN
       ·exact .b1 W hoG.1 hoG.2 (by decide +kernel) (fv:=.type "dict") (by decide +kernel) (.ty _) hx hs BI.dict
       ·exact .b1 W hoG.1 hoG.2 (by decide +kernel) (fv:=.type "list") (by decide +kernel) (.ty _) hx hs yw
       ·exact .b1 W hoG.1 hoG.2 (by decide +kernel) (fv:=.type "tuple") (by decide +kernel) (.ty _) hx hs w0
       ·exact .b1 W hoG.1 hoG.2 (by decide +kernel) (fv:=.builtin "sorted") (by decide +kernel) (.fn _) hx hs BI.sorted
       ·exact .b1 W hoG.1 hoG.2 (by decide +kernel) (fv:=.type "str") (by decide +kernel) (.ty _) hx hs AK
       ·exact .b1 W hoG.1 hoG.2 (by decide +kernel) (fv:=.builtin "sum") (by decide +kernel) (.fn _) hx hs AJ
       ·exact .b1 W hoG.1 hoG.2 (by decide +kernel) (fv:=.builtin "max") (by decide +kernel) (.fn _) hx hs BI.max
      ·cases h
     ·split at h
      ·split at h
       ·rename_i hf _ _ _ _ _ ht h1;cases h
        simp only [Bool.and_eq_true] at ht
        have hf:=fo hf
        have ht':=fo ht.1.1
        subst hf ht'
        exact both (fun b=>.isStr W hoG.2 ht.1.2 (ih.e W' h1).1 (notStar h1)) (fun _ _=>rfl)
       ·cases h
      ·split at h
       ·rename_i hg h1 h2;cases h
        refine both (fun b=>?_) (fun _ _=>rfl)
        have hm:=mem_of_lookup hg
        simp only [qO,List.mem_cons,List.not_mem_nil,or_false,Prod.mk.injEq] at hm
        rcases hm with ⟨rfl,rfl⟩ | ⟨rfl,rfl⟩
        ·exact .b2 W hoG.1 hoG.2 (by decide +kernel) (fv:=.builtin "max") (by decide +kernel) (.fn _) (ih.e W' h1).1 (notStar h1) (ih.e W' h2).1 (notStar h2) yv
        ·exact .b2 W hoG.1 hoG.2 (by decide +kernel) (fv:=.builtin "min") (by decide +kernel) (.fn _) (ih.e W' h1).1 (notStar h1) (ih.e W' h2).1 (notStar h2) yu
       ·cases h
     ·cases h
 ·cases h
theorem wc {n:Nat} (ih:Sound C fns glb n) (W:dv C fns glb mg mb) {e:Expr} {d:aq} {js:List Nat} (W':CW fns glb cx) (h:compI (n + 1) cx b e=some (d,js)):dp C cx b e d (rz e):=by
 unfold compI at h
 split at h
 ·split at h
  ·rename_i h1 h2;cases h
   simp only [Bool.and_eq_true] at h1
   have hm:=fo h1.1
   subst hm
   exact .items (ih.e W' h2).1 h1.2
  ·cases h
 ·split at h
  ·split at h
   ·rename_i hg _ _ _ _ hc h1;cases h
    simp only [Bool.and_eq_true] at hc
    have hG:=hc.1.1.2
    have hs:=notStar h1
    have hx:=(ih.e W' h1).1
    have hm:=mem_of_lookup hg
    simp only [qF,List.mem_cons,List.not_mem_nil,or_false,Prod.mk.injEq] at hm
    rcases hm with ⟨rfl,rfl⟩ | ⟨rfl,rfl⟩ | ⟨rfl,rfl⟩
    ·exact .xx W hG hx hs
    ·exact .enum W hG hx hs
    ·exact .rev W hG hx hs
   ·cases h
  ·exact .plain (ih.e W' h).1
 ·split at h
  ·rename_i hf
   split at h
   ·rename_i hc h1 h2;cases h
    simp only [Bool.and_eq_true] at hc
    have hf:=fo hf
    subst hf
    exact .xw W hc.1.1.2 (ih.e W' h1).1 (notStar h1) (ih.e W' h2).1 (notStar h2)
   ·cases h
  ·exact .plain (ih.e W' h).1
 ·exact .plain (ih.e W' h).1
theorem qw {n:Nat} {e:Expr} {r:aq×List Nat} (h:compI n cx b e=some r):∀ l k p,e≠.Set l k p:=by
 intro e' k p q
 subst q
 cases n with
 | zero=>unfold compI at h;cases h
 | succ n=>unfold compI at h;exact oS h _ _ _ rfl
theorem uI {cx cx':Cx} {t:Expr} (W':CW fns glb cx) (h:bindC cx t=some cx'):CW fns glb cx':=by
 rcases k9 h with ⟨x,px,_,h1,rfl⟩ | ⟨x,px,y,py,k,pt,_,h1,h2,hne,rfl⟩
 ·exact qT W' h1 (gd W'.O)
 ·have W1:=qT W' h1 (gd W'.O)
  refine ⟨gd W1.O,W'.fns,W'.glb,W'.caps,fun z j hz=>?_⟩
  rcases nf W1.O z j hz with ⟨rfl,_⟩ | ⟨_,_,q⟩
  ·exact pz h2
  ·exact W1.ok z j q
theorem wd {n:Nat} (ih:Sound C fns glb n) {ci:Cx} {elt:Expr} {gs:List Comprehension} {g:G} {js:List Nat} (W':CW fns glb cx) (Wi:CW fns glb ci) (h:compG (n + 1) b cx ci elt gs=some (g,js)):ia C b cx ci elt gs g:=by
 unfold compG at h
 split at h
 ·split at h
  ·rename_i h1;cases h
   exact .one (ih.e Wi h1).1
  ·cases h
 ·split at h
  ·split at h
   ·rename_i h1 hb hf _ _ _ _ _ _ _ _ ht h2 h3;cases h
    simp only [Bool.and_eq_true] at hf
    have h0:=hf.1
    simp only [beq_iff_eq] at h0
    subst h0
    have Wc:=uI Wi hb
    exact .clause (ih.i W' h1) (sU (qw h1)) hb (by rw [← lV];exact hf.2) ht (ih.es Wc h2).2.1 (ih.g Wc Wc h3)
   ·cases h
  ·cases h
theorem sound (W:dv C fns glb mg mb) (BI:z5 C) (qG:∀ {cx:Cx} {b:Bool} {o:Expr} {x:aq} {np ap cp pos:Pos},CW fns glb cx→cx.du "sorted" = true→gY o ap cp=true→az C cx true o x→az C cx b (.Call (.Name "sorted" np) [.Call (.Attribute o "items" ap) [] [] cp] [] pos) (Mine.c1 sortItemsF x)) (hD:∀ f i,fns.lookup f=some i→C.isDef i=true):∀ n,Sound C fns glb n
 | 0=>{
  e:=fun _ h=>by unfold compE at h;cases h
  i:=fun _ h=>by unfold compI at h;cases h
  o:=fun _ h=>by unfold compO at h;cases h
  bl:=fun _ h=>by unfold compBool at h;cases h
  es:=fun _ h=>by unfold compEs at h;cases h
  ar:=fun _ h=>by unfold compArgs at h;cases h
  g:=fun _ _ h=>by unfold compG at h;cases h }
 | n + 1=>have ih:=sound W BI qG hD n
  ⟨fun W' h=>we ih W BI qG hD W' h,fun W' h=>wc ih W W' h,fun W' h=>wb ih W' h,fun W' h=>tC ih W' h,fun W' h=>tB ih W' h,fun W' h=>tD ih W' h,fun W' Wi h=>wd ih W' Wi h⟩
end
section
variable {C:Cfg} {fns:List (Str×Nat)} {glb:List (Str×V)} {mg mb:Str→Option Value} {cx:Cx} {b:Bool}
theorem kW (S:∀ n,Sound C fns glb n) (W:dv C fns glb mg mb) (W':CW fns glb cx) {n:Nat} {e:Expr} {d:aq} {js:List Nat} (hf:freshE e=true) (h:compE n cx false e=some (d,js)):gC C cx e d:=by
 cases n with
 | zero=>unfold compE at h;cases h
 | succ n=>
  unfold freshE at hf
  split at hf
  ·unfold compE at h
   dsimp only at h
   split at h
   ·rename_i h1 h2;cases h
    obtain ⟨a1,_,a3⟩:=(S n).es W' h1
    exact .lst a1 (by rw [a3];exact Nat.le_of_ble_eq_true h2)
   ·cases h
  ·unfold compE at h
   dsimp only at h
   rename_i ks vs _
   cases ks with
   | nil=>cases vs with
    | nil=>cases h;exact .aQ W.sys
    | cons _ _=>cases h
   | cons _ _=>cases h
  ·unfold compE at h
   dsimp only at h
   split at h
   ·rename_i h1 h2;cases h
    cases n with
    | zero=>unfold compE at h1;cases h1
    | succ n=>
     have h1':=((S (n + 1)).e W' h1).1
     have h2':=((S (n + 1)).e W' h2).1
     unfold compE at h1
     dsimp only at h1
     split at h1
     ·cases h1
      exact .mul h1' h2'
     ·cases h1
   ·cases h
  ·cases hf
theorem pf (S:∀ n,Sound C fns glb n) (W:dv C fns glb mg mb) (W':CW fns glb cx):∀ {n:Nat} {es:List Expr} {ns:List Str} {ds:List aq} {js:List Nat},compEs n cx es=some (ds,js)→es.length=ns.length→iz C cx (owns cx ns es) es ds
 | 0,_,_,_,_,h,_=>by unfold compEs at h;cases h
 | n + 1,[],[],_,_,h,_=>by unfold compEs at h;cases h;exact .nil
 | n + 1,[],_::_,_,_,_,h=>by simp at h
 | n + 1,_::_,[],_,_,_,h=>by simp at h
 | n + 1,e::es,x::ns,ds,js,h,hl=>by
  unfold compEs at h
  dsimp only at h
  split at h
  ·rename_i h1 h2;cases h
   have ih:=pf S W W' (ns:=ns) h2 (by simpa using hl)
   unfold owns
   cases hb:cx.muts.contains x&&freshE e with
   | true=>
    rw [Bool.and_eq_true] at hb
    exact .own (kW S W W' hb.2 h1) (notStar h1) ih
   | false=>exact .val ((S n).e W' h1).1 (notStar h1) ih
  ·cases h
theorem l5 {v:Expr} {x:Str} {args:List Expr} (h:popOf v=some (x,args)):∃ px ap cp,v=.Call (.Attribute (.Name x px) "pop" ap) args [] cp∧(ap.endLine==cp.line)=true∧aM x=true:=by
 unfold popOf at h
 split at h
 ·split at h
  ·rename_i hc;cases h
   simp only [Bool.and_eq_true] at hc
   have hm:=fo hc.1.1
   subst hm
   exact ⟨_,_,_,rfl,hc.1.2,hc.2⟩
  ·cases h
 ·cases h
theorem aV.my {K:Kd} {gs:List Comprehension} {sc:Scope} {cp px pos:Pos} {g:G} {x:Str} {j:Nat} (hG:ia C true cx (dC cx sc) K.elt gs g) (hok:dP cx sc=true) (O:bc cx) (hsys:∃ o,C.h₀.get? sysModules=some o) (ht:cq cx x=some j):
  aV C cx (.Assign [.Name x px] (K.expr gs sc cp) pos) (aA (sets j) (fh (fl cx sc) (K.comb g))):=by
 cases hG with
 | clause h1 h2 h3 h4 h5 h6 h7=>exact aV.comp (.clause h1 h2 h3 h4 h5 h6 h7) hok O hsys ht
theorem si (S:∀ n,Sound C fns glb n) (W:dv C fns glb mg mb) (W':CW fns glb cx) {n:Nat} {x:Str} {px pos:Pos} {e:Expr} {d:aq} {js:List Nat} {j:Nat} (ht:cq cx x=some j) (h:compE n cx false e=some (d,js)):aV C cx (.Assign [.Name x px] e pos) (aA (sets j) d):=by
 cases hn:notComp e with
 | true=>exact .set ((S n).e W' h).1 W'.O ht hn
 | false=>
  cases n with
  | zero=>unfold compE at h;cases h
  | succ n=>
   unfold notComp at hn
   split at hn
   ·unfold compE at h
    dsimp only at h
    split at h
    ·rename_i h1 h2;cases h
     exact aV.my (K:=.l _) ((S n).g W' (W'.inner _) h2) h1 W'.O W.sys ht
    ·cases h
   ·unfold compE at h;cases h
   ·rename_i value _ _ _
    unfold compE at h
    cases value with
    | Constant c ca cb=>
     cases c with
     | bool v=>
      dsimp only at h
      split at h
      ·rename_i h1 h2;cases h
       exact aV.my (K:=.d _ _ _ _) ((S n).g W' (W'.inner _) h2) h1 W'.O W.sys ht
      ·cases h
     | _=>cases h
    | _=>cases h
   ·cases hn
theorem nT {e:Expr} (h:freshE e=true):notComp e=true:=by
 unfold freshE at h
 split at h <;> first | rfl | cases h
theorem pR (S:∀ n,Sound C fns glb n) (W:dv C fns glb mg mb) (W':CW fns glb cx) {ts:List Expr} {v:Expr} {pos:Pos} {d:bb} (h:compAssign cx ts v=some d):aV C cx (.Assign ts v pos) d:=by
 unfold compAssign at h
 split at h
 ·split at h
  ·cases h
  ·rename_i ht
   split at h
   ·rename_i hp
    obtain ⟨py,ap,cp,rfl,hl,ok⟩:=l5 hp
    split at h
    ·rename_i hy _;cases h
     exact .pop W'.O ht hy ok hl
    ·rename_i hy _
     split at h
     ·rename_i h1 h2;cases h
      exact .bP (.Bv ((S _).e W' h1).1 ((S _).e W' h2).1 (notStar h1) (notStar h2) W'.O ht hy ok hl) W'.O
     ·cases h
    ·cases h
   ·split at h
    ·rename_i h1
     split at h
     ·rename_i hm;cases h
      rw [Bool.and_eq_true] at hm
      exact .bP (.own (kW S W W' hm.2 h1) W'.O ht hm.1 (nT hm.2)) W'.O
     ·cases h
      exact .bP (si S W W' ht h1) W'.O
    ·cases h
 ·split at h
  ·cases h
  ·rename_i ns hn
   split at h
   ·cases h
   ·rename_i js hj
    have hj':distinct ns=true∧fA cx ns=some js:=by
     revert hj
     split
     ·rename_i hd;exact fun q=>⟨hd,q⟩
     ·exact fun q=>by cases q
    split at h
    ·rename_i hp
     obtain ⟨py,ap,cp,rfl,hl,ok⟩:=l5 hp
     split at h
     ·rename_i hy hc;cases h
      simp only [Bool.and_eq_true,bne_iff_ne,ne_eq] at hc
      exact .Bu W'.O hn hj'.1 hj'.2 hc.2 hy ok hl
     ·cases h
    ·cases h
    ·split at h
     ·split at h
      ·rename_i h1 hc;cases h
       simp only [Bool.and_eq_true,beq_iff_eq] at hc
       exact .bP (.tup (pf S W W' h1 hc.2) W'.O hn hj'.1 hj'.2 hc.1.1 (Nat.le_of_ble_eq_true hc.1.2) hc.2) W'.O
      ·cases h
     ·rename_i hne
      split at h
      ·rename_i h1;cases h
       exact .bP (.BR ((S _).e W' h1).1 W'.O hn hj'.1 hj'.2 fun vs k p q=>hne vs k p q) W'.O
      ·cases h
 ·split at h
  ·rename_i hj h1 h2 hc;cases h
   rw [Bool.and_eq_true] at hc
   exact .bP (.put ((S _).e W' h1).1 ((S _).e W' h2).1 W'.O hj hc.1 hc.2) W'.O
  ·cases h
 ·cases h
theorem qb (S:∀ n,Sound C fns glb n) (W':CW fns glb cx) {e:Expr} {pos:Pos} {d:bb} (h:compExprS cx e=some d):aV C cx (.Expr e pos) d:=by
 unfold compExprS at h
 split at h
 ·split at h
  ·cases h
  ·cases h
  ·rename_i hj hc
   rw [Bool.and_eq_true] at hc
   split at h
   ·rename_i hm
    have hm:=fo hm
    subst hm
    split at h
    ·rename_i h1;cases h
     exact .bP (.append ((S _).e W' h1).1 (notStar h1) W'.O hj hc.2 hc.1) W'.O
    ·cases h
   ·rename_i hm _
    have hm:=fo hm
    subst hm
    split at h
    ·rename_i h1;cases h
     exact .bP (.extend ((S _).e W' h1).1 (notStar h1) W'.O hj hc.2 hc.1) W'.O
    ·cases h
   ·cases h
 ·split at h
  ·rename_i hj hc h1 h2;cases h
   simp only [Bool.and_eq_true] at hc
   have hm:=fo hc.1.1
   subst hm
   exact .bP (.insert ((S _).e W' h1).1 ((S _).e W' h2).1 (notStar h2) (notStar h1) W'.O hj hc.2 hc.1.2) W'.O
  ·cases h
 ·split at h
  ·rename_i h1;cases h
   exact .bP (.expr ((S _).e W' h1).1) W'.O
  ·cases h
 ·cases h
structure mD (C:Cfg) (fns:List (Str×Nat)) (glb:List (Str×V)) (n:Nat):Prop where
 s:∀ {cx st d},CW fns glb cx→compS n cx st=some d→aV C cx st d
 b:∀ {cx l d},CW fns glb cx→compB n cx l=some d→dn C cx l d
theorem wa {n:Nat} (S:∀ n,Sound C fns glb n) (ih:mD C fns glb n) (W:dv C fns glb mg mb) (Y:nh C mg) (W':CW fns glb cx) {st:Stmt} {d:bb} (h:compS (n + 1) cx st=some d):aV C cx st d:=by
 unfold compS at h
 split at h
 ·exact qb S W' h
 ·exact pR S W W' h
 ·split at h
  ·rename_i ht h1 _;cases h
   exact .bP (.aug ((S _).e W' h1).1 W'.O ht) W'.O
  ·cases h
 ·split at h
  ·rename_i hf ht h1 h2;cases h
   exact .bP (.BM W.cls ((S _).i W' h1) (sU (qw h1)) (by rw [← lV];exact hf) ht (ih.b W' h2) W'.O) W'.O
  ·cases h
 ·split at h
  ·rename_i h1 h2;cases h
   exact .rX W.cls ((S _).e W' h1).2 (ih.b W' h2)
  ·rename_i h1 h2
   split at h
   ·cases h
    exact .rX W.cls ((S _).e W' h1).2 (ih.b W' h2)
   ·cases h
  ·cases h
 ·split at h
  ·rename_i h1 h2 h3;cases h
   exact .bP (.BY ((S _).e W' h1).2 (ih.b W' h2) (ih.b W' h3)) W'.O
  ·cases h
 ·split at h
  ·rename_i h1;cases h
   exact .bP (.ret ((S _).e W' h1).1) W'.O
  ·cases h
 ·split at h
  ·rename_i hc h1 h2;cases h
   simp only [Bool.and_eq_true] at hc
   have hm:=fo hc.1.1
   subst hm
   exact .bP (.raise W Y hc.1.2 ((S _).e W' h1).1 ((S _).e W' h2).1 (notStar h1) (notStar h2)) W'.O
  ·cases h
 ·split at h
  ·rename_i hc h1;cases h
   simp only [Bool.and_eq_true] at hc
   have hm:=fo hc.1.1.1.1.1
   have hn:=fo hc.1.1.1.2
   have ha:=fo hc.1.1.2
   subst hm hn ha
   obtain ⟨j,hj⟩:=Option.isSome_iff_exists.mp hc.1.2
   exact .bP (.xd W Y hc.1.1.1.1.2 ((S _).e W' h1).1 W'.O hj (by simpa using hc.2)) W'.O
  ·cases h
 ·cases h;exact .cont
 ·cases h
theorem wg {n:Nat} (ih:mD C fns glb n) (W':CW fns glb cx) {l:List Stmt} {d:bb} (h:compB (n + 1) cx l=some d):dn C cx l d:=by
 unfold compB at h
 split at h
 ·cases h;exact .nil
 ·split at h
  ·rename_i h1;cases h
   exact .one (ih.s W' h1)
  ·rename_i h1
   split at h
   ·rename_i h2;cases h
    exact .cons (ih.s W' h1) (ih.b W' h2)
   ·cases h
  ·cases h
theorem iO (S:∀ n,Sound C fns glb n) (W:dv C fns glb mg mb) (Y:nh C mg):∀ n,mD C fns glb n
 | 0=>{
  s:=fun _ h=>by unfold compS at h;cases h
  b:=fun _ h=>by unfold compB at h;cases h }
 | n + 1=>have ih:=iO S W Y n
  ⟨fun W' h=>wa S ih W Y W' h,fun W' h=>wg ih W' h⟩
end
theorem cN:∀ {vs:List Str} {n:Nat} {x:Str} {j:Nat},(numbered n vs).lookup x=some j→n≤j∧vs[j - n]?=some x
 | [],_,_,_,h=>by cases h
 | v::r,n,x,j,h=>by
  unfold numbered at h
  rw [List.lookup_cons] at h
  by_cases q:x=v
  ·subst q
   simp at h
   subst h
   simp
  ·have:(x==v)=false:=by rw [beq_eq_false_iff_ne];exact q
   rw [this] at h
   obtain ⟨h1,h2⟩:=cN (vs:=r) (n:=n + 1) h
   refine ⟨by omega,?_⟩
   have:j - n=(j - (n + 1)) + 1:=by omega
   rw [this,List.getElem?_cons_succ]
   exact h2
def el (fns:List (Str×Nat)) (glb:List (Str×V)) (lam:Nat) (caps:List Str) (params:List Str) (sc:Scope) (body:List Stmt):Cx:=
 { sc:=sc.names,vars:=numbered 0 (de params sc),muts:=(mutsB gi body).eraseDups,fns,glb,next:=(de params sc).length,lam,caps }
def h8 (caps:List Str) (params:List Str) (sc:Scope):Bool:=
 distinct params&&(params.all fun x=>sc.names.lookup x==some .local||sc.names.lookup x==some .cell)&&(sc.names.all fun x=>x.2 !=.free)&&((de params sc).all aM)&&(caps.all fun x=>sc.names.lookup x==some .cell)
section
variable {C:Cfg} {fns:List (Str×Nat)} {glb:List (Str×V)} {mg mb:Str→Option Value} {lam:Nat} {caps params:List Str} {sc:Scope} {body:List Stmt}
theorem lL:bc (el fns glb lam caps params sc body) where
 inj x y j hx hy:=by
  have h1:=(cN (show (numbered 0 (de params sc)).lookup x=some j from hx)).2
  have h2:=(cN (show (numbered 0 (de params sc)).lookup y=some j from hy)).2
  rw [h1] at h2;cases h2;rfl
 lt x j hx:=by
  have h1:=(cN (show (numbered 0 (de params sc)).lookup x=some j from hx)).2
  have:=(List.getElem?_eq_some_iff.mp h1).1
  show j < (de params sc).length
  simpa using this
theorem pG (h:h8 caps params sc=true) (hc:caps=[]):CW fns glb (el fns glb lam caps params sc body):=by
 refine ⟨lL,rfl,rfl,hc,fun x j hx=>?_⟩
 have h1:=(cN (show (numbered 0 (de params sc)).lookup x=some j from hx)).2
 unfold h8 at h
 simp only [Bool.and_eq_true] at h
 exact List.all_eq_true.mp h.1.2 x (List.mem_of_getElem? h1)
theorem lookup_mem {α:Type}:∀ {l:List (Str×α)} {x:Str} {v:α},l.lookup x=some v→(x,v)∈l:=fun h=>mem_of_lookup h
theorem pB (h:h8 caps params sc=true) {a:Addr} (hobj:∃ o fd,C.h₀.get? a=some o∧o.data=.func fd∧fd.closure=[]∧fd.body=.stmts body∧fd.scope.isCoroutine=false∧fd.scope.isGenerator=false∧fd.scope.kind=.function∧fd.globals=mainGlobals∧fd.builtins=builtinsNs∧
  C.h₀.CodeRec fd.code fd.qualname∧fd.params.posonlyargs=[]∧fd.params.args.map (·.arg)=params∧fd.params.kwonlyargs=[]∧fd.params.vararg=none∧fd.params.kwarg=none∧fd.defaults=.none∧fd.scope.names=sc.names) (hnl:C.h₀.NoLimit)
  (hcode:caps=[]∨∀ fd,(∃ o,C.h₀.get? a=some o∧o.data=.func fd)→fd.code=.ref C.lc∧fd.qualname++(".<locals>." : Str)++("<lambda>" : Str)=C.lqual) (body':List Stmt):ky C a (el fns glb lam caps params sc body') params body:=by
 unfold h8 at h
 simp only [Bool.and_eq_true] at h
 obtain ⟨⟨⟨⟨h1,h2⟩,h3⟩,h4⟩,h5⟩:=h
 refine ⟨hobj,h1,fun x hx=>?_,fun x j hx hj=>?_,fun x hx=>?_,fun x hx=>?_,hnl,hcode⟩
 ·have:=List.all_eq_true.mp h2 x hx
  show sc.names.lookup x=some .local∨sc.names.lookup x=some .cell
  simpa using this
 ·have q:=(cN (show (numbered 0 (de params sc)).lookup x=some j from hx)).2
  unfold de at q
  rw [Nat.sub_zero,List.getElem?_append_left hj] at q
  exact q
 ·have:=List.all_eq_true.mp h3 _ (lookup_mem hx)
  simp at this
 ·have hm:x∈caps:=by simpa [el] using hx
  have:=List.all_eq_true.mp h5 x hm
  show sc.names.lookup x=some .cell
  simpa using this
theorem pK {d:ak} (h:kH fns glb lam caps params sc body=some d):d.np=params.length∧compB gi (el fns glb lam caps params sc body) body=some d.body:=by
 unfold kH at h
 dsimp only at h
 split at h
 ·rename_i h1;cases h;exact ⟨rfl,h1⟩
 ·cases h
end
variable {C:Cfg} {fns:List (Str×Nat)} {glb:List (Str×V)} {mg mb:Str→Option Value}
theorem B4 (W:dv C fns glb mg mb):z5 C:=⟨yx W.sys,uJ,AL⟩
end Mine
namespace Mine
open PySem PySem.Calls PyProof.Rows PySem.W
section
variable {prog:Program} {w:World} {A:Around} {E:Value→Shared→Prop} {s:Shared}
theorem oB {a:Addr} {vs:List Value} {n:Nat} {P:PySem.Fin→Shared→Prop} (ho:s.heap.get? a=some (seqObj "list" vs.toArray n)) (h2:vs.length < 2)
  (h:P (.done (.ret .none)) { s with heap:=sortedHeap s.heap a vs vs.toArray }):
  wpAny (model prog w) A (Builtin.«list.sort» ⟨[.ref a],[]⟩) P E s:=by
 rw [list_sort_plain]
 have ha:a < s.heap.objs.size:=Heap.lt_size ho
 refine wpAny_bind (listItems_at ho rfl ?_)
 refine wpAny_bind (listUpdate_at ho rfl ?_)
 obtain ⟨e1,ho1⟩:∃ e1,(s.heap.update a (Obj.mapSeq fun _=>#[])).get? a=some (seqObj "list" #[] e1):=⟨_,get?_update_seq ho (fun _=>#[])⟩
 refine wpAny_bind (seqEpoch_at ho1 rfl ?_)
 refine wpAny_bind (wpAny_newTuple ?_)
 refine wpAny_bind (wpAny_newList ?_)
 refine wpAny_holding ?_
 have ho6:(((s.heap.update a (Obj.mapSeq fun _=>#[])).push (seqObj "tuple" vs.toArray 0)).push (seqObj "list" #[] 0)).get? a=some (seqObj "list" #[] e1):=by
  rw [Heap.get?_push_ne _ _ _ (by rw [size_push',Heap.size_update];exact Nat.ne_of_lt (Nat.lt_succ_of_lt ha)),Heap.get?_push_ne _ _ _ (by rw [Heap.size_update];exact Nat.ne_of_lt ha)]
  exact ho1
 show wpAny (model prog w) A _ P E { s with heap:=((s.heap.update a (Obj.mapSeq fun _=>#[])).push (seqObj "tuple" vs.toArray 0)).push (seqObj "list" #[] 0) }
 dsimp only
 have h2':vs.toArray.size < 2:=by simpa using h2
 rw [if_pos h2',if_pos h2']
 refine wpAny_bind (wpAny_pure ?_)
 rw [StateT.run_pure]
 refine wpAny_bind (wpAny_pure ?_)
 dsimp only
 refine wpAny_bind (seqEpoch_at ho6 rfl ?_)
 have e2:(arrOf (SortSt.mk' general' (vs.toArray.zip vs.toArray) #[] 7 none)).map (·.2)=vs.toArray:=by
  show (vs.toArray.zip vs.toArray).map (·.2)=vs.toArray
  apply Array.toList_inj.mp
  simp [List.map_snd_zip]
 refine wpAny_bind (listUpdate_at ho6 rfl ?_ (hsz2:=by rw [e2];rw [sizeLine_eq];omega))
 simp only [bne_self_eq_false,Bool.false_eq_true,if_false]
 refine wpAny_pure ?_
 rw [e2]
 exact h
theorem tG {a cT cg:Addr} {n:Nat} {x y:Int} {tx ty:Tok} {v w':Value} {P:PySem.Fin→Shared→Prop} (ho:s.heap.get? a=some (seqObj "list" #[.ref cT,.ref cg] n)) (h1:s.heap.get? cT=some { cls:=.type "tuple",data:=.seq #[.int x tx,v] })
  (h2:s.heap.get? cg=some { cls:=.type "tuple",data:=.seq #[.int y ty,w'] }) (hne:x≠y)
  (h:P (.done (.ret .none)) { s with heap:=sortedHeap s.heap a [.ref cT,.ref cg] (if y < x then #[.ref cg,.ref cT] else #[.ref cT,.ref cg]) }):
  wpAny (model prog w) A (Builtin.«list.sort» ⟨[.ref a],[]⟩) P E s:=by
 have h1a:cT≠a:=fun e=>by rw [e,ho] at h1;have q:=congrArg Obj.cls (Option.some.inj h1);simp [seqObj] at q
 have h2a:cg≠a:=fun e=>by rw [e,ho] at h2;have q:=congrArg Obj.cls (Option.some.inj h2);simp [seqObj] at q
 rw [list_sort_plain]
 have ha:a < s.heap.objs.size:=Heap.lt_size ho
 refine wpAny_bind (listItems_at ho rfl ?_)
 refine wpAny_bind (listUpdate_at ho rfl ?_)
 obtain ⟨e1,ho1⟩:∃ e1,(s.heap.update a (Obj.mapSeq fun _=>#[])).get? a=some (seqObj "list" #[] e1):=⟨_,get?_update_seq ho (fun _=>#[])⟩
 refine wpAny_bind (seqEpoch_at ho1 rfl ?_)
 refine wpAny_bind (wpAny_newTuple ?_)
 refine wpAny_bind (wpAny_newList ?_)
 refine wpAny_holding ?_
 have kp:∀ b o,b≠a→s.heap.get? b=some o→(((s.heap.update a (Obj.mapSeq fun _=>#[])).push (seqObj "tuple" #[.ref cT,.ref cg] 0)).push (seqObj "list" #[] 0)).get? b=some o:=fun b o hb e=>by
  refine Heap.get?_push_of_some _ (Heap.get?_push_of_some _ ?_)
  rw [Heap.get?_update_ne _ _ _ _ hb];exact e
 have ho6:(((s.heap.update a (Obj.mapSeq fun _=>#[])).push (seqObj "tuple" #[.ref cT,.ref cg] 0)).push (seqObj "list" #[] 0)).get? a=some (seqObj "list" #[] e1):=Heap.get?_push_of_some _ (Heap.get?_push_of_some _ ho1)
 have g1:=kp cT _ h1a h1
 have g2:=kp cg _ h2a h2
 have fin:=h
 unfold sortedHeap at fin
 change P (.done (.ret .none)) { s with heap:=(((s.heap.update a (Obj.mapSeq fun _=>#[])).push (seqObj "tuple" #[.ref cT,.ref cg] 0)).push (seqObj "list" #[] 0)).update a (Obj.mapSeq fun _=>if y < x then #[.ref cg,.ref cT] else #[.ref cT,.ref cg]) } at fin
 show wpAny (model prog w) A _ P E { s with heap:=((s.heap.update a (Obj.mapSeq fun _=>#[])).push (seqObj "tuple" #[.ref cT,.ref cg] 0)).push (seqObj "list" #[] 0) }
 generalize ((s.heap.update a (Obj.mapSeq fun _=>#[])).push (seqObj "tuple" #[.ref cT,.ref cg] 0)).push (seqObj "list" #[] 0)=hp at g1 g2 ho6 fin ⊢
 dsimp only
 rw [if_neg (by simp),if_neg (by simp)]
 have hk:KatTups (Shared.heap { s with heap:=hp }) [.ref cT,.ref cg] [.int x tx,.int y ty]:=.cons g1 rfl rfl rfl (.cons g2 rfl rfl rfl .nil)
 refine wpAny_bind ?_
 show wpAny (model prog w) A (keyKind' [Value.ref cT,Value.ref cg].toArray) _ _ _
 refine kat_kind (T:=.type "int") hk (by simp) (fun v hv=>?_) (by decide) ?_
 ·rcases List.mem_cons.mp hv with rfl | hv
  ·exact .now
  ·rcases List.mem_cons.mp hv with rfl | hv
   ·exact .now
   ·nomatch hv
 have run:(kas_sort [Value.ref cT,Value.ref cg].length).kasWp (kas_ask prog w A (tuples' (Value.type "int" !=Value.type "tuple")) [Value.ref cT,Value.ref cg]) (fun p s'=>s'={ s with heap:=hp }∧p=if y < x then #[1,0] else #[0,1]) { s with heap:=hp }:=by
  show kas_ask prog w A (tuples' (Value.type "int" !=Value.type "tuple")) [Value.ref cT,Value.ref cg] 1 0 (fun c s'=>_) { s with heap:=hp }
  show wpAny (model prog w) A (keyLt' (tuples' true) (.ref cg) (.ref cT)) _ _ _
  refine kat_lt g2 rfl g1 rfl ?_
  refine kat_cons (wpAny_eqBool_int ?_)
  rw [show (y==x)=false from beq_eq_false_iff_ne.mpr (Ne.symm hne)]
  refine kat_no (oneLt_int ?_)
  by_cases q:y < x
  ·rw [decide_eq_true q]
   exact ⟨rfl,by rw [if_pos q];simp only [List.length_cons,List.length_nil];decide +kernel⟩
  ·rw [decide_eq_false q]
   exact ⟨rfl,by rw [if_neg q];rfl⟩
 refine wpAny_bind (wpAny_mono (kat_run (ks:=[Value.ref cT,Value.ref cg]) (vs:=[Value.ref cT,Value.ref cg]) (Q:=fun st' s'=>s'={ s with heap:=hp }∧failedOf st'=none∧(arrOf st').map (·.2)=if y < x then #[.ref cg,.ref cT] else #[.ref cT,.ref cg])
  rfl (by simp) (by simp) (fun p st' s' _ har hf hG=>⟨hG.1,hf,?_⟩) run) ?_ fun _ _ e=>e)
 ·rw [kat_snds rfl har,hG.2]
  by_cases q:y < x
  ·rw [if_pos q,if_pos q];rfl
  ·rw [if_neg q,if_neg q];rfl
 rintro ⟨⟨⟩,st'⟩ s' ⟨rfl,hf,hout⟩
 dsimp only at hout ⊢
 refine wpAny_bind (seqEpoch_at ho6 rfl ?_)
 rw [hout]
 refine wpAny_bind (listUpdate_at ho6 rfl ?_ (hsz2:=by rw [sizeLine_eq];split <;> (show 2≤_;omega)))
 rw [hf]
 simp only [bne_self_eq_false,Bool.false_eq_true,if_false]
 exact wpAny_pure fin
end
section
variable {C:Cfg} {fns:List (Str×Nat)} {glb:List (Str×V)} {mg mb:Str→Option Value} {X Pn:AP} {s s':Shared} {A:Around} {n:Nat} {p:List V} {Q E:Value→Shared→Prop} {cx:Cx} {b:Bool}
def kvsOf (ns:List Int) (es:List DictEntry):List (Int×Value):=ns.zip (es.map (·.val))
theorem nM {h:Heap}:∀ (es:List DictEntry) (ns:List Int),RepVs C X h (ns.map .int) (es.map (·.key))→es.map (·.hash)=hashVs C.w (ns.map .int)→
  Pairs (intKind C.prog C.w) es (kvsOf ns es)∧(∀ e∈es,∃ k,(intKind C.prog C.w).is k e.key=true∧e.hash=(intKind C.prog C.w).hash k)∧(kvsOf ns es).map (·.1)=ns
 | [],[],_,_=>⟨.nil,fun _ q=>(nomatch q),rfl⟩
 | [],_::_,r,_=>by simp only [List.map_cons,RepVs,List.map_nil] at r;obtain ⟨_,_,q,_⟩:=r;cases q
 | _::_,[],r,_=>by simp only [List.map_cons,RepVs,List.map_nil] at r;cases r
 | e::es,k::ns,r,hh=>by
  simp only [List.map_cons,RepVs] at r
  obtain ⟨x,q,e1,h1,h2⟩:=r
  injection e1 with e1 e2
  subst e1 e2
  simp only [RepV] at h1
  obtain ⟨t,h1⟩:=h1
  simp only [List.map_cons,hashVs] at hh
  injection hh with g1 g2
  obtain ⟨a1,a2,a3⟩:=nM es ns h2 g2
  have hi:(intKind C.prog C.w).is k e.key=true:=by rw [h1];simp [intKind,Value.isInt]
  refine ⟨.cons (kv:=(k,e.val)) hi rfl a1,fun e' he'=>?_,by show k::(kvsOf ns es).map (·.1)=_;rw [a3]⟩
  rcases List.mem_cons.mp he' with rfl | he'
  ·exact ⟨k,hi,by rw [g1];rfl⟩
  ·exact a2 e' he'
theorem rl {ks xs l:List V} (hs:sort2 ks xs=some l):∃ ns:List Int,ks=ns.map .int∧ns.Nodup∧ns.length≤2:=by
 unfold sort2 at hs
 split at hs
 ·exact ⟨[],rfl,by simp,by simp⟩
 ·rename_i a v;exact ⟨[a],rfl,by simp,by simp⟩
 ·rename_i a b v w
  refine ⟨[a,b],rfl,?_,by simp⟩
  rw [d5,d5] at hs
  have:a≠b:=fun e=>by subst e;simp at hs
  simpa using this
 ·cases hs
theorem se {ks xs l:List V} {es:List DictEntry} {ns:List Int} {as:List Addr} {lo:Addr} {aG:Heap} {s₁:Shared} (hs:sort2 ks xs=some l) (hks:ks=ns.map .int) (hkp:∀ b o,aG.get? b=some o→s₁.heap.get? b=some o) (h2:RepVs C X aG xs (es.map (·.val))) (hl:as.length=(kvsOf ns es).length) (hG:KdxG (intKind C.prog C.w) (kvsOf ns es) lo aG as)
  (hX:∀ a∈as,¬X a) (he:es.length=ns.length) {a:Addr} {m:Nat} {A':Around} {P:PySem.Fin→Shared→Prop} {E':Value→Shared→Prop} (ho:s₁.heap.get? a=some (seqObj "list" (as.map Value.ref).toArray m))
  (hP:∀ out,RepVs C X aG l out.toList→out.size≤8000→P (.done (.ret .none)) { s₁ with heap:=sortedHeap s₁.heap a (as.map Value.ref) out }):wpAny (model C.prog C.w) A' (Builtin.«list.sort» ⟨[.ref a],[]⟩) P E' s₁:=by
 have tup:∀ (j:Nat) (t:Addr) (k:Int) (x:Value) (v:V),as[j]?=some t→(kvsOf ns es)[j]?=some (k,x)→RepV C X aG v x→∃ tk,s₁.heap.get? t=some { cls:=.type "tuple",data:=.seq #[.int k tk,x] }∧RepV C X aG (.tup [.int k,v]) (.ref t):=by
  intro j t k x v hj hk hv
  obtain ⟨key,k',x',e1,e2,e3⟩:=hG.pairs j t hj
  rw [hk] at e1
  cases e1
  obtain ⟨tk,rfl⟩:=Value.isInt_shape e2
  refine ⟨tk,hkp _ _ e3,?_⟩
  simp only [RepV,RepVs]
  refine ⟨t,[.int k tk,x],rfl,hX t (List.mem_iff_getElem?.mpr ⟨j,hj⟩),⟨?_,0,e3⟩,_,_,rfl,⟨tk,rfl⟩,_,_,rfl,hv,rfl⟩
  show 2≤8000;omega
 unfold sort2 at hs
 split at hs
 ·cases hs
  have:ns=[]:=by cases ns with | nil=>rfl | cons=>cases hks
  subst this
  have:as=[]:=List.eq_nil_of_length_eq_zero (by rw [hl];rfl)
  subst this
  exact oB ho (by simp) (hP _ (by simp [RepVs]) (by simp) )
 ·rename_i gA v
  cases hs
  obtain rfl:ns=[gA]:=by
   match ns,hks with
   | [x],q=>injection q with q _;injection q with q;rw [q]
  match es,he,h2 with
  | [e],_,h2=>
   match as,hl with
   | [t],_=>
    simp only [List.map_cons,List.map_nil,RepVs] at h2
    obtain ⟨x,r,q,hv,_⟩:=h2
    injection q with q _
    obtain ⟨tk,g1,g2⟩:=tup 0 t gA e.val v rfl rfl (by rw [q];exact hv)
    exact oB ho (by simp) (hP _ (by simp only [RepVs];exact ⟨_,_,rfl,g2,rfl⟩) (by simp) )
 ·rename_i gA km v w
  obtain rfl:ns=[gA,km]:=by
   match ns,hks with
   | [x,y],q=>injection q with q q2;injection q with q;injection q2 with q2;injection q2 with q2;rw [q,q2]
  match es,he,h2 with
  | [e,e'],_,h2=>
   match as,hl with
   | [t,t'],_=>
    simp only [List.map_cons,List.map_nil,RepVs] at h2
    obtain ⟨x,r,q,hv,x',r',q',hv',_⟩:=h2
    injection q with q qr
    subst qr
    injection q' with q' _
    obtain ⟨tk,g1,g2⟩:=tup 0 t gA e.val v rfl rfl (by rw [q];exact hv)
    obtain ⟨tk',g1',g2'⟩:=tup 1 t' km e'.val w rfl rfl (by rw [q'];exact hv')
    rw [d5,d5] at hs
    have hne:gA≠km:=fun e=>by subst e;simp at hs
    refine tG ho g1 g1' hne ?_
    refine hP _ ?_ (by split <;> simp)
    by_cases c:gA < km
    ·rw [decide_eq_true c] at hs
     cases hs
     rw [if_neg (by omega)]
     simp only [RepVs]
     exact ⟨_,_,rfl,g2,_,_,rfl,g2',rfl⟩
    ·rw [decide_eq_false c] at hs
     have c':km < gA:=by omega
     rw [decide_eq_true c'] at hs
     cases hs
     rw [if_pos c']
     simp only [RepVs]
     exact ⟨_,_,rfl,g2',_,_,rfl,g2,rfl⟩
 ·cases hs
theorem oz {r d:Addr} {es:List DictEntry} {ks xs l:List V} (P:aZ C n X Pn p A s) (hv:s.heap.IsItemsView r d) (hd:dE s.heap d es) (h1:RepVs C X s.heap ks (es.map (·.key))) (h2:RepVs C X s.heap xs (es.map (·.val))) (hh:es.map (·.hash)=hashVs C.w ks)
  (hs:sort2 ks xs=some l) (h:∀ val s',Kp s s'→RepV C X s'.heap (.lst l) val→Q val s'):wpAny (model C.prog C.w) A (PySem.call (.builtin "sorted") [.ref r]) Q E s:=by
 obtain ⟨ns,rfl,hnd,hn2⟩:=rl hs
 obtain ⟨⟨hsys,hz⟩,ep,ho⟩:=hd
 obtain ⟨p1,p2,p3⟩:=nM es ns h1 hh
 have hlen:es.length=ns.length:=by have:=h1.length;simp at this;omega
 have hkl:(kvsOf ns es).length=ns.length:=by have:=congrArg List.length p3;simpa using this
 have hat:s.heap.DictAt (intKind C.prog C.w) d (kvsOf ns es) ep:=⟨_,es.toArray,ho,⟨rfl,rfl,rfl⟩,rfl,fun e he=>p2 e (by simpa using he),by simpa using p1,by rw [p3];exact hnd⟩
 refine call_function_entry kind_sorted plain_sorted entry_sorted (args_sorted1 _) ?_
 unfold Builtin.«sorted»
 refine wpAny_bind (m:=checkCount "sorted" 1 1 _) (wpAny_pure ?_)
 refine wpAny_bind (kdx_collect (A:=A.in1) (knd:=intKind C.prog C.w) (kvs:=kvsOf ns es) (ep:=ep) (by exact P.room.handled) hv hat (by rw [sizeLine_eq,hkl];omega) fun h' tk as hk hl hG=>?_)
 refine wpAny_bind (wpAny_newList ?_ (by rw [List.length_map,hl,sizeLine_eq,hkl];omega))
 have hoL:(h'.push (seqObj "list" (as.map Value.ref).toArray 0)).get? h'.objs.size=some (seqObj "list" (as.map Value.ref).toArray 0):=Heap.get?_push_size _ rfl
 show wpAny _ _ _ _ _ { s with heap:=h'.push (seqObj "list" (as.map Value.ref).toArray 0),toks:=tk }
 have hk2:∀ b o,s.heap.get? b=some o→(h'.push (seqObj "list" (as.map Value.ref).toArray 0)).get? b=some o:=fun b o e=>Heap.get?_push_of_some _ (hk b o e)
 have T:Tr X s.heap X h':=fun b o e _ hx=>⟨hk b o e,hx⟩
 have hXa:∀ a∈as,¬X a:=fun a ha q=>by
  obtain ⟨o,e⟩:=P.lt a q
  exact Nat.lt_asymm (Heap.lt_size e) (hG.above a ha)
 have hXL:¬X h'.objs.size:=fun q=>by
  obtain ⟨o,e⟩:=P.lt _ q
  exact absurd (Heap.lt_size (hk _ _ e)) (Nat.lt_irrefl _)
 refine wpAny_bind (wpAny_holding (wpAny_call_entry slot_list_sort ⟨_,hoL,rfl⟩ entry_list_sort (se (C:=C) (X:=X) (s₁:={ s with heap:=h'.push (seqObj "list" (as.map Value.ref).toArray 0),toks:=tk }) hs rfl (fun b o eb=>Heap.get?_push_of_some _ eb) (h2.tr T) hl hG hXa hlen hoL fun out hr hz'=>⟨_,rfl,?_⟩) (args_list_sort _)))
 obtain ⟨e,he⟩:=sortedHeap_at (h:=h'.push (seqObj "list" (as.map Value.ref).toArray 0)) (a:=h'.objs.size) (vs:=as.map Value.ref) (out:=out) hoL
 have keep:∀ b o,b≠h'.objs.size→(h'.push (seqObj "list" (as.map Value.ref).toArray 0)).get? b=some o→(sortedHeap (h'.push (seqObj "list" (as.map Value.ref).toArray 0)) h'.objs.size (as.map Value.ref) out).get? b=some o:=fun b o hb eb=>by
  rw [sortedHeap_old hb (Heap.lt_size eb)];exact eb
 refine wpAny_pure ⟨_,rfl,h (.ref h'.objs.size) _ ⟨fun b o eb=>keep b o (Nat.ne_of_lt (Heap.lt_size (hk b o eb))) (hk2 b o eb),rfl,rfl⟩ ?_⟩
 simp only [RepV]
 refine ⟨h'.objs.size,out.toList,rfl,hXL,⟨by simpa using hz',e,he⟩,?_⟩
 exact hr.tr fun b o eb _ hx=>⟨keep b o (Nat.ne_of_lt (Heap.lt_size eb)) (Heap.get?_push_of_some _ eb),hx⟩
end
end Mine
namespace Mine
open PySem PySem.Calls PyProof.Rows
section
variable {C:Cfg} {fns:List (Str×Nat)} {glb:List (Str×V)} {mg mb:Str→Option Value}
theorem qG (W:dv C fns glb mg mb) {cx:Cx} {b:Bool} {o:Expr} {x:aq} {np ap cp pos:Pos} (hG:cx.du "sorted" = true) (ho:gY o ap cp=true) (hx:az C cx true o x):
  az C cx b (.Call (.Name "sorted" np) [.Call (.Attribute o "items" ap) [] [] cp] [] pos) (Mine.c1 sortItemsF x):=by
 intro n call hc X Pn env ρ p s A Q E hv hk hr N
 simp only [gY,Bool.and_eq_true] at ho
 have N:=N.o
 rw [show (Mine.c1 sortItemsF x call ρ p).out=(x call ρ p).out.bind fun a p=>(@Option.rec V (fun _=>Res) Res.stuck (fun v=>Res.ok v p) (sortItemsF a)).out from cv _ _] at N
 refine wpAny_Call_NameR (dg W hv (x := "sorted") (by decide +kernel) hG (by decide +kernel) (val:=.builtin "sorted") (by decide +kernel) ?_)
 rw [lU (e:=.Call (.Attribute o "items" ap) [] [] cp) (fun _ _ q=>nomatch q)]
 refine jD (.fn _) ?_
 refine wpAny_Call_method (T := "dict") (id := "dict.items") (fw ho.1 _ _) rfl ho.2 F.plainAttrs_dict F.slot_dict_items F.type_dict_items ?_
 refine hx.run hc hv hk hr N fun v p₁ val s₁ hn v1 k₁ hval N1=>?_
 cases v <;> (try exact absurd rfl N1.1)
 case aQ ks xs=>
  cases hs:sort2 ks xs with
  | none=>simp only [sortItemsF,hs] at N1;exact absurd rfl N1.1
  | some l=>
   simp only [sortItemsF,hs] at N1
   have key:∃ a es,val=.ref a∧dE s₁.heap a es∧RepVs C X s₁.heap ks (es.map (·.key))∧RepVs C X s₁.heap xs (es.map (·.val))∧es.map (·.hash)=hashVs C.w ks:=by
    rcases hval.b with r | ⟨a,e,hn,r⟩
    ·simp only [RepV] at r;obtain ⟨a,es,e,hx,q,w,u,z,_⟩:=r;exact ⟨a,es,e,q,w,u,z⟩
    ·simp only [OwnR] at r;obtain ⟨es,q,w,u,z,_⟩:=r;exact ⟨a,es,e,q,w,u,z⟩
   obtain ⟨a,es,rfl,hd',h1,h2,hh⟩:=key
   obtain ⟨⟨hsys,hz⟩,m,hd⟩:=id hd'
   have hT:s₁.TypeIs (.ref a) "dict" := ⟨_,hd,rfl⟩
   refine ⟨hT,fun a' ea=>by cases ea;exact ⟨_,hd,rfl⟩,?_⟩
   refine Calls.callWith_builtin rfl (PySem.evalArgs_none ?_)
   refine wpAny_call_entry F.slot_dict_items hT F.entry_dict_items ?_ (F.args_dict_items_1 _)
   unfold Builtin.«dict.items»
   refine wpAny_bind ?_
   unfold Builtin.Dict.noArgs
   refine wpAny_bind (wpAny_notOrdered_dict hT ?_)
   show wpAny _ _ (pure a) _ _ s₁
   refine wpAny_pure ?_
   show wpAny _ _ (Builtin.Dict.showsAll a >>= _) _ _ s₁
   unfold Builtin.Dict.showsAll
   rw [if_neg (by rw [hsys];exact Bool.false_ne_true)]
   refine wpAny_bind (wpAny_pure ?_)
   refine wpAny_bind (wpAny_newObj_type (wpAny_pure ⟨_,rfl,?_⟩))
   have K:Kp s₁ { s₁ with heap:=s₁.heap.push { cls:=.type "dict_items",data:=.fields #[.ref a] } }:=Kp.push (s:=s₁) _
   have P0:=(v1.kp K).pre (k₁.ext (K.nx (Pn:=Pn) v1.base).ext v1.au) hr
   refine oz (d:=a) (es:=es) (ks:=ks) (xs:=xs) P0 ⟨_,Heap.get?_push_size _ rfl,rfl,rfl⟩ ⟨⟨hsys,hz⟩,m,K.keep _ _ hd⟩ (h1.tr K.tr) (h2.tr K.tr) hh hs fun val' s' hkp hrep=>?_
   exact N1.kp v1.base v1.au (K.trans hkp) _ (.of hrep)
end
section
variable {C:Cfg} {fns:List (Str×Nat)} {glb:List (Str×V)} {mg mb:Str→Option Value}
theorem xl (W:dv C fns glb mg mb) (hD:∀ f i,fns.lookup f=some i→C.isDef i=true):∀ n,Sound C fns glb n:=
 sound W (B4 W) (fun _ a b c=>qG W a b c) hD
end
section
variable {C:Cfg} {fns:List (Str×Nat)} {glb:List (Str×V)} {mg mb:Str→Option Value} {cx:Cx}
theorem r7 {f tn wn x k:Str} {i j jt jx u cn:Nat} {params:Arguments} {lb:Expr} {lsc:Scope} {lpos:Pos} {fp tp cp rp np ap kpos rp' hpos pos pos':Pos} (W:dv C fns glb mg mb) (Y:nh C mg) (L:pU C mg cx.lam params lb lsc lpos x) (O:bc cx)
  (hE:cx.du "CasFail" = true) (ht:cq cx wn=some j) (hloc:cx.sc.lookup wn=some .local)
  (hf:aM f=true) (hG:cx.du f=true) (hi:fns.lookup f=some i) (hd:C.isDef i=true) (htn:aM tn=true) (hjt:cx.vars.lookup tn=some jt)
  (hfree:freeOf lsc=[x]) (hjx:cx.vars.lookup x=some jx) (hcap:cx.caps.contains x=true) (hcell:cx.sc.lookup x=some .cell):
  dn C cx [.Try [.Return (some (.Call (.Name f fp) [.Name tn tp,.Constant (.str k) cn cp,.Lambda params lb lsc lpos] [] pos)) rp] [.ExceptHandler (some (.Name "CasFail" np)) (some wn) [.Return (some (.Attribute (.Name wn ap) "kind" kpos)) rp'] hpos] [] [] pos']
   (n6 (ae i [.slot (ay jt),.exp (cK (.str k.cps.toList)),.exp (pP cx.lam [ay jx])])):=by
 refine .one (.xd W Y hE (.u9 W hf hG hi hd ?_ (.slot htn hjt (.exp .pI (fun _ _ q=>nomatch q) (.exp (.lam W L hfree hjx hcap hcell) (fun _ _ q=>nomatch q) .nil)))) O ht hloc)
 intro y hy
 rcases List.mem_cons.mp hy with rfl | hy
 ·exact fun _ _ q=>nomatch q
 ·rcases List.mem_cons.mp hy with rfl | hy
  ·exact fun _ _ q=>nomatch q
  ·rcases List.mem_cons.mp hy with rfl | hy
   ·exact fun _ _ q=>nomatch q
   ·nomatch hy
end
structure rN where
 f:Str
 tn:Str
 k:Str
 wn:Str
 params:Arguments
 lb:Expr
 lsc:Scope
 lpos:Pos
 deriving Inhabited
def told?:List Stmt→Option rN
 | [.Try [.Return (some (.Call (.Name f _) [.Name tn _,.Constant (.str k) _ _,.Lambda params lb lsc lpos] [] _)) _] [.ExceptHandler (some (.Name e _)) (some wn) [.Return (some (.Attribute (.Name wn' _) kk _)) _] _] [] [] _]=>
  if e=("CasFail" : Str)∧wn'=wn∧kk=("kind" : Str) then some ⟨f,tn,k,wn,params,lb,lsc,lpos⟩ else none
 | _=>none
theorem q8 {b:List Stmt} {P:rN} (h:told? b=some P):∃ fp tp cp rp np ap kpos rp' hpos pos pos' cn,b=[.Try [.Return (some (.Call (.Name P.f fp) [.Name P.tn tp,.Constant (.str P.k) cn cp,.Lambda P.params P.lb P.lsc P.lpos] [] pos)) rp] [.ExceptHandler (some (.Name "CasFail" np)) (some P.wn) [.Return (some (.Attribute (.Name P.wn ap) "kind" kpos)) rp'] hpos] [] [] pos']:=by
 unfold told? at h
 split at h
 ·split at h
  ·rename_i hc
   obtain ⟨rfl,rfl,rfl⟩:=hc
   cases h
   exact ⟨_,_,_,_,_,_,_,_,_,_,_,_,rfl⟩
  ·cases h
 ·cases h
open Classical in
noncomputable def hide (h:Heap) (D:AP):Heap:={ h with objs:=h.objs.mapIdx fun i o=>if D i then { o with data:=.freed } else o }
theorem iU {h:Heap} {D:AP} {a:Addr} (hd:D a):(hide h D).get? a=none:=by
 unfold Heap.get? hide
 simp only [Array.getElem?_mapIdx]
 cases h.objs[a]? with
 | none=>rfl
 | some o=>simp [hd]
theorem eE {h:Heap} {D:AP} {a:Addr} (hd:¬D a):(hide h D).get? a=h.get? a:=by
 unfold Heap.get? hide
 simp only [Array.getElem?_mapIdx]
 cases h.objs[a]? with
 | none=>rfl
 | some o=>simp [hd]
theorem lH {h:Heap} {D:AP} {a:Addr} {o:Obj} (e:(hide h D).get? a=some o):h.get? a=some o:=by
 by_cases q:D a
 ·rw [iU q] at e;cases e
 ·rw [eE q] at e;exact e
theorem dR {j:Nat} {ρ:Fr} {v:Slot} (h:j < 16):ay j (sets j ρ v)=v:=by rw [bO,if_pos ⟨rfl,h⟩]
theorem eF {k j:Nat} {ρ:Fr} {v:Slot} (h:k≠j):ay k (sets j ρ v)=ay k ρ:=by rw [bO,if_neg (fun q=>h q.1)]
section
variable {C:Cfg} {cx:Cx} {X0 X X' Pn:AP} {env:Env} {aj s s':Shared} {ρ ρ':Fr} {p p':List V} {A:Around} {h h':Heap}
theorem St.z7 {x:Str} {j:Nat} {l:List V} (S:St C cx (fun _=>False) (fun _=>False) env aj ρ p s X) (O:bc cx) (hx:cx.vars.lookup x=some j) (hj:j < 16) (hg:ay j ρ=.own (.lst l)) (hone:∀ y k u,cx.vars.lookup y=some k→ay k ρ=.own u→y=x) (hcp:cx.caps=[]):
  ∃ (P:Addr) (s₁:Shared),St C cx (fun b=>b=P) (fun b=>b=P) env s₁ (sets j ρ .au) l s X∧(∀ b o,aj.heap.get? b=some o→s.heap.get? b=some o→s₁.heap.get? b=some o)∧s₁.gens=s.gens∧s₁.os=s.os∧aj.heap.get? P=none:=by
 have v:=S.vw
 obtain ⟨val,rd,sr,hne⟩:=v.vars x j hx (by rw [hg];simp)
 rw [hg] at sr
 obtain ⟨P,rfl,hXP,_,ho⟩:=sr
 simp only [OwnR] at ho
 obtain ⟨vs,hl,hvs⟩:=ho
 have hP0:aj.heap.get? P=none:=(S.new P hXP).resolve_left id
 have hold:∀ b o,aj.heap.get? b=some o→¬X b:=fun b o e q=>by
  rw [(S.new b q).resolve_left id] at e;cases e
 have hPL:P≠env.locals:=fun q=>hne (by rw [q])
 refine ⟨P,{ s with heap:=hide s.heap fun b=>X b∧b≠P },?_,fun b o e e'=>by show (hide _ _).get? b=_;rw [eE (fun q=>hold b o e q.1)];exact e',rfl,rfl,hP0⟩
 have hbase:Base C (hide s.heap fun b=>X b∧b≠P):=fun b o e=>by
  rw [eE (fun q=>by rw [v.fresh b q.1] at e;cases e)];exact v.base b o e
 have hneX:∀ y k,cx.vars.lookup y=some k→y≠x→k≠j:=fun y k hy hn e=>hn (O.inj y x k hy (e ▸ hx))
 refine {
  vw:={ kind:=v.kind,globals:=v.globals,builtins:=v.builtins,kinds:=v.kinds,cells:=v.cells,vars:=fun y k hy hu=>?_,own:=fun y k u hy hgk=>?_,caps:=v.caps,code:=v.code,tab:=v.tab,au:=⟨fun a b e e'=>e.trans e'.symm,fun a e=>by cases e;exact ⟨vs,hl,hvs⟩⟩,pnX:=fun b e=>by cases e;exact hXP,base:=v.base,lt:=v.lt,fresh:=v.fresh }
  nx:=⟨.of_keeps hbase fun b o e=>lH e,rfl,rfl⟩
  sub:=fun b e=>by cases e;exact hXP
  new:=fun b hb=>by
   by_cases q:b=P
   ·exact .inl q
   ·exact .inr (iU ⟨hb,q⟩)
  pn0:=fun b e=>e
  lt0:=fun b e=>by
   cases e
   obtain ⟨_,n,e⟩:=hl
   exact ⟨_,(eE (fun q=>q.2 rfl)).trans e⟩
  base0:=hbase
  lns:=S.lns,frm:=S.frm,efr:=S.efr,lX:=S.lX
  l0:=iU ⟨S.lX,Ne.symm hPL⟩
  cellX:=fun y c hy hc=>by
   obtain ⟨⟨o,w,e1,e2,e3⟩,e4,e5⟩:=S.cellX y c hy hc
   have hXc:X c:=e5 (by rw [hcp];rfl)
   have hcP:c≠P:=fun q=>by
    obtain ⟨_,n,e⟩:=hl
    rw [← q,e1] at e;cases e;exact absurd e2 (by simp [cy])
   exact ⟨⟨o,w,e1,e2,e3⟩,iU ⟨hXc,hcP⟩,e5⟩
  capK:=S.capK,cinj:=S.cinj,nofree:=S.nofree
  own:=⟨fun _=>0,fun y k u hy hgk=>absurd hgk ?_,fun y z k m u w hy hz hgk _=>absurd hgk ?_⟩ }
 ·by_cases q:y=x
  ·subst q
   rw [hx] at hy;cases hy
   refine ⟨_,rd,?_,hne⟩
   rw [dR hj]
   exact ⟨P,rfl,rfl⟩
  ·rw [eF (hneX y k hy q)] at hu ⊢
   obtain ⟨val',rd',sr',hne'⟩:=v.vars y k hy hu
   refine ⟨val',rd',?_,hne'⟩
   cases hgk:ay k ρ with
   | undef=>trivial
   | val u=>rw [hgk] at sr';exact sr'
   | own u=>exact absurd (hone y k u hy hgk) q
   | au=>rw [hgk] at sr';obtain ⟨_,_,q'⟩:=sr';exact q'.elim
 ·by_cases q:y=x
  ·subst q;rw [hx] at hy;cases hy;rw [dR hj] at hgk;cases hgk
  ·rw [eF (hneX y k hy q)] at hgk;exact absurd (hone y k u hy hgk) q
 ·by_cases q:y=x
  ·subst q;rw [hx] at hy;cases hy;rw [dR hj];simp
  ·rw [eF (hneX y k hy q)];exact fun e=>q (hone y k u hy e)
 ·by_cases q:y=x
  ·subst q;rw [hx] at hy;cases hy;rw [dR hj];simp
  ·rw [eF (hneX y k hy q)];exact fun e=>q (hone y k u hy e)
end
section
variable {C:Cfg} {cx:Cx} {s:Shared} {A:Around} {n:Nat} {call:Call} {Q E:Value→Shared→Prop}
theorem wJ {a:Addr} {names:List Str} {st:Stmt} {rest:List Stmt} {D:aq} {R:bb} {ei L p':List V} {ρ':Fr} {val:Value} {x:Str} (hcls:∃ q,C.cls=.ref q) (F:ky C a cx names (st::rest)) (O:bc cx) (hn:names.length=1) (hx:cx.vars.lookup x=some 1) (hcp:cx.caps=[])
  (B1:aV C cx st (fT (sets 1) D)) (B2:dn C cx rest R) (hc:cL C n call) (P:aZ C (n + 1) (fun _=>False) (fun _=>False) [] A s) (hv:RepV C (fun _=>False) s.heap (.lst ei) val)
  (hD:D call (fill [.val (.lst ei)]) []=.ok (.lst L) []) (hR:R call (sets 1 (fill [.val (.lst ei)]) .au) L=.ret (.bool true) ρ' p')
  (hQ:∀ s' X,Base C s'.heap→dm C X s'.heap→s'.gens=s.gens→s'.os=s.os→Q (.bool true) s'):wpAny (model C.prog C.w) A (PySem.call (.ref a) [val]) Q E s:=by
 have ha:dF C (fun _=>False) (fun _=>False) s.heap [.val (.lst ei)] [val]:=⟨val,[],rfl,hv,rfl⟩
 refine wpAny_call (nJ F P ha (by simp [hn]) fun env s₁ X1 S k kf hr hA=>?_)
 refine wpAny_execs_cons ?_
 have hso:fT (sets 1) D call (fill [.val (.lst ei)]) []=.next (sets 1 (fill [.val (.lst ei)]) (.own (.lst L))) []:=by
  show (@Res.rec (fun _=>af) af.stuck (fun v p=>af.next (sets 1 (fill [.val (.lst ei)]) (.own v)) p) (fun e p=>af.exc e (fill [.val (.lst ei)]) p) (D call (fill [.val (.lst ei)]) []))=_
  rw [hD]
 refine B1 n call hc (fun _=>False) (fun _=>False) env s (fill [.val (.lst ei)]) [] s₁ X1 (A.deeper env) _ _ hA S k hr ?_
 rw [hso]
 refine ⟨fun q=>(nomatch q),fun ρ2 aO e s₂ eg S2 k₂ kf2=>?_,fun _ _ q=>(nomatch q),fun _ _ q=>(nomatch q),fun _ _ _ q=>(nomatch q),fun _ _ _ q=>(nomatch q)⟩
 cases e
 have hone:∀ y k u,cx.vars.lookup y=some k→ay k (sets 1 (fill [.val (.lst ei)]) (.own (.lst L)))=.own u→y=x:=fun y k u hy hg=>by
  by_cases q:k=1
  ·subst q;exact O.inj y x 1 hy hx
  ·rw [eF q] at hg
   have:=jq (args:=[.val (.lst ei)]) (j:=k) (by rw [hg];simp)
   rw [hg] at this
   match k,this with
   | 0,this=>cases this
   | k + 1,this=>simp at this
 obtain ⟨Pa,aP,S3,old,hgen,hos,_⟩:=S2.z7 O hx (by omega) (dR (by omega)) hone hcp
 have e3:sets 1 (sets 1 (fill [.val (.lst ei)]) (.own (.lst L))) .au=sets 1 (fill [.val (.lst ei)]) .au:=rfl
 rw [e3] at S3
 refine B2 n call hc (fun b=>b=Pa) (fun b=>b=Pa) env aP _ L s₂ eg (A.deeper env) _ _ hA S3 k₂ hr ?_
 rw [hR]
 refine ⟨fun q=>(nomatch q),fun _ _ q=>(nomatch q),fun _ _ q=>(nomatch q),fun _ _ q=>(nomatch q),fun v ρ4 oK e dG X4 S4 k4 kf4 val' hv'=>?_,fun _ _ _ q=>(nomatch q)⟩
 cases e
 simp only [RepV] at hv'
 subst hv'
 exact hQ dG X4 S4.vw.base S4.vw.tab ((S4.nx.gens.trans hgen).trans S2.nx.gens) ((S4.nx.os.trans hos).trans S2.nx.os)
end
end Mine
namespace Mine
open PySem
noncomputable section
def dz:List (Str×V):=[("R0",.tup [.int 0,.int 1]),("R1",.tup [.int 1,.int 1]),("T_ZERO",.tup [.str [110,117,109],.int 0,.int 1]),("T_ONE",.tup [.str [110,117,109],.int 1,.int 1]),("T_MINUS",.tup [.str [110,117,109],.int (-1),.int 1]),
 ("RANKS",.aQ [.str [115,121,109],.str [99,97,108,108],.str [115,117,109],.str [112,114,111,100],.str [110,117,109],.str [112,111,119],.str [101,113],.str [108,105,115,116]] [.int 0,.int 1,.int 2,.int 3,.int 4,.int 5,.int 6,.int 7]),
 ("ZERO",.tup [.str [110,117,109],.int 0,.int 1]),("ONE",.tup [.str [110,117,109],.int 1,.int 1]),("MINUS_ONE",.tup [.str [110,117,109],.int (-1),.int 1]),("HALF_simp",.tup [.str [110,117,109],.int 1,.int 2]),
 ("EXP_ONE",.tup [.str [99,97,108,108],.str [101,120,112],.tup [.tup [.str [110,117,109],.int 1,.int 1]]]),
 ("MOST_FACTORED",.int 1000000),("MOST_FACTORIAL",.int 200),("ODD_CALLS",.tup [.str [115,105,110],.str [116,97,110],.str [97,116,97,110]]),
 ("F0",.tup [.lst [],.lst [.tup [.int 1,.int 1]]]),("F1",.tup [.lst [.tup [.int 1,.int 1]],.lst [.tup [.int 1,.int 1]]]),("HALF_roots",.tup [.int 1,.int 2])]
def defs:List (Str×List Str×Scope×List Stmt):=PySem.Challenge.pw_pf0068_01.main.body.filterMap fun
 | .FunctionDef n a b _ _ _ sc _ _ _=>some (n,a.args.map (·.arg),sc,b)
 | _=>none
def dA:List (Str×Nat):=defs.zipIdx.map fun (d,i)=>(d.1,i)
def yd (i:Nat):Option ak:=match defs[i]? with | some d=>kH dA dz 142 [] d.2.1 d.2.2.1 d.2.2.2 | none=>none
section
open V Int Fr d8 aS
def A5:ak:=ak.mk 2 (ag (br [(fS,false),(aK,false)] [c1 gB (aa s0),c1 gB (aa s1)]) (ag (bC (c2 cF (aa s1) (cK (int (ofNat 0)))) (br [(fS,false),(aK,false)] [ao s1,c2 eC (aa s0) (aa s1)])) (ai (ao s0))))
def A4:ak:=ak.mk 1 (ag (aA aK (cK (int (ofNat 0)))) (ag (bI (one aC) (ao s0) (aA aK (ae 0 [slot s1,slot s2]))) (ai (ao s1))))
def A3:ak:=ak.mk 2 (ag (aA aC (ao s1)) (ag (bC (c2 nC (c2 bg (aa s2) (aa s2)) (aa s0)) (ag (aE (c2 aF (c2 eC (aa s0) (aa s2)) (cK (int (ofNat 0)))) (ai (ao s2)) aB) (aA aC (c2 (eY bR) (ao s2) (aR (c2 aF (aa s2) (cK (int (ofNat 2)))) (cK (int (ofNat 1))) (cK (int (ofNat 2)))))))) (ai (ao s0))))
def A2:ak:=ak.mk 1 (ag (br [(aK,true),(aC,false)] [ax [],cK (int (ofNat 2))]) (ag (bC (c2 bU (aa s0) (cK (int (ofNat 1)))) (ag (br [(aC,false),(aI,false)] [ae 2 [slot s0,slot s2],cK (int (ofNat 0))]) (ag (bC (c2 aF (c2 eC (aa s0) (aa s2)) (cK (int (ofNat 0)))) (br [(fS,false),(aI,false)] [c2 dS (aa s0) (aa s2),c2 ba (aa s3) (cK (int (ofNat 1)))])) (ag (df s1 aK (av [ao s2,ao s3])) (aA aC (aR (c2 aF (aa s2) (cK (int (ofNat 2)))) (cK (int (ofNat 3))) (c2 ba (aa s2) (cK (int (ofNat 2)))))))))) (ag (bV s1 aK) (ai (ao s1)))))
def A0:ak:=ak.mk 1 (ag (aA aK (ax [cK (int (ofNat 1))])) (ag (bI (two aC aI) (ae 3 [exp (c1 gB (aa s0))]) (aA aK (bt (bB (one aX) (aa s1) [] (bB (one bq) (c1 eA (c2 ba (aa s3) (cK (int (ofNat 1))))) [] (bF (c2 bg (aa s4) (c2 iF (aa s2) (aa s5))))))))) (ai (c1 sortedF (aa s1)))))
def AZ:ak:=ak.mk 2 (ag (aE (c2 aF (aa s1) (cK (int (ofNat 0)))) (cS (cK (str [100,105,118,105,115,105,111,110,32,98,121,32,122,101,114,111])) (c2 ba (c1 strF (aa s0)) (cK (str [47,48])))) aB) (ag (aA aC (aR (c2 bU (aa s1) (cK (int (ofNat 0)))) (ae 0 [slot s0,slot s1]) (c2 bj (cK (int (ofNat 0))) (ae 0 [slot s0,slot s1])))) (ai (av [c2 dS (aa s0) (aa s2),c2 dS (aa s1) (aa s2)]))))
def AY:ak:=ak.mk 2 (ai (ae 5 [exp (c2 ba (c2 bg (c2 ah (aa s0) (cK (int (ofNat 0)))) (c2 ah (aa s1) (cK (int (ofNat 1))))) (c2 bg (c2 ah (aa s1) (cK (int (ofNat 0)))) (c2 ah (aa s0) (cK (int (ofNat 1)))))),exp (c2 bg (c2 ah (aa s0) (cK (int (ofNat 1)))) (c2 ah (aa s1) (cK (int (ofNat 1)))))]))
def AX:ak:=ak.mk 2 (ai (ae 5 [exp (c2 bg (c2 ah (aa s0) (cK (int (ofNat 0)))) (c2 ah (aa s1) (cK (int (ofNat 0))))),exp (c2 bg (c2 ah (aa s0) (cK (int (ofNat 1)))) (c2 ah (aa s1) (cK (int (ofNat 1)))))]))
def AW:ak:=ak.mk 2 (ai (ae 5 [exp (c2 bg (c2 ah (aa s0) (cK (int (ofNat 0)))) (c2 ah (aa s1) (cK (int (ofNat 1))))),exp (c2 bg (c2 ah (aa s0) (cK (int (ofNat 1)))) (c2 ah (aa s1) (cK (int (ofNat 0)))))]))
def z3:ak:=ak.mk 1 (ai (ae 5 [exp (c2 ah (aa s0) (cK (int (ofNat 1)))),exp (c2 ah (aa s0) (cK (int (ofNat 0))))]))
def z2:ak:=ak.mk 2 (ag (aE (c2 dq (aa s1) (cK (int (ofNat 0)))) (br [(fS,false),(aK,false)] [ae 10 [slot s0],c2 bj (cK (int (ofNat 0))) (aa s1)]) aB) (ai (av [c2 iF (c2 ah (aa s0) (cK (int (ofNat 0)))) (aa s1),c2 iF (c2 ah (aa s0) (cK (int (ofNat 1)))) (aa s1)])))
def z1:ak:=ak.mk 2 (ag (aA aC (c2 bj (c2 bg (c2 ah (aa s0) (cK (int (ofNat 0)))) (c2 ah (aa s1) (cK (int (ofNat 1))))) (c2 bg (c2 ah (aa s1) (cK (int (ofNat 0)))) (c2 ah (aa s0) (cK (int (ofNat 1))))))) (ai (c2 bj (c2 bU (aa s2) (cK (int (ofNat 0)))) (c2 dq (aa s2) (cK (int (ofNat 0)))))))
def z0:ak:=ak.mk 1 (ai (c2 dS (c2 ah (aa s0) (cK (int (ofNat 0)))) (c2 ah (aa s0) (cK (int (ofNat 1))))))
def zZ:ak:=ak.mk 2 (ag (aA aC (ae 5 [slot s0,slot s1])) (ai (av [cK (str [110,117,109]),c2 ah (aa s2) (cK (int (ofNat 0))),c2 ah (aa s2) (cK (int (ofNat 1)))])))
def zY:ak:=ak.mk 1 (ag (aE (c2 aF (c1 aD (aa s0)) (cK (int (ofNat 0)))) (ai (cK (tup [str [110,117,109],int (ofNat 0),int (ofNat 1)]))) aB) (ai (aR (c2 aF (c1 aD (aa s0)) (cK (int (ofNat 1)))) (c2 ah (aa s0) (cK (int (ofNat 0)))) (av [cK (str [115,117,109]),c1 d0 (aa s0)]))))
def zX:ak:=ak.mk 1 (ag (aE (c2 aF (c1 aD (aa s0)) (cK (int (ofNat 0)))) (ai (cK (tup [str [110,117,109],int (ofNat 1),int (ofNat 1)]))) aB) (ai (aR (c2 aF (c1 aD (aa s0)) (cK (int (ofNat 1)))) (c2 ah (aa s0) (cK (int (ofNat 0)))) (av [cK (str [112,114,111,100]),c1 d0 (aa s0)]))))
def zW:ak:=ak.mk 2 (ai (av [cK (str [112,111,119]),ao s0,ao s1]))
def zV:ak:=ak.mk 1 (ai (av [cK (str [112,114,111,100]),av [cK (tup [str [110,117,109],int (negSucc 0),int (ofNat 1)]),ao s0]]))
def zU:ak:=ak.mk 1 (ai (c2 aF (c2 ah (aa s0) (cK (int (ofNat 0)))) (cK (str [110,117,109]))))
def zT:ak:=ak.mk 1 (ai (av [c2 ah (aa s0) (cK (int (ofNat 1))),c2 ah (aa s0) (cK (int (ofNat 2)))]))
def zS:ak:=ak.mk 1 (ai (bL (c2 aF (c2 ah (aa s0) (cK (int (ofNat 0)))) (cK (str [110,117,109]))) (c2 aF (c2 ah (aa s0) (cK (int (ofNat 2)))) (cK (int (ofNat 1))))))
def zR:ak:=ak.mk 1 (ag (aA aK (c2 ah (aa s0) (cK (int (ofNat 0))))) (ag (aE (c2 kc (aa s1) (av [cK (str [115,117,109]),cK (str [112,114,111,100]),cK (str [108,105,115,116])])) (ai (c1 cV (c2 ah (aa s0) (cK (int (ofNat 1)))))) aB) (ag (aE (c2 kc (aa s1) (av [cK (str [112,111,119]),cK (str [101,113])])) (ai (ax [c2 ah (aa s0) (cK (int (ofNat 1))),c2 ah (aa s0) (cK (int (ofNat 2)))])) aB) (ai (aR (c2 aF (aa s1) (cK (str [99,97,108,108]))) (c1 cV (c2 ah (aa s0) (cK (int (ofNat 2))))) (ax []))))))
def zQ:ak:=ak.mk 1 (ag (br [(aK,true),(aC,true)] [ax [ao s0],ax []]) (ag (bC (c2 bU (c1 aD (aa s1)) (cK (int (ofNat 0)))) (ag (sPop [aI] s1 aK) (ag (df s2 aC (ao s3)) (mM s1 aK (c1 iE (ae 22 [slot s3])))))) (ag (bV s2 aC) (ai (ao s2)))))
def zP:ak:=ak.mk 1 (ai (c1 sortedF (pO (bB (one aK) (ae 23 [slot s0]) [c2 aF (c2 ah (aa s1) (cK (int (ofNat 0)))) (cK (str [115,121,109]))] (bF (c2 ah (aa s1) (cK (int (ofNat 1)))))) (bool true))))
def zO:ak:=ak.mk 2 (ai (c2 kc (aa s1) (ae 24 [slot s0])))
def zN:ak:=ak.mk 2 (ag (aE (c2 aF (aa s0) (aa s1)) (ai (cK (int (ofNat 0)))) aB) (ai (aR (c2 dq (aa s0) (aa s1)) (c1 bJ (cK (int (ofNat 1)))) (cK (int (ofNat 1))))))
def zM:ak:=ak.mk 2 (ai (ae 26 [exp (c2 bg (c2 ah (aa s0) (cK (int (ofNat 0)))) (c2 ah (aa s1) (cK (int (ofNat 1))))),exp (c2 bg (c2 ah (aa s1) (cK (int (ofNat 0)))) (c2 ah (aa s0) (cK (int (ofNat 1)))))]))
def zL:ak:=ak.mk 1 (ag (aE (c2 cF (c2 ah (aa s0) (cK (int (ofNat 0)))) (cK (str [112,114,111,100]))) (ai (ax [ao s0])) aB) (ai (bt (bB (one aK) (c2 ah (aa s0) (cK (int (ofNat 1)))) [c1 hJ (ae 19 [slot s1])] (bF (ao s1))))))
def zK:ak:=ak.mk 1 (ai (aR (c2 aF (c2 ah (aa s0) (cK (int (ofNat 0)))) (cK (str [112,111,119]))) (av [c2 ah (aa s0) (cK (int (ofNat 1))),c2 ah (aa s0) (cK (int (ofNat 2)))]) (av [ao s0,cK (tup [str [110,117,109],int (ofNat 1),int (ofNat 1)])])))
def zJ:ak:=ak.mk 2 (ag (aE (bL (ae 19 [slot s0]) (ae 19 [slot s1])) (ai (ae 27 [exp (ae 20 [slot s1]),exp (ae 20 [slot s0])])) aB) (ag (aE (c2 cF (ae 19 [slot s0]) (ae 19 [slot s1])) (ai (aR (ae 19 [slot s0]) (cK (int (ofNat 1))) (c1 bJ (cK (int (ofNat 1)))))) aB) (ai (ae 35 [slot s0,slot s1]))))
def zI:ak:=ak.mk 2 (ag (aA aC (ae 26 [exp (c2 ah (cK (aQ [str [115,121,109],str [99,97,108,108],str [115,117,109],str [112,114,111,100],str [110,117,109],str [112,111,119],str [101,113],str [108,105,115,116]] [int (ofNat 0),int (ofNat 1),int (ofNat 2),int (ofNat 3),int (ofNat 4),int (ofNat 5),int (ofNat 6),int (ofNat 7)])) (c2 ah (aa s0) (cK (int (ofNat 0))))),exp (c2 ah (cK (aQ [str [115,121,109],str [99,97,108,108],str [115,117,109],str [112,114,111,100],str [110,117,109],str [112,111,119],str [101,113],str [108,105,115,116]] [int (ofNat 0),int (ofNat 1),int (ofNat 2),int (ofNat 3),int (ofNat 4),int (ofNat 5),int (ofNat 6),int (ofNat 7)])) (c2 ah (aa s1) (cK (int (ofNat 0)))))])) (ag (aE (c2 cF (aa s2) (cK (int (ofNat 0)))) (ai (ao s2)) aB) (ag (aA aI (c2 ah (aa s0) (cK (int (ofNat 0))))) (ag (aE (c2 aF (aa s3) (cK (str [110,117,109]))) (ai (ae 27 [exp (ae 20 [slot s0]),exp (ae 20 [slot s1])])) aB) (ag (aE (c2 aF (aa s3) (cK (str [115,121,109]))) (ai (ae 26 [exp (c2 ah (aa s0) (cK (int (ofNat 1)))),exp (c2 ah (aa s1) (cK (int (ofNat 1))))])) aB) (ag (aE (c2 aF (aa s3) (cK (str [99,97,108,108]))) (ag (aA aC (ae 26 [exp (c2 ah (aa s0) (cK (int (ofNat 1)))),exp (c2 ah (aa s1) (cK (int (ofNat 1))))])) (ai (aR (c2 cF (aa s2) (cK (int (ofNat 0)))) (ao s2) (ae 31 [exp (c2 ah (aa s0) (cK (int (ofNat 2)))),exp (c2 ah (aa s1) (cK (int (ofNat 2))))])))) aB) (ag (aE (c2 kc (aa s3) (av [cK (str [115,117,109]),cK (str [112,114,111,100]),cK (str [108,105,115,116])])) (ai (ae 31 [exp (c2 ah (aa s0) (cK (int (ofNat 1)))),exp (c2 ah (aa s1) (cK (int (ofNat 1))))])) aB) (ai (ae 31 [exp (cz (aa s0) (some (cK (int (ofNat 1)))) none),exp (cz (aa s1) (some (cK (int (ofNat 1)))) none)])))))))))
def zH:ak:=ak.mk 2 (ag (eU [aC,aI] (ae 30 [slot s0])) (ag (eU [aX,bq] (ae 30 [slot s1])) (ag (aA cj (ae 33 [slot s2,slot s4])) (ai (aR (c2 cF (aa s6) (cK (int (ofNat 0)))) (ao s6) (ae 32 [slot s3,slot s5]))))))
def zG:ak:=ak.mk 2 (ag (aE (bL (ae 19 [slot s0]) (ae 19 [slot s1])) (ai (ae 27 [exp (ae 20 [slot s0]),exp (ae 20 [slot s1])])) aB) (ag (aE (c2 cF (ae 19 [slot s0]) (ae 19 [slot s1])) (ai (aR (ae 19 [slot s0]) (cK (int (ofNat 1))) (c1 bJ (cK (int (ofNat 1)))))) aB) (ag (br [(aC,false),(aI,false)] [ae 28 [slot s0],ae 28 [slot s1]]) (ag (bI (one aX) (c1 eA (c2 n8 (c1 aD (aa s2)) (c1 aD (aa s3)))) (ag (aA bq (ae 34 [exp (c2 ah (aa s2) (aa s4)),exp (c2 ah (aa s3) (aa s4))])) (aE (c2 cF (aa s5) (cK (int (ofNat 0)))) (ai (ao s5)) aB))) (ag (aA bq (ae 26 [exp (c1 aD (aa s3)),exp (c1 aD (aa s2))])) (ai (aR (c2 cF (aa s5) (cK (int (ofNat 0)))) (ao s5) (ae 27 [exp (ae 29 [slot s0]),exp (ae 29 [slot s1])]))))))))
def zF:ak:=ak.mk 2 (ag (br [(aC,true),(aI,false),(aX,false)] [ax [],cK (int (ofNat 0)),cK (int (ofNat 0))]) (ag (bC (gw (c2 dq (aa s3) (c1 aD (aa s0))) (c2 dq (aa s4) (c1 aD (aa s1)))) (ag (aA bq (gw (c2 pq (aa s4) (c1 aD (aa s1))) (bL (c2 dq (aa s3) (c1 aD (aa s0))) (c2 nC (ae 35 [exp (c2 ah (aa s0) (aa s3)),exp (c2 ah (aa s1) (aa s4))]) (cK (int (ofNat 0))))))) (aE (ao s5) (ag (df s2 aC (c2 ah (aa s0) (aa s3))) (aA aI (c2 (eY bR) (ao s3) (cK (int (ofNat 1)))))) (ag (df s2 aC (c2 ah (aa s1) (aa s4))) (aA aX (c2 (eY bR) (ao s4) (cK (int (ofNat 1))))))))) (ag (bV s2 aC) (ai (ao s2)))))
def zE:ak:=ak.mk 1 (ag (aE (c2 dq (c1 aD (aa s0)) (cK (int (ofNat 2)))) (ai (c1 cV (aa s0))) aB) (ag (aA aK (c2 dS (c1 aD (aa s0)) (cK (int (ofNat 2))))) (ai (ae 36 [exp (ae 37 [exp (cz (aa s0) none (some (aa s1)))]),exp (ae 37 [exp (cz (aa s0) (some (aa s1)) none)])]))))
def zD:ak:=ak.mk 1 (ai (av [cK (str [110,117,109]),c2 ah (aa s0) (cK (int (ofNat 0))),c2 ah (aa s0) (cK (int (ofNat 1)))]))
def zC:ak:=ak.mk 1 (ag (aE (c2 aF (c2 ah (aa s0) (cK (int (ofNat 0)))) (cK (str [110,117,109]))) (ai (av [av [c2 ah (aa s0) (cK (int (ofNat 1))),c2 ah (aa s0) (cK (int (ofNat 2)))],cK (tup [str [110,117,109],int (ofNat 1),int (ofNat 1)])])) aB) (ag (aE (gw (c2 cF (c2 ah (aa s0) (cK (int (ofNat 0)))) (cK (str [112,114,111,100]))) (c2 cF (c2 ah (c2 ah (c2 ah (aa s0) (cK (int (ofNat 1)))) (cK (int (ofNat 0)))) (cK (int (ofNat 0)))) (cK (str [110,117,109])))) (ai (av [av [cK (int (ofNat 1)),cK (int (ofNat 1))],ao s0])) aB) (ag (aA aK (aR (c2 aF (c1 aD (c2 ah (aa s0) (cK (int (ofNat 1))))) (cK (int (ofNat 2)))) (c2 ah (c2 ah (aa s0) (cK (int (ofNat 1)))) (cK (int (ofNat 1)))) (av [cK (str [112,114,111,100]),cz (c2 ah (aa s0) (cK (int (ofNat 1)))) (some (cK (int (ofNat 1)))) none]))) (ai (av [av [c2 ah (c2 ah (c2 ah (aa s0) (cK (int (ofNat 1)))) (cK (int (ofNat 0)))) (cK (int (ofNat 1))),c2 ah (c2 ah (c2 ah (aa s0) (cK (int (ofNat 1)))) (cK (int (ofNat 0)))) (cK (int (ofNat 2)))],ao s1])))))
def zB:ak:=ak.mk 2 (ag (aE (gw (c2 aF (c2 ah (aa s0) (cK (int (ofNat 0)))) (cK (int (ofNat 0)))) (c2 aF (aa s1) (cK (tup [str [110,117,109],int (ofNat 1),int (ofNat 1)])))) (ai (ae 38 [slot s0])) aB) (ag (aE (c2 aF (aa s0) (av [cK (int (ofNat 1)),cK (int (ofNat 1))])) (ai (ao s1)) aB) (ai (av [cK (str [112,114,111,100]),c2 ba (av [ae 38 [slot s0]]) (aR (c2 aF (c2 ah (aa s1) (cK (int (ofNat 0)))) (cK (str [112,114,111,100]))) (c2 ah (aa s1) (cK (int (ofNat 1)))) (av [ao s1]))]))))
def zA:ak:=ak.mk 2 (ag (fT aC (ax [])) (ag (bI (one aI) (ao s0) (mM s2 aC (aR (c2 aF (c2 ah (aa s3) (cK (int (ofNat 0)))) (aa s1)) (c1 cV (c2 ah (aa s3) (cK (int (ofNat 1))))) (ax [ao s3])))) (ag (bV s2 aC) (ai (ao s2)))))
def zy:ak:=ak.mk 1 (ag (fT aK (cK (aQ [] []))) (ag (bI (one aC) (ae 41 [slot s0,exp (cK (str [115,117,109]))]) (ag (eU [aI,aX] (ae 39 [slot s2])) (dW s1 aK (aa s4) (ae 6 [exp (iK (aa s1) (ao s4) (av [cK (int (ofNat 0)),cK (int (ofNat 1))])),slot s3])))) (ag (sPopD bq s1 aK (cK (tup [str [110,117,109],int (ofNat 1),int (ofNat 1)])) (av [cK (int (ofNat 0)),cK (int (ofNat 1))])) (ag (aA cj (bt (bB (two eT iD) (c1 fH (aa s1)) [c2 cF (c2 ah (aa s8) (cK (int (ofNat 0)))) (cK (int (ofNat 0)))] (bF (ae 40 [slot s8,slot s7]))))) (ag (aE (c2 bU (c1 aD (bt (bB (one eT) (aa s6) [c2 aF (c2 ah (aa s7) (cK (int (ofNat 0)))) (cK (str [115,117,109]))] (bF (ao s7))))) (cK (int (ofNat 0)))) (ai (ae 42 [exp (c2 ba (aa s6) (ax [ae 38 [slot s5]]))])) aB) (ag (aA cj (c2 ba (ae 37 [slot s6]) (aR (c2 cF (c2 ah (aa s5) (cK (int (ofNat 0)))) (cK (int (ofNat 0)))) (ax [ae 38 [slot s5]]) (ax [])))) (ag (aE (c2 aF (c1 aD (aa s6)) (cK (int (ofNat 0)))) (ai (cK (tup [str [110,117,109],int (ofNat 0),int (ofNat 1)]))) aB) (ai (aR (c2 aF (c1 aD (aa s6)) (cK (int (ofNat 1)))) (c2 ah (aa s6) (cK (int (ofNat 0)))) (av [cK (str [115,117,109]),c1 d0 (aa s6)]))))))))))
def zx:ak:=ak.mk 1 (ag (aE (c2 aF (c2 ah (aa s0) (cK (int (ofNat 0)))) (cK (str [112,111,119]))) (ai (av [c2 ah (aa s0) (cK (int (ofNat 1))),c2 ah (aa s0) (cK (int (ofNat 2)))])) aB) (ag (aE (bL (c2 aF (c2 ah (aa s0) (cK (int (ofNat 0)))) (cK (str [99,97,108,108]))) (c2 aF (c2 ah (aa s0) (cK (int (ofNat 1)))) (cK (str [101,120,112])))) (ai (av [cK (tup [str [99,97,108,108],str [101,120,112],tup [tup [str [110,117,109],int (ofNat 1),int (ofNat 1)]]]),c2 ah (c2 ah (aa s0) (cK (int (ofNat 2)))) (cK (int (ofNat 0)))])) aB) (ai (av [ao s0,cK (tup [str [110,117,109],int (ofNat 1),int (ofNat 1)])]))))
def zw:ak:=ak.mk 1 (ag (br [(aK,false),(aC,true)] [av [cK (int (ofNat 1)),cK (int (ofNat 1))],cK (aQ [] [])]) (ag (bI (one aI) (ae 41 [slot s0,exp (cK (str [112,114,111,100]))]) (aE (c2 aF (c2 ah (aa s3) (cK (int (ofNat 0)))) (cK (str [110,117,109]))) (aA aK (ae 7 [slot s1,exp (av [c2 ah (aa s3) (cK (int (ofNat 1))),c2 ah (aa s3) (cK (int (ofNat 2)))])])) (ag (eU [aX,bq] (ae 43 [slot s3])) (dW s2 aC (aa s4) (ae 42 [exp (ax [iK (aa s2) (ao s4) (cK (tup [str [110,117,109],int (ofNat 0),int (ofNat 1)])),ao s5])]))))) (ag (aE (c2 aF (c2 ah (aa s1) (cK (int (ofNat 0)))) (cK (int (ofNat 0)))) (ai (cK (tup [str [110,117,109],int (ofNat 0),int (ofNat 1)]))) aB) (ag (br [(cj,true),(eT,false)] [ax [],cK (bool true)]) (ag (ag (bV s2 aC) (bI (two aX bq) (c1 fH (ao s2)) (ag (aA iD (ae 45 [slot s4,slot s5])) (aE (c2 aF (c2 ah (aa s8) (cK (int (ofNat 0)))) (cK (str [110,117,109]))) (aA aK (ae 7 [slot s1,exp (av [c2 ah (aa s8) (cK (int (ofNat 1))),c2 ah (aa s8) (cK (int (ofNat 2)))])])) (ag (aA eT (bL (ao s7) (bL (c2 cF (c2 ah (aa s8) (cK (int (ofNat 0)))) (cK (str [112,114,111,100]))) (c2 aF (c2 ah (ae 43 [slot s8]) (cK (int (ofNat 0)))) (aa s4))))) (df s6 cj (ao s8))))))) (ag (aE (c1 hJ (aa s7)) (ai (ae 44 [exp (c2 ba (ax [ae 38 [slot s1]]) (aa s6))])) aB) (ag (ag (bV s6 cj) (aA cj (ae 37 [slot s6]))) (ag (aE (gw (c2 aF (c1 aD (aa s6)) (cK (int (ofNat 0)))) (c2 aF (c2 ah (aa s1) (cK (int (ofNat 0)))) (cK (int (ofNat 0))))) (ai (ae 38 [slot s1])) aB) (ai (ae 40 [slot s1,exp (aR (c2 aF (c1 aD (aa s6)) (cK (int (ofNat 1)))) (c2 ah (aa s6) (cK (int (ofNat 0)))) (av [cK (str [112,114,111,100]),c1 d0 (aa s6)]))]))))))))))
def zv:ak:=ak.mk 2 (ag (aE (c2 aF (aa s1) (cK (tup [str [110,117,109],int (ofNat 0),int (ofNat 1)]))) (ag (aE (c2 aF (aa s0) (cK (tup [str [110,117,109],int (ofNat 0),int (ofNat 1)]))) (cS (cK (str [100,111,109,97,105,110])) (cK (str [48,32,94,32,48]))) aB) (ai (cK (tup [str [110,117,109],int (ofNat 1),int (ofNat 1)])))) aB) (ag (aE (c2 aF (aa s1) (cK (tup [str [110,117,109],int (ofNat 1),int (ofNat 1)]))) (ai (ao s0)) aB) (ag (aE (c2 aF (aa s0) (cK (tup [str [99,97,108,108],str [101,120,112],tup [tup [str [110,117,109],int (ofNat 1),int (ofNat 1)]]]))) (ai (ae 54 [exp (cK (str [101,120,112])),exp (ax [ao s1])])) aB) (ag (aE (c2 aF (c2 ah (aa s0) (cK (int (ofNat 0)))) (cK (str [110,117,109]))) (ai (ae 47 [slot s0,slot s1])) aB) (ag (aE (bL (ae 21 [slot s1]) (c2 aF (c2 ah (aa s0) (cK (int (ofNat 0)))) (cK (str [112,114,111,100])))) (ai (ae 44 [exp (bt (bB (one aC) (c2 ah (aa s0) (cK (int (ofNat 1)))) [] (bF (ae 45 [slot s2,slot s1]))))])) aB) (ag (aE (bL (ae 21 [slot s1]) (c2 aF (c2 ah (aa s0) (cK (int (ofNat 0)))) (cK (str [112,111,119])))) (ai (ae 45 [exp (c2 ah (aa s0) (cK (int (ofNat 1)))),exp (ae 44 [exp (ax [c2 ah (aa s0) (cK (int (ofNat 2))),ao s1])])])) aB) (ag (aE (bL (ae 21 [slot s1]) (bL (c2 aF (c2 ah (aa s0) (cK (int (ofNat 0)))) (cK (str [99,97,108,108]))) (c2 aF (c2 ah (aa s0) (cK (int (ofNat 1)))) (cK (str [101,120,112]))))) (ai (ae 54 [exp (cK (str [101,120,112])),exp (ax [ae 44 [exp (ax [c2 ah (c2 ah (aa s0) (cK (int (ofNat 2)))) (cK (int (ofNat 0))),ao s1])]])])) aB) (ag (aE (bL (c2 aF (c2 ah (aa s1) (cK (int (ofNat 0)))) (cK (str [110,117,109]))) (gw (c2 kc (c2 ah (aa s0) (cK (int (ofNat 0)))) (av [cK (str [112,114,111,100]),cK (str [112,111,119])])) (bL (c2 aF (c2 ah (aa s0) (cK (int (ofNat 0)))) (cK (str [99,97,108,108]))) (c2 aF (c2 ah (aa s0) (cK (int (ofNat 1)))) (cK (str [101,120,112])))))) (ai (ae 46 [slot s0,slot s1])) aB) (ai (av [cK (str [112,111,119]),ao s0,ao s1]))))))))))
def zu:ak:=ak.mk 2 (ag (aE (c2 aF (aa s0) (cK (tup [str [110,117,109],int (ofNat 1),int (ofNat 1)]))) (ai (cK (tup [str [110,117,109],int (ofNat 1),int (ofNat 1)]))) aB) (ag (aE (c2 cF (c2 ah (aa s1) (cK (int (ofNat 0)))) (cK (str [110,117,109]))) (ai (av [cK (str [112,111,119]),ao s0,ao s1])) aB) (ag (aE (c2 aF (aa s0) (cK (tup [str [110,117,109],int (ofNat 0),int (ofNat 1)]))) (ag (aE (c2 dq (c2 ah (aa s1) (cK (int (ofNat 1)))) (cK (int (ofNat 0)))) (cS (cK (str [100,105,118,105,115,105,111,110,32,98,121,32,122,101,114,111])) (cK (str [48,32,116,111,32,97,32,112,111,119,101,114,32,98,101,108,111,119,32,48]))) aB) (ai (cK (tup [str [110,117,109],int (ofNat 0),int (ofNat 1)])))) aB) (ag (aE (c2 aF (c2 ah (aa s1) (cK (int (ofNat 2)))) (cK (int (ofNat 1)))) (ai (ae 38 [exp (ae 11 [exp (av [c2 ah (aa s0) (cK (int (ofNat 1))),c2 ah (aa s0) (cK (int (ofNat 2)))]),exp (c2 ah (aa s1) (cK (int (ofNat 1))))])])) aB) (ag (aE (gw (c2 dq (c2 ah (aa s0) (cK (int (ofNat 1)))) (cK (int (ofNat 0)))) (c2 bU (c2 gK (c2 ah (aa s0) (cK (int (ofNat 1)))) (c2 ah (aa s0) (cK (int (ofNat 2))))) (cK (int (ofNat 1000000))))) (ai (ae 46 [slot s0,slot s1])) aB) (ai (ae 48 [slot s0,slot s1])))))))
def zt:ak:=ak.mk 2 (ag (br [(aC,false),(aI,true)] [av [cK (int (ofNat 1)),cK (int (ofNat 1))],ax []]) (ag (bI (two aX bq) (av [av [c2 ah (aa s0) (cK (int (ofNat 1))),cK (int (ofNat 1))],av [c2 ah (aa s0) (cK (int (ofNat 2))),c1 bJ (cK (int (ofNat 1)))]]) (bI (two cj eT) (ae 3 [slot s4]) (ag (aA iD (ae 5 [exp (c2 bg (c2 bg (aa s5) (aa s7)) (c2 ah (aa s1) (cK (int (ofNat 1))))),exp (c2 ah (aa s1) (cK (int (ofNat 2))))])) (ag (aA mJ (ae 13 [slot s8])) (ag (aA aC (ae 7 [slot s2,exp (ae 11 [exp (av [ao s6,cK (int (ofNat 1))]),slot s9])])) (ag (aA n5 (ae 6 [slot s8,exp (av [c1 bJ (aa s9),cK (int (ofNat 1))])])) (aE (c2 cF (c2 ah (aa s10) (cK (int (ofNat 0)))) (cK (int (ofNat 0)))) (df s3 aI (av [cK (str [112,111,119]),av [cK (str [110,117,109]),ao s6,cK (int (ofNat 1))],ae 38 [slot s10]])) aB))))))) (ag (ag (bV s3 aI) (aA aI (ae 37 [slot s3]))) (ag (aE (c2 aF (c1 aD (aa s3)) (cK (int (ofNat 0)))) (ai (ae 38 [slot s2])) aB) (ai (ae 40 [slot s2,exp (aR (c2 aF (c1 aD (aa s3)) (cK (int (ofNat 1)))) (c2 ah (aa s3) (cK (int (ofNat 0)))) (av [cK (str [112,114,111,100]),c1 d0 (aa s3)]))]))))))
def zr:ak:=ak.mk 1 (ag (aA aK (aR (c2 aF (c2 ah (aa s0) (cK (int (ofNat 0)))) (cK (str [115,117,109]))) (c2 ah (c2 ah (aa s0) (cK (int (ofNat 1)))) (cK (int (ofNat 0)))) (ao s0))) (ai (c2 dq (c2 ah (c2 ah (ae 39 [slot s1]) (cK (int (ofNat 0)))) (cK (int (ofNat 0)))) (cK (int (ofNat 0))))))
def zq:ak:=ak.mk 2 (ag (aE (c2 cF (c1 aD (aa s1)) (cK (int (ofNat 1)))) (ai (av [cK (str [99,97,108,108]),ao s0,c1 d0 (aa s1)])) aB) (ag (aA aC (c2 ah (aa s1) (cK (int (ofNat 0))))) (ag (aE (c2 aF (aa s0) (cK (str [101,120,112]))) (ai (ae 51 [slot s2])) aB) (ag (aE (c2 aF (aa s0) (cK (str [108,111,103]))) (ai (ae 52 [slot s2])) aB) (ag (aE (c2 aF (aa s0) (cK (str [115,113,114,116]))) (ai (ae 45 [slot s2,exp (cK (tup [str [110,117,109],int (ofNat 1),int (ofNat 2)]))])) aB) (ag (aE (c2 aF (aa s0) (cK (str [102,97,99,116,111,114,105,97,108]))) (ai (ae 53 [slot s2])) aB) (ag (aE (bL (c2 aF (aa s0) (cK (str [97,98,115]))) (c2 aF (c2 ah (aa s2) (cK (int (ofNat 0)))) (cK (str [110,117,109])))) (ai (av [cK (str [110,117,109]),c1 gB (c2 ah (aa s2) (cK (int (ofNat 1)))),c2 ah (aa s2) (cK (int (ofNat 2)))])) aB) (ag (aE (bL (c2 kc (aa s0) (cK (tup [str [115,105,110],str [116,97,110],str [97,116,97,110]]))) (c2 aF (aa s2) (cK (tup [str [110,117,109],int (ofNat 0),int (ofNat 1)])))) (ai (cK (tup [str [110,117,109],int (ofNat 0),int (ofNat 1)]))) aB) (ag (aE (bL (c2 aF (aa s0) (cK (str [99,111,115]))) (c2 aF (aa s2) (cK (tup [str [110,117,109],int (ofNat 0),int (ofNat 1)])))) (ai (cK (tup [str [110,117,109],int (ofNat 1),int (ofNat 1)]))) aB) (ag (aE (bL (c2 kc (aa s0) (cK (tup [str [115,105,110],str [116,97,110],str [97,116,97,110]]))) (ae 49 [slot s2])) (ai (ae 44 [exp (ax [cK (tup [str [110,117,109],int (negSucc 0),int (ofNat 1)]),ae 54 [slot s0,exp (ax [ae 50 [slot s2]])]])])) aB) (ag (aE (bL (c2 kc (aa s0) (av [cK (str [99,111,115]),cK (str [97,98,115])])) (ae 49 [slot s2])) (ai (ae 54 [slot s0,exp (ax [ae 50 [slot s2]])])) aB) (ai (av [cK (str [99,97,108,108]),ao s0,av [ao s2]])))))))))))))
def zp:ak:=ak.mk 1 (ag (aA aK (c2 ah (aa s0) (cK (int (ofNat 0))))) (ag (aE (c2 aF (aa s1) (cK (str [110,117,109]))) (ai (ae 38 [exp (ae 5 [exp (c2 ah (aa s0) (cK (int (ofNat 1)))),exp (c2 ah (aa s0) (cK (int (ofNat 2))))])])) aB) (ag (aE (c2 aF (aa s1) (cK (str [115,121,109]))) (ai (ao s0)) aB) (ag (aE (c2 aF (aa s1) (cK (str [112,111,119]))) (ai (ae 45 [exp (ae 55 [exp (c2 ah (aa s0) (cK (int (ofNat 1))))]),exp (ae 55 [exp (c2 ah (aa s0) (cK (int (ofNat 2))))])])) aB) (ag (aE (c2 aF (aa s1) (cK (str [99,97,108,108]))) (ai (ae 54 [exp (c2 ah (aa s0) (cK (int (ofNat 1)))),exp (bt (bB (one aI) (c2 ah (aa s0) (cK (int (ofNat 2)))) [] (bF (ae 55 [slot s3]))))])) aB) (ag (aE (c2 aF (aa s1) (cK (str [101,113]))) (ai (av [cK (str [101,113]),ae 55 [exp (c2 ah (aa s0) (cK (int (ofNat 1))))],ae 55 [exp (c2 ah (aa s0) (cK (int (ofNat 2))))]])) aB) (ag (aA aC (bt (bB (one aI) (c2 ah (aa s0) (cK (int (ofNat 1)))) [] (bF (ae 55 [slot s3]))))) (ag (aE (c2 aF (aa s1) (cK (str [115,117,109]))) (ai (ae 42 [slot s2])) aB) (ai (aR (c2 aF (aa s1) (cK (str [112,114,111,100]))) (ae 44 [slot s2]) (av [cK (str [108,105,115,116]),c1 d0 (aa s2)])))))))))))
def zo:ak:=ak.mk 1 (ai (aR (c2 aF (c2 ah (aa s0) (cK (int (ofNat 0)))) (cK (str [115,117,109]))) (c1 cV (c2 ah (aa s0) (cK (int (ofNat 1))))) (ax [ao s0])))
def zm:ak:=ak.mk 2 (ag (aE (bL (c2 cF (c2 ah (aa s0) (cK (int (ofNat 0)))) (cK (str [115,117,109]))) (c2 cF (c2 ah (aa s1) (cK (int (ofNat 0)))) (cK (str [115,117,109])))) (ai (ae 44 [exp (ax [ao s0,ao s1])])) aB) (ai (ae 42 [exp (bt (bB (one aC) (ae 56 [slot s0]) [] (bB (one aI) (ae 56 [slot s1]) [] (bF (ae 57 [slot s2,slot s3])))))])))
def zl:ak:=ak.mk 1 (ag (aA aK (cK (tup [str [110,117,109],int (ofNat 1),int (ofNat 1)]))) (ag (bI (one aC) (ao s0) (aA aK (ae 57 [slot s1,slot s2]))) (ai (ao s1))))
def zk:ak:=ak.mk 2 (ag (aE (gw (c1 hJ (ae 21 [slot s1])) (c2 cF (c2 ah (aa s0) (cK (int (ofNat 0)))) (cK (str [115,117,109])))) (ai (ae 45 [slot s0,slot s1])) aB) (ag (aE (c2 bU (c2 ah (aa s1) (cK (int (ofNat 1)))) (cK (int (ofNat 0)))) (ai (ae 59 [slot s0,exp (c2 ah (aa s1) (cK (int (ofNat 1))))])) aB) (ai (ae 45 [exp (ae 59 [slot s0,exp (c1 bJ (c2 ah (aa s1) (cK (int (ofNat 1)))))]),exp (cK (tup [str [110,117,109],int (negSucc 0),int (ofNat 1)]))]))))
def zj:ak:=ak.mk 1 (ag (aA aK (c2 ah (aa s0) (cK (int (ofNat 0))))) (ag (aE (c2 kc (aa s1) (av [cK (str [110,117,109]),cK (str [115,121,109])])) (ai (ao s0)) aB) (ag (aE (c2 aF (aa s1) (cK (str [115,117,109]))) (ai (ae 42 [exp (bt (bB (one aC) (c2 ah (aa s0) (cK (int (ofNat 1)))) [] (bF (ae 61 [slot s2]))))])) aB) (ag (aE (c2 aF (aa s1) (cK (str [112,114,111,100]))) (ai (ae 58 [exp (bt (bB (one aC) (c2 ah (aa s0) (cK (int (ofNat 1)))) [] (bF (ae 61 [slot s2]))))])) aB) (ag (aE (c2 aF (aa s1) (cK (str [112,111,119]))) (ai (ae 60 [exp (ae 61 [exp (c2 ah (aa s0) (cK (int (ofNat 1))))]),exp (ae 61 [exp (c2 ah (aa s0) (cK (int (ofNat 2))))])])) aB) (ag (aE (c2 aF (aa s1) (cK (str [99,97,108,108]))) (ai (ae 54 [exp (c2 ah (aa s0) (cK (int (ofNat 1)))),exp (bt (bB (one aC) (c2 ah (aa s0) (cK (int (ofNat 2)))) [] (bF (ae 61 [slot s2]))))])) aB) (ag (aE (c2 aF (aa s1) (cK (str [101,113]))) (ai (av [cK (str [101,113]),ae 61 [exp (c2 ah (aa s0) (cK (int (ofNat 1))))],ae 61 [exp (c2 ah (aa s0) (cK (int (ofNat 2))))]])) aB) (ai (av [cK (str [108,105,115,116]),c1 d0 (bt (bB (one aC) (c2 ah (aa s0) (cK (int (ofNat 1)))) [] (bF (ae 61 [slot s2]))))])))))))))
def zi:ak:=ak.mk 1 (ag (br [(aK,false),(aC,false)] [cK none,ae 55 [slot s0]]) (ag (bC (c2 cF (aa s2) (aa s1)) (br [(aK,false),(aC,false)] [ao s2,ae 61 [slot s2]])) (ai (ao s2))))
def zh:ak:=ak.mk 1 (ag (aA aK (c1 aD (aa s0))) (ag (bC (bL (c2 bU (aa s1) (cK (int (ofNat 0)))) (c2 aF (c2 ah (aa s0) (c2 bj (aa s1) (cK (int (ofNat 1))))) (cK (int (ofNat 0))))) (aA aK (c2 (eY dw) (ao s1) (cK (int (ofNat 1)))))) (ai (c1 cV (cz (aa s0) none (some (aa s1)))))))
def zg:ak:=ak.mk 1 (ai (c2 bj (c1 aD (aa s0)) (cK (int (ofNat 1)))))
def zf:ak:=ak.mk 1 (ai (aR (c2 bU (c1 aD (aa s0)) (cK (int (ofNat 0)))) (c2 ah (aa s0) (c1 bJ (cK (int (ofNat 1))))) (cK (int (ofNat 0)))))
def ze:ak:=ak.mk 2 (ag (aA aC (c2 gK (c1 aD (aa s0)) (c1 aD (aa s1)))) (ai (ae 63 [exp (bt (bB (one aI) (c1 eA (aa s2)) [] (bF (c2 ba (aR (c2 dq (aa s3) (c1 aD (aa s0))) (c2 ah (aa s0) (aa s3)) (cK (int (ofNat 0)))) (aR (c2 dq (aa s3) (c1 aD (aa s1))) (c2 ah (aa s1) (aa s3)) (cK (int (ofNat 0))))))))])))
def zd:ak:=ak.mk 1 (ai (bt (bB (one aK) (aa s0) [] (bF (c1 bJ (aa s1))))))
def zc:ak:=ak.mk 2 (ai (ae 66 [slot s0,exp (ae 67 [slot s1])]))
def zb:ak:=ak.mk 2 (ai (aR (c2 cF (aa s1) (cK (int (ofNat 0)))) (bt (bB (one aC) (aa s0) [] (bF (c2 bg (aa s2) (aa s1))))) (ax [])))
def za:ak:=ak.mk 2 (ai (aR (c2 bU (c1 aD (aa s0)) (cK (int (ofNat 0)))) (c2 ba (c2 bg (ax [cK (int (ofNat 0))]) (aa s1)) (c1 cV (aa s0))) (ax [])))
def y9:ak:=ak.mk 1 (ai (ae 1 [slot s0]))
def y8:ak:=ak.mk 2 (ai (bt (bB (one aC) (aa s0) [] (bF (c2 dS (aa s2) (aa s1))))))
def y7:ak:=ak.mk 1 (ag (aE (c2 aF (c1 aD (aa s0)) (cK (int (ofNat 0)))) (ai (ax [])) aB) (ag (aA aK (ae 71 [slot s0])) (ai (ae 72 [slot s0,exp (aR (c2 bU (c2 ah (aa s0) (c1 bJ (cK (int (ofNat 1))))) (cK (int (ofNat 0)))) (ao s1) (c1 bJ (aa s1)))]))))
def y6:ak:=ak.mk 1 (ai (cz (bt (bB (two aK aC) (c1 gM (aa s0)) [] (bF (c2 bg (aa s2) (aa s1))))) (some (cK (int (ofNat 1)))) none))
def y5:ak:=ak.mk 1 (ag (aA aK (c1 aD (aa s0))) (ag (bC (bL (c2 bU (aa s1) (cK (int (ofNat 0)))) (c2 aF (c2 ah (c2 ah (aa s0) (c2 bj (aa s1) (cK (int (ofNat 1))))) (cK (int (ofNat 0)))) (cK (int (ofNat 0))))) (aA aK (c2 (eY dw) (ao s1) (cK (int (ofNat 1)))))) (ai (c1 cV (cz (aa s0) none (some (aa s1)))))))
def y4:ak:=ak.mk 1 (ai (c2 bj (c1 aD (aa s0)) (cK (int (ofNat 1)))))
def y3:ak:=ak.mk 1 (ai (aR (c2 bU (c1 aD (aa s0)) (cK (int (ofNat 0)))) (c2 ah (aa s0) (c1 bJ (cK (int (ofNat 1))))) (cK (tup [int (ofNat 0),int (ofNat 1)]))))
def y1:ak:=ak.mk 2 (ag (aA aC (c2 gK (c1 aD (aa s0)) (c1 aD (aa s1)))) (ai (ae 75 [exp (bt (bB (one aI) (c1 eA (aa s2)) [] (bF (ae 6 [exp (aR (c2 dq (aa s3) (c1 aD (aa s0))) (c2 ah (aa s0) (aa s3)) (cK (tup [int (ofNat 0),int (ofNat 1)]))),exp (aR (c2 dq (aa s3) (c1 aD (aa s1))) (c2 ah (aa s1) (aa s3)) (cK (tup [int (ofNat 0),int (ofNat 1)])))]))))])))
def y0:ak:=ak.mk 1 (ai (bt (bB (one aK) (aa s0) [] (bF (ae 9 [slot s1])))))
def yZ:ak:=ak.mk 2 (ai (ae 78 [slot s0,exp (ae 79 [slot s1])]))
def yY:ak:=ak.mk 2 (ai (aR (c2 cF (c2 ah (aa s1) (cK (int (ofNat 0)))) (cK (int (ofNat 0)))) (bt (bB (one aC) (aa s0) [] (bF (ae 7 [slot s2,slot s1])))) (ax [])))
def yX:ak:=ak.mk 2 (ai (aR (c2 bU (c1 aD (aa s0)) (cK (int (ofNat 0)))) (c2 ba (c2 bg (ax [cK (tup [int (ofNat 0),int (ofNat 1)])]) (aa s1)) (c1 cV (aa s0))) (ax [])))
def yW:ak:=ak.mk 2 (ag (aE (gw (c2 aF (c1 aD (aa s0)) (cK (int (ofNat 0)))) (c2 aF (c1 aD (aa s1)) (cK (int (ofNat 0))))) (ai (ax [])) aB) (ag (fT aC (c2 bg (ax [cK (tup [int (ofNat 0),int (ofNat 1)])]) (c2 bj (c2 ba (c1 aD (aa s0)) (c1 aD (aa s1))) (cK (int (ofNat 1)))))) (ag (bI (two aI aX) (c1 gM (ao s0)) (bI (two bq cj) (c1 gM (ao s1)) (dW s2 aC (c2 ba (aa s3) (aa s5)) (ae 6 [exp (c2 ah (aa s2) (c2 ba (aa s3) (aa s5))),exp (ae 7 [slot s4,slot s6])])))) (ag (bV s2 aC) (ai (ao s2))))))
def yV:ak:=ak.mk 2 (ag (aE (c2 aF (c1 aD (aa s1)) (cK (int (ofNat 0)))) (cS (cK (str [100,105,118,105,115,105,111,110,32,98,121,32,122,101,114,111])) (cK (str [97,32,112,111,108,121,110,111,109,105,97,108,32,105,115,32,100,105,118,105,100,101,100,32,98,121,32,48]))) aB) (ag (br [(aC,false),(aI,true)] [c1 cV (aa s0),c2 bg (ax [cK (tup [int (ofNat 0),int (ofNat 1)])]) (c2 gK (cK (int (ofNat 0))) (c2 ba (c2 bj (c1 aD (aa s0)) (c1 aD (aa s1))) (cK (int (ofNat 1)))))]) (ag (bC (c2 pq (c1 aD (aa s2)) (c1 aD (aa s1))) (ag (br [(aX,false),(bq,false)] [ae 8 [exp (c2 ah (aa s2) (c1 bJ (cK (int (ofNat 1))))),exp (c2 ah (aa s1) (c1 bJ (cK (int (ofNat 1)))))],c2 bj (c1 aD (aa s2)) (c1 aD (aa s1))]) (ag (dW s3 aI (aa s5) (ao s4)) (ag (aA cj (ae 80 [exp (cz (aa s2) none (some (c1 bJ (cK (int (ofNat 1)))))),exp (ae 82 [exp (ae 81 [exp (cz (aa s1) none (some (c1 bJ (cK (int (ofNat 1)))))),slot s4]),slot s5])])) (aA aC (ao s6)))))) (ag (bV s3 aI) (ai (av [ae 75 [slot s3],ao s2]))))))
def yU:ak:=ak.mk 1 (ai (aR (c2 bU (c1 aD (aa s0)) (cK (int (ofNat 0)))) (ae 81 [slot s0,exp (ae 10 [exp (c2 ah (aa s0) (c1 bJ (cK (int (ofNat 1)))))])]) (ax [])))
def yT:ak:=ak.mk 2 (ag (bC (c2 bU (c1 aD (aa s1)) (cK (int (ofNat 0)))) (br [(fS,false),(aK,false)] [ao s1,ae 85 [exp (c2 ah (ae 84 [slot s0,slot s1]) (cK (int (ofNat 1))))]])) (ai (ae 85 [slot s0])))
def yS:ak:=ak.mk 1 (ag (aE (c2 aF (c1 aD (aa s0)) (cK (int (ofNat 0)))) (ai (av [ax [],cK (tup [int (ofNat 0),int (ofNat 1)])])) aB) (ag (aA aK (cK (int (ofNat 1)))) (ag (bI (one aC) (ao s0) (aA aK (c2 bg (c2 dS (aa s1) (ae 0 [slot s1,exp (c2 ah (aa s2) (cK (int (ofNat 1))))])) (c2 ah (aa s2) (cK (int (ofNat 1))))))) (ag (aA aI (bt (bB (one bq) (aa s0) [] (bF (c2 bg (c2 ah (aa s5) (cK (int (ofNat 0)))) (c2 dS (aa s1) (c2 ah (aa s5) (cK (int (ofNat 1)))))))))) (ag (aA aX (ae 71 [slot s3])) (ai (av [ae 73 [slot s3],ae 5 [exp (aR (c2 bU (c2 ah (aa s3) (c1 bJ (cK (int (ofNat 1))))) (cK (int (ofNat 0)))) (ao s4) (c1 bJ (aa s4))),slot s1]])))))))
def yR:ak:=ak.mk 2 (ag (aE (c2 aF (aa s1) (ax [])) (cS (cK (str [100,105,118,105,115,105,111,110,32,98,121,32,122,101,114,111])) (cK (str [97,32,114,97,116,105,111,110,97,108,32,116,101,114,109,32,119,105,116,104,111,117,116,32,97,32,98,111,116,116,111,109]))) aB) (ag (aE (c2 aF (aa s0) (ax [])) (ai (cK (tup [lst [],lst [tup [int (ofNat 1),int (ofNat 1)]]]))) aB) (ag (aA aC (ae 86 [slot s0,slot s1])) (ag (aE (c2 bU (ae 76 [slot s2]) (cK (int (ofNat 0)))) (br [(fS,false),(aK,false)] [c2 ah (ae 84 [slot s0,slot s2]) (cK (int (ofNat 0))),c2 ah (ae 84 [slot s1,slot s2]) (cK (int (ofNat 0)))]) aB) (ag (aA aI (ae 10 [exp (ae 77 [slot s1])])) (ai (av [ae 81 [slot s0,slot s3],ae 81 [slot s1,slot s3]])))))))
def yQ:ak:=ak.mk 1 (ai (av [aR (c2 aF (aa s0) (cK (tup [int (ofNat 0),int (ofNat 1)]))) (ax []) (ax [ao s0]),ax [cK (tup [int (ofNat 1),int (ofNat 1)])]]))
def yP:ak:=ak.mk 2 (ai (ae 88 [exp (ae 78 [exp (ae 83 [exp (c2 ah (aa s0) (cK (int (ofNat 0)))),exp (c2 ah (aa s1) (cK (int (ofNat 1))))]),exp (ae 83 [exp (c2 ah (aa s1) (cK (int (ofNat 0)))),exp (c2 ah (aa s0) (cK (int (ofNat 1))))])]),exp (ae 83 [exp (c2 ah (aa s0) (cK (int (ofNat 1)))),exp (c2 ah (aa s1) (cK (int (ofNat 1))))])]))
def yO:ak:=ak.mk 2 (ai (ae 88 [exp (ae 83 [exp (c2 ah (aa s0) (cK (int (ofNat 0)))),exp (c2 ah (aa s1) (cK (int (ofNat 0))))]),exp (ae 83 [exp (c2 ah (aa s0) (cK (int (ofNat 1)))),exp (c2 ah (aa s1) (cK (int (ofNat 1))))])]))
def yN:ak:=ak.mk 2 (ag (br [(aC,false),(aI,false),(aX,false)] [cK (tup [lst [tup [int (ofNat 1),int (ofNat 1)]],lst [tup [int (ofNat 1),int (ofNat 1)]]]),aR (c2 dq (aa s1) (cK (int (ofNat 0)))) (ae 92 [slot s0]) (ao s0),c1 gB (aa s1)]) (ag (bC (c2 bU (aa s4) (cK (int (ofNat 0)))) (ag (aE (c2 aF (c2 eC (aa s4) (cK (int (ofNat 2)))) (cK (int (ofNat 1)))) (aA aC (ae 91 [slot s2,slot s3])) aB) (br [(aI,false),(aX,false)] [aR (c2 bU (aa s4) (cK (int (ofNat 1)))) (ae 91 [slot s3,slot s3]) (ao s3),c2 dS (aa s4) (cK (int (ofNat 2)))]))) (ai (ao s2))))
def yM:ak:=ak.mk 1 (ai (aR (bL (c2 aF (c2 ah (aa s0) (cK (int (ofNat 0)))) (cK (str [110,117,109]))) (c2 aF (c2 ah (aa s0) (cK (int (ofNat 2)))) (cK (int (ofNat 1))))) (c2 ah (aa s0) (cK (int (ofNat 1)))) (cK none)))
def yL:ak:=ak.mk 2 (ag (aE (c2 aF (c2 ah (aa s0) (cK (int (ofNat 0)))) (cK (str [110,117,109]))) (ai (ae 89 [exp (ae 5 [exp (c2 ah (aa s0) (cK (int (ofNat 1)))),exp (c2 ah (aa s0) (cK (int (ofNat 2))))])])) aB) (ag (aE (c2 aF (c2 ah (aa s0) (cK (int (ofNat 0)))) (cK (str [115,121,109]))) (ai (aR (c2 aF (c2 ah (aa s0) (cK (int (ofNat 1)))) (aa s1)) (av [ax [cK (tup [int (ofNat 0),int (ofNat 1)]),cK (tup [int (ofNat 1),int (ofNat 1)])],ax [cK (tup [int (ofNat 1),int (ofNat 1)])]]) (cK none))) aB) (ag (aE (c2 aF (c2 ah (aa s0) (cK (int (ofNat 0)))) (cK (str [112,111,119]))) (ag (br [(aC,false),(aI,false)] [ae 95 [exp (c2 ah (aa s0) (cK (int (ofNat 1)))),slot s1],ae 94 [exp (c2 ah (aa s0) (cK (int (ofNat 2))))]]) (ai (aR (gw (c2 kR (aa s2) (cK none)) (gw (c2 kR (aa s3) (cK none)) (bL (c2 dq (aa s3) (cK (int (ofNat 0)))) (c2 aF (c2 ah (aa s2) (cK (int (ofNat 0)))) (ax []))))) (cK none) (ae 93 [slot s2,slot s3])))) aB) (ag (aE (bL (c2 cF (c2 ah (aa s0) (cK (int (ofNat 0)))) (cK (str [115,117,109]))) (c2 cF (c2 ah (aa s0) (cK (int (ofNat 0)))) (cK (str [112,114,111,100])))) (ai (cK none)) aB) (ag (aA aX (aR (c2 aF (c2 ah (aa s0) (cK (int (ofNat 0)))) (cK (str [115,117,109]))) (cK (tup [lst [],lst [tup [int (ofNat 1),int (ofNat 1)]]])) (cK (tup [lst [tup [int (ofNat 1),int (ofNat 1)]],lst [tup [int (ofNat 1),int (ofNat 1)]]])))) (ag (bI (one bq) (c2 ah (aa s0) (cK (int (ofNat 1)))) (ag (aA cj (ae 95 [slot s5,slot s1])) (ag (aE (c2 kR (aa s6) (cK none)) (ai (cK none)) aB) (aA aX (aR (c2 aF (c2 ah (aa s0) (cK (int (ofNat 0)))) (cK (str [115,117,109]))) (ae 90 [slot s4,slot s6]) (ae 91 [slot s4,slot s6])))))) (ai (ao s4))))))))
def yK:ak:=ak.mk 1 (aE (c2 aF (c1 aD (aa s0)) (cK (int (ofNat 0)))) (cS (cK (str [100,105,118,105,115,105,111,110,32,98,121,32,122,101,114,111])) (cK (str [97,32,112,111,108,121,110,111,109,105,97,108,32,105,115,32,100,105,118,105,100,101,100,32,98,121,32,48]))) aB)
def yJ:ak:=ak.mk 2 (ag (rn (ae 96 [slot s1])) (ag (br [(aC,false),(aI,true)] [c1 cV (aa s0),c2 bg (ax [cK (int (ofNat 0))]) (c2 gK (cK (int (ofNat 0))) (c2 ba (c2 bj (c1 aD (aa s0)) (c1 aD (aa s1))) (cK (int (ofNat 1)))))]) (ag (bC (c2 pq (c1 aD (aa s2)) (c1 aD (aa s1))) (ag (aE (c2 cF (c2 eC (c2 ah (aa s2) (c1 bJ (cK (int (ofNat 1))))) (c2 ah (aa s1) (c1 bJ (cK (int (ofNat 1)))))) (cK (int (ofNat 0)))) (ai (cK none)) aB) (ag (br [(aX,false),(bq,false)] [c2 dS (c2 ah (aa s2) (c1 bJ (cK (int (ofNat 1))))) (c2 ah (aa s1) (c1 bJ (cK (int (ofNat 1))))),c2 bj (c1 aD (aa s2)) (c1 aD (aa s1))]) (ag (dW s3 aI (aa s5) (ao s4)) (aA aC (ae 68 [slot s2,exp (ae 70 [exp (ae 69 [slot s1,slot s4]),slot s5])])))))) (ag (bV s3 aI) (ai (aR (c2 aF (c1 aD (aa s2)) (cK (int (ofNat 0)))) (ae 63 [slot s3]) (cK none)))))))
def yI:ak:=ak.mk 2 (ag (rn (ae 96 [slot s1])) (ag (aA aC (c2 gK (cK (int (ofNat 0))) (c2 ba (c2 bj (c1 aD (aa s0)) (c1 aD (aa s1))) (cK (int (ofNat 1)))))) (ag (br [(aI,false),(aX,false),(bq,false),(cj,false)] [c1 cV (aa s0),ax [],ao s2,ae 65 [slot s1]]) (ag (bC (c2 pq (c1 aD (aa s3)) (c1 aD (aa s1))) (ag (br [(eT,false),(iD,false)] [c2 ah (aa s3) (c1 bJ (cK (int (ofNat 1)))),c2 bj (c1 aD (aa s3)) (c1 aD (aa s1))]) (ag (aA aX (ae 68 [exp (ae 69 [slot s4,slot s6]),exp (ae 70 [exp (ax [c1 bJ (aa s7)]),slot s8])])) (ag (aA aI (ae 68 [exp (ae 69 [slot s3,slot s6]),exp (ae 70 [exp (ae 69 [slot s1,slot s7]),slot s8])])) (aA bq (c2 (eY dw) (ao s5) (cK (int (ofNat 1))))))))) (ag (aA mJ (c2 iF (aa s6) (aa s5))) (ai (av [ae 69 [slot s4,slot s9],ae 69 [slot s3,slot s9],ao s2])))))))
def yH:ak:=ak.mk 2 (ai (c2 ah (ae 98 [slot s0,slot s1]) (cK (int (ofNat 1)))))
def vX:ak:=ak.mk 3 (ag (aE (c2 aF (aa s1) (cK (int (ofNat 0)))) (ai (ao s2)) aB) (ai (c2 dS (c2 iF (aa s0) (aa s1)) (c2 iF (aa s2) (c2 bj (aa s1) (cK (int (ofNat 1))))))))
def vW:ak:=ak.mk 2 (ag (aE (c2 dq (c1 aD (aa s0)) (c1 aD (aa s1))) (br [(fS,false),(aK,false)] [ao s1,ao s0]) aB) (ag (br [(aC,true),(aI,false),(aX,false)] [ax [c1 cV (aa s0),c1 cV (aa s1)],cK (int (ofNat 1)),cK (int (ofNat 1))]) (ag (bC (c2 bU (c1 aD (aa s1)) (cK (int (ofNat 1)))) (ag (aA bq (c2 bj (c1 aD (aa s0)) (c1 aD (aa s1)))) (ag (aA cj (ae 99 [slot s0,slot s1])) (ag (aE (c2 aF (c1 aD (aa s6)) (cK (int (ofNat 0)))) (ag (bV s2 aC) (ai (ao s2))) aB) (ag (br [(fS,false),(aK,false)] [ao s1,ae 72 [slot s6,exp (c2 bg (aa s3) (c2 iF (aa s4) (aa s5)))]]) (ag (df s2 aC (ao s1)) (ag (aA aI (ae 65 [slot s0])) (aA aX (ae 100 [slot s3,slot s5,slot s4]))))))))) (ag (bV s2 aC) (ai (ao s2))))))
def vV:ak:=ak.mk 2 (ag (aE (gw (c2 aF (c1 aD (aa s0)) (cK (int (ofNat 0)))) (c2 aF (c1 aD (aa s1)) (cK (int (ofNat 0))))) (ag (aA aC (aR (c2 aF (c1 aD (aa s0)) (cK (int (ofNat 0)))) (ao s1) (ao s0))) (ai (ae 69 [exp (ae 73 [slot s2]),exp (ae 71 [slot s2])]))) aB) (ag (aA aI (ae 0 [exp (ae 71 [slot s0]),exp (ae 71 [slot s1])])) (ag (aA aX (c2 ah (ae 101 [exp (ae 73 [slot s0]),exp (ae 73 [slot s1])]) (c1 bJ (cK (int (ofNat 1)))))) (ai (aR (c2 bU (c1 aD (aa s4)) (cK (int (ofNat 1)))) (ae 69 [exp (ae 73 [slot s4]),slot s3]) (ax [ao s3]))))))
def vU:ak:=ak.mk 1 (ai (c2 bj (c2 bU (aa s0) (cK (int (ofNat 0)))) (c2 dq (aa s0) (cK (int (ofNat 0))))))
def vT:ak:=ak.mk 2 (ag (eU [aC,aI] (ao s1)) (ag (br [(aX,false),(bq,false)] [cK (int (ofNat 0)),cK (int (ofNat 1))]) (ag (bI (one cj) (c1 iE (ao s0)) (ag (aA aX (c2 ba (c2 bg (aa s4) (aa s2)) (c2 bg (aa s6) (aa s5)))) (aA bq (c2 bg (aa s5) (aa s3))))) (ai (ae 103 [slot s4])))))
def vS:ak:=ak.mk 2 (ai (aR (c1 ff (aa s1)) (ae 105 [slot s0,slot s1]) (ae 104 [slot s0,slot s1])))
def vR:ak:=ak.mk 1 (ag (aA aK (ae 102 [slot s0,exp (ae 74 [slot s0])])) (ai (aR (c2 bU (ae 64 [slot s1]) (cK (int (ofNat 0)))) (ae 97 [slot s0,slot s1]) (ao s0))))
def vQ:ak:=ak.mk 1 (ag (aA aK (ae 71 [slot s0])) (ai (aR (c2 bU (aa s1) (cK (int (ofNat 1)))) (bt (bB (one aC) (aa s0) [] (bF (c2 dS (aa s2) (aa s1))))) (ao s0))))
def vP:ak:=ak.mk 2 (ag (eU [aC,aI,aX] (ae 98 [slot s0,slot s1])) (ag (aE (bL (c2 aF (c2 eC (aa s4) (cK (int (ofNat 2)))) (cK (int (ofNat 1)))) (c2 dq (ae 65 [slot s1]) (cK (int (ofNat 0))))) (ai (ae 108 [slot s3])) aB) (ai (ae 108 [exp (ae 67 [slot s3])]))))
def vO:ak:=ak.mk 1 (ag (br [(aK,true),(aC,false)] [ax [ao s0],ae 74 [slot s0]]) (ag (bC (c2 cF (aa s2) (ax [])) (ag (df s1 aK (ao s2)) (aA aC (ae 109 [exp (c2 ah (aa s1) (c1 bJ (cK (int (ofNat 2))))),exp (c2 ah (aa s1) (c1 bJ (cK (int (ofNat 1)))))])))) (ag (bV s1 aK) (ai (ao s1)))))
def vN:ak:=ak.mk 2 (ag (aA aC (bt (bB (one aI) (aa s0) [] (bF (ae 106 [slot s3,slot s1]))))) (ag (aA aC (bt (bB (one aI) (aa s2) [c2 cF (aa s3) (cK (int (ofNat 0)))] (bF (ao s3))))) (ai (c1 aD (bt (bB (one aI) (c2 dO (cK (int (ofNat 1))) (c1 aD (aa s2))) [c2 cF (c2 ah (aa s2) (aa s3)) (c2 ah (aa s2) (c2 bj (aa s3) (cK (int (ofNat 1)))))] (bF (cK (int (ofNat 1))))))))))
def vM:ak:=ak.mk 3 (ai (c2 bj (ae 111 [slot s0,slot s1]) (ae 111 [slot s0,slot s2])))
def vL:ak:=ak.mk 1 (ag (aA aK (c1 maxF (bt (bB (one aC) (aa s0) [] (bF (c1 gB (aa s2))))))) (ai (c2 ba (cK (int (ofNat 2))) (c2 dS (aa s1) (c1 gB (ae 65 [slot s0]))))))
def vK:ak:=ak.mk 2 (ai (ae 7 [exp (ae 6 [slot s0,slot s1]),exp (cK (tup [int (ofNat 1),int (ofNat 2)]))]))
def vJ:ak:=ak.mk 1 (ai (ax [c1 bJ (c2 ah (aa s0) (cK (int (ofNat 0)))),c2 ah (aa s0) (cK (int (ofNat 1)))]))
def vI:ak:=ak.mk 1 (ag (br [(aK,false),(aC,false)] [ae 110 [slot s0],ae 113 [slot s0]]) (ag (br [(aI,true),(aX,true)] [ax [av [av [c1 bJ (aa s2),cK (int (ofNat 1))],av [ao s2,cK (int (ofNat 1))]]],ax []]) (ag (bC (c2 cF (aa s3) (ax [])) (ag (sPop [bq,cj] s3 aI) (ag (aA eT (ae 112 [slot s1,slot s5,slot s6])) (aE (c2 aF (aa s7) (cK (int (ofNat 1)))) (df s4 aX (av [ao s5,ao s6])) (aE (c2 bU (aa s7) (cK (int (ofNat 1)))) (ag (aA iD (ae 114 [slot s5,slot s6])) (ag (aE (c2 aF (ae 104 [slot s0,slot s8]) (cK (int (ofNat 0)))) (ai (av [ax [],ao s8])) aB) (ag (df s3 aI (av [ao s8,ao s6])) (df s3 aI (av [ao s5,ao s8]))))) aB))))) (ag (bV s4 aX) (ai (av [ao s4,cK none]))))))
def vH:ak:=ak.mk 1 (ag (aE (c2 aF (aa s0) (ax [])) (cS (cK (str [100,111,109,97,105,110])) (cK (str [101,97,99,104,32,110,117,109,98,101,114,32,105,115,32,97,32,114,111,111,116,32,111,102,32,48]))) aB) (ag (br [(aK,false),(aC,true)] [ae 107 [slot s0],ax []]) (ag (eU [aI,aX] (aR (c2 bU (ae 64 [slot s1]) (cK (int (ofNat 0)))) (ae 117 [slot s1]) (av [ax [],cK none]))) (ag (bC (c2 n9 (aa s4) (cK none)) (ag (df s2 aC (ao s4)) (ag (aA aK (ae 97 [slot s1,exp (ae 115 [slot s4])])) (eU [aI,aX] (aR (c2 bU (ae 64 [slot s1]) (cK (int (ofNat 0)))) (ae 117 [slot s1]) (av [ax [],cK none])))))) (ag (ag (bV s2 aC) (aA bq (c2 ba (bt (bB (one cj) (aa s2) [] (bF (av [ao s6,ao s6])))) (eH [s2] (bt (bB (one cj) (aa s3) [] (bF (ae 119 [slot s1,slot s6,slot s2])))))))) (ai (ae 120 [slot s5])))))))
def vG:ak:=ak.mk 3 (ag (bC (bL (c2 cF (c2 ah (aa s1) (cK (int (ofNat 0)))) (c2 ah (aa s1) (cK (int (ofNat 1))))) (c1 anyF (bt (bB (one aI) (aa s2) [] (bF (ae 116 [slot s3,slot s1])))))) (aA aK (ae 121 [slot s0,slot s1]))) (ai (ao s1)))
def vF:ak:=ak.mk 1 (ag (fT aK (ax [])) (ag (bI (one aC) (ao s0) (ag (aA aI (cK (int (ofNat 0)))) (ag (bC (bL (c2 dq (aa s3) (c1 aD (aa s1))) (c2 dq (ae 12 [exp (c2 ah (c2 ah (aa s1) (aa s3)) (cK (int (ofNat 1)))),exp (c2 ah (aa s2) (cK (int (ofNat 1))))]) (cK (int (ofNat 0))))) (aA aI (c2 (eY bR) (ao s3) (cK (int (ofNat 1)))))) (oE s1 aK (aa s3) (ao s2))))) (ag (bV s1 aK) (ai (ao s1)))))
def vE:ak:=ak.mk 1 (ag (br [(aK,false),(aC,true)] [ao s0,ax []]) (ag (bC (bL (c2 bU (c1 aD (aa s1)) (cK (int (ofNat 0)))) (c2 aF (c2 ah (aa s1) (cK (int (ofNat 0)))) (cK (int (ofNat 0))))) (aA aK (cz (aa s1) (some (cK (int (ofNat 1)))) none))) (ag (aE (c2 dq (c1 aD (aa s1)) (c1 aD (aa s0))) (df s2 aC (av [av [cK (int (ofNat 0)),cK (int (ofNat 1))],c2 bj (c1 aD (aa s0)) (c1 aD (aa s1))])) aB) (ag (bI (one aI) (ae 123 [slot s1]) (ag (aA aX (cK (int (ofNat 0)))) (ag (bC (bL (c2 bU (ae 64 [slot s1]) (cK (int (ofNat 0)))) (c2 aF (ae 104 [slot s1,slot s3]) (cK (int (ofNat 0))))) (ag (aA aK (ae 97 [slot s1,exp (ae 115 [slot s3])])) (aA aX (c2 (eY bR) (ao s4) (cK (int (ofNat 1))))))) (aE (c2 bU (aa s4) (cK (int (ofNat 0)))) (df s2 aC (av [ao s3,ao s4])) aB)))) (ag (bV s2 aC) (ai (ae 124 [slot s2])))))))
def vD:ak:=ak.mk 1 (ag (aE (c2 dq (ae 64 [slot s0]) (cK (int (ofNat 1)))) (ai (ax [])) aB) (ag (br [(aK,true),(aC,true)] [cK (aQ [] []),ax []]) (ag (bI (one aI) (ae 4 [exp (c1 gB (c2 ah (aa s0) (cK (int (ofNat 0)))))]) (bI (one aX) (ae 4 [exp (c1 gB (c2 ah (aa s0) (c1 bJ (cK (int (ofNat 1))))))]) (bI (one bq) (av [ae 5 [slot s3,slot s4],ae 5 [exp (c1 bJ (aa s3)),slot s4]]) (aE (c2 tY (aa s5) (aa s1)) (ag (dW s1 aK (aa s5) (cK (bool true))) (df s2 aC (ao s5))) aB)))) (ag (bV s2 aC) (ai (ao s2))))))
def vC:ak:=ak.mk 1 (ag (fT aK (ax [])) (ag (bI (one aC) (ao s0) (ag (aA aI (cK (int (ofNat 0)))) (ag (bC (bL (c2 dq (aa s3) (c1 aD (aa s1))) (c2 dq (ae 12 [exp (c2 ah (c2 ah (aa s1) (aa s3)) (cK (int (ofNat 0)))),exp (c2 ah (aa s2) (cK (int (ofNat 0))))]) (cK (int (ofNat 0))))) (aA aI (c2 (eY bR) (ao s3) (cK (int (ofNat 1)))))) (oE s1 aK (aa s3) (ao s2))))) (ag (bV s1 aK) (ai (ao s1)))))
def vB:ak:=ak.mk 2 (ag (br [(aC,false),(aI,true)] [cK (int (ofNat 0)),ax []]) (ag (bI (one aX) (aR (c2 aF (c2 ah (aa s0) (cK (int (ofNat 0)))) (cK (str [112,114,111,100]))) (c2 ah (aa s0) (cK (int (ofNat 1)))) (av [ao s0])) (ag (aE (c1 hJ (ae 25 [slot s4,slot s1])) (ag (df s3 aI (ao s4)) rq) aB) (ag (eU [bq,cj] (ae 43 [slot s4])) (ag (aE (gw (c2 cF (aa s5) (av [cK (str [115,121,109]),ao s1])) (gw (c1 hJ (ae 21 [slot s6])) (c2 dq (c2 ah (aa s6) (cK (int (ofNat 1)))) (cK (int (ofNat 0)))))) (ai (cK none)) aB) (aA aC (c2 (eY bR) (ao s2) (c2 ah (aa s6) (cK (int (ofNat 1)))))))))) (ag (bV s3 aI) (ai (av [ao s2,aR (c2 bU (c1 aD (aa s3)) (cK (int (ofNat 0)))) (ae 44 [slot s3]) (cK (tup [str [110,117,109],int (ofNat 1),int (ofNat 1)]))])))))
def vA:ak:=ak.mk 2 (ag (fT aC (cK (aQ [] []))) (ag (bI (one aI) (ae 56 [exp (ae 62 [slot s0])]) (ag (aA aX (ae 125 [slot s3,slot s1])) (ag (aE (c2 kR (aa s4) (cK none)) (ai (cK none)) aB) (dW s2 aC (c2 ah (aa s4) (cK (int (ofNat 0)))) (ae 42 [exp (ax [iK (aa s2) (c2 ah (aa s4) (cK (int (ofNat 0)))) (cK (tup [str [110,117,109],int (ofNat 0),int (ofNat 1)])),c2 ah (aa s4) (cK (int (ofNat 1)))])]))))) (ag (bV s2 aC) (ai (eH [s2] (bt (bB (one bq) (c1 sortedF (aa s2)) [c2 cF (c2 ah (aa s2) (aa s5)) (cK (tup [str [110,117,109],int (ofNat 0),int (ofNat 1)]))] (bF (av [ao s5,c2 ah (aa s2) (aa s5)])))))))))
def vz:ak:=ak.mk 1 (ai (aR (c2 aF (c2 ah (aa s0) (cK (int (ofNat 0)))) (cK (str [101,113]))) (ae 55 [exp (ae 15 [exp (ax [c2 ah (aa s0) (cK (int (ofNat 1))),ae 18 [exp (c2 ah (aa s0) (cK (int (ofNat 2))))]])])]) (ae 55 [slot s0])))
def vy:ak:=ak.mk 3 (ag (aA aI (ae 62 [exp (ae 15 [exp (ax [ae 16 [exp (ax [ao s1,ao s1])],ae 16 [exp (ax [ae 14 [exp (c1 bJ (cK (int (ofNat 4)))),exp (cK (int (ofNat 1)))],ao s0,ao s2])]])])])) (ag (aE (c2 aF (aa s3) (cK (tup [str [110,117,109],int (ofNat 0),int (ofNat 1)]))) (ai (ax [ae 62 [exp (ae 16 [exp (ax [cK (tup [str [110,117,109],int (negSucc 0),int (ofNat 1)]),ao s1,ae 17 [exp (ae 16 [exp (ax [ae 14 [exp (cK (int (ofNat 2))),exp (cK (int (ofNat 1)))],ao s0])]),exp (cK (tup [str [110,117,109],int (negSucc 0),int (ofNat 1)]))]])])]])) aB) (ag (fT aX (ax [])) (ag (bI (one bq) (av [c1 bJ (cK (int (ofNat 1))),cK (int (ofNat 1))]) (ag (aA cj (ae 15 [exp (ax [ae 18 [slot s1],ae 16 [exp (ax [ae 14 [slot s5,exp (cK (int (ofNat 1)))],ae 17 [slot s3,exp (cK (tup [str [110,117,109],int (ofNat 1),int (ofNat 2)]))]])]])])) (df s4 aX (ae 62 [exp (ae 16 [exp (ax [ao s6,ae 17 [exp (ae 16 [exp (ax [ae 14 [exp (cK (int (ofNat 2))),exp (cK (int (ofNat 1)))],ao s0])]),exp (cK (tup [str [110,117,109],int (negSucc 0),int (ofNat 1)]))]])])])))) (ag (bV s4 aX) (ai (ao s4)))))))
def vr:ak:=ak.mk 2 (ag (br [(aC,false),(aI,true)] [ae 107 [slot s0],ax []]) (ag (bI (two aX bq) (ae 122 [slot s0]) (ag (aA aC (ae 97 [slot s2,exp (ae 115 [slot s4])])) (df s3 aI (ae 38 [slot s4])))) (ag (bI (one cj) (aR (c2 bU (ae 64 [slot s2]) (cK (int (ofNat 0)))) (cApp s1 (ae 73 [slot s2])) (ax [])) (aE (c2 aF (ae 64 [slot s6]) (cK (int (ofNat 2)))) (ag (eU [eT,iD,mJ] (ao s6)) (aE (c2 bU (c2 bj (c2 bg (aa s8) (aa s8)) (c2 bg (c2 bg (cK (int (ofNat 4))) (aa s9)) (aa s7))) (cK (int (ofNat 0)))) (mM s3 aI (ae 128 [exp (ae 14 [slot s9,exp (cK (int (ofNat 1)))]),exp (ae 14 [slot s8,exp (cK (int (ofNat 1)))]),exp (ae 14 [slot s7,exp (cK (int (ofNat 1)))])])) aB)) (aE (bL (c2 bU (ae 64 [slot s6]) (cK (int (ofNat 0)))) (c2 bU (c1 aD (ae 118 [slot s6])) (cK (int (ofNat 0))))) (cS (cK (str [108,105,109,105,116])) (c2 ba (cK (str [114,111,111,116,115,32,111,102,32,100,101,103,114,101,101,32])) (c1 strF (ae 64 [slot s6])))) aB))) (ag (bV s3 aI) (ai (ao s3))))))
def vq:ak:=ak.mk 2 (ag (aA aC (ae 126 [slot s0,slot s1])) (ag (aE (c2 kR (aa s2) (cK none)) (cS (cK (str [108,105,109,105,116])) (c2 ba (cK (str [110,111,32,112,111,108,121,110,111,109,105,97,108,32,105,110,32])) (aa s1))) aB) (ag (aA aI (c1 jA (aa s2))) (ag (aA aX (aR (c2 bU (c1 aD (aa s3)) (cK (int (ofNat 0)))) (c1 maxF (aa s3)) (c1 bJ (cK (int (ofNat 1)))))) (ag (aE (c2 dq (aa s4) (cK (int (ofNat 0)))) (cS (cK (str [100,111,109,97,105,110])) (c2 ba (c2 ba (cK (str [101,97,99,104,32])) (aa s1)) (cK (str [32,115,111,108,118,101,115,32,105,116])))) aB) (ag (aE (c2 bU (aa s4) (cK (int (ofNat 2)))) (cS (cK (str [108,105,109,105,116])) (c2 ba (cK (str [114,111,111,116,115,32,111,102,32,100,101,103,114,101,101,32])) (c1 strF (aa s4)))) aB) (ag (aE (c2 aF (aa s4) (cK (int (ofNat 0)))) (ai (ax [])) aB) (ag (aE (c2 aF (aa s4) (cK (int (ofNat 1)))) (ai (ax [ae 62 [exp (ae 16 [exp (ax [cK (tup [str [110,117,109],int (negSucc 0),int (ofNat 1)]),iK (aa s3) (cK (int (ofNat 0))) (cK (tup [str [110,117,109],int (ofNat 0),int (ofNat 1)])),ae 17 [exp (c2 ah (aa s3) (cK (int (ofNat 1)))),exp (cK (tup [str [110,117,109],int (negSucc 0),int (ofNat 1)]))]])])]])) aB) (ai (ae 128 [exp (c2 ah (aa s3) (cK (int (ofNat 2)))),exp (iK (aa s3) (cK (int (ofNat 1))) (cK (tup [str [110,117,109],int (ofNat 0),int (ofNat 1)]))),exp (iK (aa s3) (cK (int (ofNat 0))) (cK (tup [str [110,117,109],int (ofNat 0),int (ofNat 1)])))]))))))))))
def vn:ak:=ak.mk 3 (ag (aA aI (ae 127 [slot s0])) (ag (aA aX (ae 95 [slot s3,slot s1])) (ag (aE (c2 kR (aa s4) (cK none)) (ai (ae 130 [slot s3,slot s1])) aB) (ag (aE (c2 aF (c2 ah (aa s4) (cK (int (ofNat 0)))) (ax [])) (cS (cK (str [100,111,109,97,105,110])) (c2 ba (c2 ba (cK (str [101,97,99,104,32])) (aa s1)) (cK (str [32,115,111,108,118,101,115,32,105,116])))) aB) (ai (ae 129 [exp (c2 ah (ae 87 [exp (c2 ah (aa s4) (cK (int (ofNat 0))))]) (cK (int (ofNat 0)))),slot s2]))))))
def vm:ak:=ak.mk 3 (ag (aA aI (ae 126 [exp (ae 127 [slot s0]),slot s1])) (ag (aE (c2 kR (aa s3) (cK none)) (ai (cK (bool false))) aB) (ag (aA aX (ae 15 [exp (bt (bB (two bq cj) (aa s3) [] (bF (ae 16 [exp (ax [ao s6,aR (c2 bU (aa s5) (cK (int (ofNat 0)))) (ae 17 [slot s2,exp (ae 14 [slot s5,exp (cK (int (ofNat 1)))])]) (cK (tup [str [110,117,109],int (ofNat 1),int (ofNat 1)]))])]))))])) (ai (c2 aF (ae 62 [slot s4]) (cK (tup [str [110,117,109],int (ofNat 0),int (ofNat 1)])))))))
def mG:ak:=ak.mk 2 (ag (dW s0 fS (cK (int (ofNat 1))) (c2 ba (fun c ρ p=>Slot.rec Res.stuck (fun x=>Res.stuck) (fun x=>Res.stuck) (Res.rec Res.stuck (fun i p=>Option.rec Res.stuck (fun v=>Res.ok v p) (ah (lst p) i)) Res.exc (cK (int 1) c ρ p)) (ay 0 ρ)) (cK (int (ofNat 1))))) (ag (aE (c2 nC (fun c ρ p=>Slot.rec Res.stuck (fun x=>Res.stuck) (fun x=>Res.stuck) (Res.rec Res.stuck (fun i p=>Option.rec Res.stuck (fun v=>Res.ok v p) (ah (lst p) i)) Res.exc (cK (int 1) c ρ p)) (ay 0 ρ)) (c1 aD fun c ρ p=>Slot.rec Res.stuck (fun x=>Res.stuck) (fun x=>Res.stuck) (Res.rec Res.stuck (fun i p=>Option.rec Res.stuck (fun v=>Res.ok v p) (ah (lst p) i)) Res.exc (cK (int 0) c ρ p)) (ay 0 ρ))) (ai (c2 eC (c2 ah (fun c ρ p=>Slot.rec Res.stuck (fun x=>Res.stuck) (fun x=>Res.stuck) (Res.rec Res.stuck (fun i p=>Option.rec Res.stuck (fun v=>Res.ok v p) (ah (lst p) i)) Res.exc (cK (int 0) c ρ p)) (ay 0 ρ)) (c2 bj (fun c ρ p=>Slot.rec Res.stuck (fun x=>Res.stuck) (fun x=>Res.stuck) (Res.rec Res.stuck (fun i p=>Option.rec Res.stuck (fun v=>Res.ok v p) (ah (lst p) i)) Res.exc (cK (int 1) c ρ p)) (ay 0 ρ)) (cK (int (ofNat 1))))) (aa s1))) aB) (ai (c2 eC (c2 ba (c2 ba (c2 bg (cK (int (ofNat 2))) fun c ρ p=>Slot.rec Res.stuck (fun x=>Res.stuck) (fun x=>Res.stuck) (Res.rec Res.stuck (fun i p=>Option.rec Res.stuck (fun v=>Res.ok v p) (ah (lst p) i)) Res.exc (cK (int 1) c ρ p)) (ay 0 ρ)) (c2 dS (c2 bg (fun c ρ p=>Slot.rec Res.stuck (fun x=>Res.stuck) (fun x=>Res.stuck) (Res.rec Res.stuck (fun i p=>Option.rec Res.stuck (fun v=>Res.ok v p) (ah (lst p) i)) Res.exc (cK (int 1) c ρ p)) (ay 0 ρ)) fun c ρ p=>Slot.rec Res.stuck (fun x=>Res.stuck) (fun x=>Res.stuck) (Res.rec Res.stuck (fun i p=>Option.rec Res.stuck (fun v=>Res.ok v p) (ah (lst p) i)) Res.exc (cK (int 1) c ρ p)) (ay 0 ρ)) (cK (int (ofNat 3))))) fun c ρ p=>Slot.rec Res.stuck (fun x=>Res.stuck) (fun x=>Res.stuck) (Res.rec Res.stuck (fun i p=>Option.rec Res.stuck (fun v=>Res.ok v p) (ah (lst p) i)) Res.exc (cK (int 2) c ρ p)) (ay 0 ρ)) (aa s1)))))
def vk:ak:=ak.mk 2 (ai (av [cK (str [110,117,109]),ao s0,ao s1]))
def mF:ak:=ak.mk 2 (n6 (ae 131 [slot s0,exp (cK (str [120])),exp (pP 142 [s1])]))
def vh:ak:=ak.mk 1 (ai (av [cK (str [115,117,109]),c1 d0 (bt (bB (two aK aC) (c1 gM (aa s0)) [] (bF (av [cK (str [112,114,111,100]),av [ae 134 [slot s2,exp (cK (int (ofNat 1)))],av [cK (str [112,111,119]),av [cK (str [115,121,109]),cK (str [120])],ae 134 [slot s1,exp (cK (int (ofNat 1)))]]]]))))]))
def vg:ak:=ak.mk 2 (ag (fT aC (c2 bg (ax [cK (int (ofNat 0))]) (c2 bj (c2 ba (c1 aD (aa s0)) (c1 aD (aa s1))) (cK (int (ofNat 1)))))) (ag (bI (two aI aX) (c1 gM (ao s0)) (bI (two bq cj) (c1 gM (ao s1)) (dW s2 aC (c2 ba (aa s3) (aa s5)) (c2 ba (c2 ah (aa s2) (c2 ba (aa s3) (aa s5))) (c2 bg (aa s4) (aa s6)))))) (ag (bV s2 aC) (ai (ao s2)))))
def oq:ak:=ak.mk 2 (ag (aA aC (c2 ba (cK (int (ofNat 1))) (ae 133 [slot s1,exp (cK (int (ofNat 3)))]))) (ag (aA aI (av [cK (str [112,111,119]),ae 134 [exp (c2 ah (ax [cK (int (ofNat 2)),cK (int (ofNat 3)),cK (int (ofNat 5))]) (c2 bj (aa s2) (cK (int (ofNat 1))))),exp (cK (int (ofNat 1)))],ae 134 [exp (cK (int (ofNat 1))),exp (cK (int (ofNat 2)))]])) (ag (aE (c2 aF (aa s0) (cK (int (ofNat 0)))) (ai (av [ax [cK (int (ofNat 1))],ax []])) aB) (ag (aE (c2 aF (aa s0) (cK (int (ofNat 1)))) (ai (av [ax [c2 bj (cK (int (ofNat 0))) (c2 ah (ax [cK (int (ofNat 2)),cK (int (ofNat 3)),cK (int (ofNat 5))]) (c2 bj (aa s2) (cK (int (ofNat 1))))),cK (int (ofNat 0)),cK (int (ofNat 1))],ax [ae 55 [exp (av [cK (str [112,114,111,100]),av [ae 134 [exp (c2 bj (cK (int (ofNat 0))) (cK (int (ofNat 1)))),exp (cK (int (ofNat 1)))],ao s3]])],ao s3]])) aB) (ag (aE (c2 aF (aa s0) (cK (int (ofNat 2)))) (ai (av [ax [ao s2,cK (int (ofNat 0)),cK (int (ofNat 1))],ax []])) aB) (ag (aE (c2 aF (aa s0) (cK (int (ofNat 3)))) (ai (av [ax [cK (int (ofNat 1)),cK (int (ofNat 0)),cK (int (ofNat 0)),cK (int (ofNat 0)),cK (int (ofNat 1))],ax []])) aB) (ai (aR (c2 aF (aa s0) (cK (int (ofNat 4)))) (av [ax [c2 bj (cK (int (ofNat 0))) (cK (int (ofNat 2))),cK (int (ofNat 0)),cK (int (ofNat 0)),cK (int (ofNat 1))],cK (str [108,105,109,105,116])]) (av [ax [c2 bj (cK (int (ofNat 0))) (cK (int (ofNat 2))),cK (int (ofNat 0)),cK (int (ofNat 0)),cK (int (ofNat 0)),cK (int (ofNat 1))],cK (str [108,105,109,105,116])])))))))))
def oo:ak:=ak.mk 1 (ag (eU [aK,aC] (ae 138 [exp (ae 133 [slot s0,exp (cK (int (ofNat 6)))]),slot s0])) (ag (br [(aI,false),(aX,true)] [ao s1,ax []]) (ag (bI (one bq) (c1 eA (ae 133 [slot s0,exp (cK (int (ofNat 3)))])) (ag (br [(cj,false),(eT,false)] [c2 bj (ae 133 [slot s0,exp (cK (int (ofNat 5)))]) (cK (int (ofNat 2))),c2 ba (cK (int (ofNat 1))) (ae 133 [slot s0,exp (cK (int (ofNat 2)))])]) (ag (aA aI (ae 137 [slot s3,exp (ax [c2 bj (cK (int (ofNat 0))) (aa s6),ao s7])])) (df s4 aX (av [c2 dS (c2 bg (cK (int (ofNat 6))) (aa s6)) (aa s7),ae 55 [exp (ae 134 [slot s6,slot s7])]]))))) (ag (aA iD (bt (bB (two n5 rm) (c1 sortItemsF (c1 jA (aa s4))) [] (bF (ao s11))))) (ag (aA mJ (ae 135 [exp (av [cK (str [101,113]),ae 136 [slot s3],ae 134 [exp (cK (int (ofNat 0))),exp (cK (int (ofNat 1)))]]),exp (aR (c2 bU (c1 aD (aa s1)) (cK (int (ofNat 1)))) (ao s1) (ax []))])) (ai (c2 aF (aa s9) (aR (c1 ff (aa s2)) (ao s2) (c2 ba (aa s8) (aa s2))))))))))
def vf:ak:=ak.mk 0 (ag (br [(fS,false),(aK,false)] [av [cK (str [115,121,109]),cK (str [120])],av [cK (str [115,121,109]),cK (str [121])]]) (ag (aA aC (ax [av [av [cK (str [101,113]),ao s0,ao s0],cK (str [100,111,109,97,105,110])],av [av [cK (str [101,113]),ae 134 [exp (cK (int (ofNat 1))),exp (cK (int (ofNat 1)))],ae 134 [exp (cK (int (ofNat 2))),exp (cK (int (ofNat 1)))]],ax []],av [ae 134 [exp (cK (int (ofNat 0))),exp (cK (int (ofNat 1)))],cK (str [100,111,109,97,105,110])],av [ae 134 [exp (cK (int (ofNat 3))),exp (cK (int (ofNat 2)))],ax []]])) (ag (aA aC (c2 ba (aa s2) (ax [av [av [cK (str [101,113]),ao s1,ao s1],cK (str [100,111,109,97,105,110])],av [av [cK (str [101,113]),ao s1,ae 134 [exp (cK (int (ofNat 1))),exp (cK (int (ofNat 1)))]],ax []],av [av [cK (str [99,97,108,108]),cK (str [115,105,110]),av [ao s0]],cK (str [108,105,109,105,116])],av [av [cK (str [112,111,119]),ao s0,ao s1],cK (str [108,105,109,105,116])]]))) (ag (aA aC (c2 ba (aa s2) (ax [av [av [cK (str [115,117,109]),av [av [cK (str [112,114,111,100]),av [ao s1,av [cK (str [112,111,119]),ao s0,ae 134 [exp (cK (int (ofNat 3))),exp (cK (int (ofNat 1)))]]]],ae 134 [exp (cK (int (ofNat 1))),exp (cK (int (ofNat 1)))]]],cK (str [108,105,109,105,116])],av [av [cK (str [101,113]),av [cK (str [112,114,111,100]),av [ao s0,ao s1]],av [cK (str [112,114,111,100]),av [ao s1,ao s0]]],cK (str [100,111,109,97,105,110])]]))) (ai (c2 ba (aa s2) (ax [av [av [cK (str [115,117,109]),av [ao s0,ao s1]],ax [ae 55 [exp (av [cK (str [112,114,111,100]),av [ae 134 [exp (c2 bj (cK (int (ofNat 0))) (cK (int (ofNat 1)))),exp (cK (int (ofNat 1)))],ao s1]])]]],av [av [cK (str [101,113]),av [cK (str [112,114,111,100]),av [ae 134 [exp (cK (int (ofNat 2))),exp (cK (int (ofNat 1)))],ao s0]],ao s1],ax [ae 55 [exp (av [cK (str [112,114,111,100]),av [ae 134 [exp (cK (int (ofNat 1))),exp (cK (int (ofNat 2)))],ao s1]])]]]])))))))
def rV:aq:=(aR (c2 cF (aa s1) (ax [])) (ax [ao s1]) (ax [ao s0]))
def ve:ak:=ak.mk 2 (ai rV)
end
def TK:Tab:=(Tab.node 71 (Tab.node 35 (Tab.node 17 (Tab.node 8 (Tab.node 4 (Tab.node 2 (Tab.node 1 (Tab.leaf A5) (Tab.leaf A4)) (Tab.node 3 (Tab.leaf A3) (Tab.leaf A2))) (Tab.node 6 (Tab.node 5 (Tab.leaf A0) (Tab.leaf AZ)) (Tab.node 7 (Tab.leaf AY) (Tab.leaf AX)))) (Tab.node 12 (Tab.node 10 (Tab.node 9 (Tab.leaf AW) Tab.nil) (Tab.node 11 (Tab.leaf z3) (Tab.leaf z2))) (Tab.node 14 (Tab.node 13 (Tab.leaf z1) (Tab.leaf z0)) (Tab.node 15 (Tab.leaf zZ) (Tab.node 16 (Tab.leaf zY) (Tab.leaf zX)))))) (Tab.node 26 (Tab.node 21 (Tab.node 19 (Tab.node 18 (Tab.leaf zW) (Tab.leaf zV)) (Tab.node 20 (Tab.leaf zU) (Tab.leaf zT))) (Tab.node 23 (Tab.node 22 (Tab.leaf zS) (Tab.leaf zR)) (Tab.node 24 (Tab.leaf zQ) (Tab.node 25 (Tab.leaf zP) (Tab.leaf zO))))) (Tab.node 30 (Tab.node 28 (Tab.node 27 (Tab.leaf zN) (Tab.leaf zM)) (Tab.node 29 (Tab.leaf zL) Tab.nil)) (Tab.node 32 (Tab.node 31 (Tab.leaf zK) Tab.nil) (Tab.node 33 (Tab.leaf zJ) (Tab.node 34 (Tab.leaf zI) (Tab.leaf zH))))))) (Tab.node 53 (Tab.node 44 (Tab.node 39 (Tab.node 37 (Tab.node 36 (Tab.leaf zG) (Tab.leaf zF)) (Tab.node 38 (Tab.leaf zE) (Tab.leaf zD))) (Tab.node 41 (Tab.node 40 (Tab.leaf zC) (Tab.leaf zB)) (Tab.node 42 (Tab.leaf zA) (Tab.node 43 (Tab.leaf zy) (Tab.leaf zx))))) (Tab.node 48 (Tab.node 46 (Tab.node 45 (Tab.leaf zw) (Tab.leaf zv)) (Tab.node 47 Tab.nil (Tab.leaf zu))) (Tab.node 50 (Tab.node 49 (Tab.leaf zt) (Tab.leaf zr)) (Tab.node 51 Tab.nil (Tab.node 52 Tab.nil Tab.nil))))) (Tab.node 62 (Tab.node 57 (Tab.node 55 (Tab.node 54 Tab.nil (Tab.leaf zq)) (Tab.node 56 (Tab.leaf zp) (Tab.leaf zo))) (Tab.node 59 (Tab.node 58 (Tab.leaf zm) (Tab.leaf zl)) (Tab.node 60 Tab.nil (Tab.node 61 (Tab.leaf zk) (Tab.leaf zj))))) (Tab.node 66 (Tab.node 64 (Tab.node 63 (Tab.leaf zi) (Tab.leaf zh)) (Tab.node 65 (Tab.leaf zg) (Tab.leaf zf))) (Tab.node 68 (Tab.node 67 (Tab.leaf ze) (Tab.leaf zd)) (Tab.node 69 (Tab.leaf zc) (Tab.node 70 (Tab.leaf zb) (Tab.leaf za)))))))) (Tab.node 107 (Tab.node 89 (Tab.node 80 (Tab.node 75 (Tab.node 73 (Tab.node 72 (Tab.leaf y9) (Tab.leaf y8)) (Tab.node 74 (Tab.leaf y7) (Tab.leaf y6))) (Tab.node 77 (Tab.node 76 (Tab.leaf y5) (Tab.leaf y4)) (Tab.node 78 (Tab.leaf y3) (Tab.node 79 (Tab.leaf y1) (Tab.leaf y0))))) (Tab.node 84 (Tab.node 82 (Tab.node 81 (Tab.leaf yZ) (Tab.leaf yY)) (Tab.node 83 (Tab.leaf yX) (Tab.leaf yW))) (Tab.node 86 (Tab.node 85 (Tab.leaf yV) (Tab.leaf yU)) (Tab.node 87 (Tab.leaf yT) (Tab.node 88 (Tab.leaf yS) (Tab.leaf yR)))))) (Tab.node 98 (Tab.node 93 (Tab.node 91 (Tab.node 90 (Tab.leaf yQ) (Tab.leaf yP)) (Tab.node 92 (Tab.leaf yO) Tab.nil)) (Tab.node 95 (Tab.node 94 (Tab.leaf yN) (Tab.leaf yM)) (Tab.node 96 (Tab.leaf yL) (Tab.node 97 (Tab.leaf yK) (Tab.leaf yJ))))) (Tab.node 102 (Tab.node 100 (Tab.node 99 (Tab.leaf yI) (Tab.leaf yH)) (Tab.node 101 (Tab.leaf vX) (Tab.leaf vW))) (Tab.node 104 (Tab.node 103 (Tab.leaf vV) (Tab.leaf vU)) (Tab.node 105 (Tab.leaf vT) (Tab.node 106 Tab.nil (Tab.leaf vS))))))) (Tab.node 125 (Tab.node 116 (Tab.node 111 (Tab.node 109 (Tab.node 108 (Tab.leaf vR) (Tab.leaf vQ)) (Tab.node 110 (Tab.leaf vP) (Tab.leaf vO))) (Tab.node 113 (Tab.node 112 (Tab.leaf vN) (Tab.leaf vM)) (Tab.node 114 (Tab.leaf vL) (Tab.node 115 (Tab.leaf vK) (Tab.leaf vJ))))) (Tab.node 120 (Tab.node 118 (Tab.node 117 Tab.nil (Tab.leaf vI)) (Tab.node 119 (Tab.leaf vH) (Tab.leaf vG))) (Tab.node 122 (Tab.node 121 (Tab.leaf vF) Tab.nil) (Tab.node 123 (Tab.leaf vE) (Tab.node 124 (Tab.leaf vD) (Tab.leaf vC)))))) (Tab.node 134 (Tab.node 129 (Tab.node 127 (Tab.node 126 (Tab.leaf vB) (Tab.leaf vA)) (Tab.node 128 (Tab.leaf vz) (Tab.leaf vy))) (Tab.node 131 (Tab.node 130 (Tab.leaf vr) (Tab.leaf vq)) (Tab.node 132 (Tab.leaf vn) (Tab.node 133 (Tab.leaf vm) (Tab.leaf mG))))) (Tab.node 138 (Tab.node 136 (Tab.node 135 (Tab.leaf vk) (Tab.leaf mF)) (Tab.node 137 (Tab.leaf vh) (Tab.leaf vg))) (Tab.node 140 (Tab.node 139 (Tab.leaf oq) (Tab.leaf oo)) (Tab.node 141 (Tab.leaf vf) (Tab.node 142 Tab.nil (Tab.leaf ve)))))))))
def FL:List (Option ak):=[some A5,some A4,some A3,some A2,some A0,some AZ,some AY,some AX,some AW,none,some z3,some z2,some z1,some z0,some zZ,some zY,some zX,some zW,some zV,some zU,some zT,some zS,some zR,some zQ,some zP,some zO,some zN,some zM,some zL,none,some zK,none,some zJ,some zI,some zH,some zG,some zF,some zE,some zD,some zC,some zB,some zA,some zy,some zx,some zw,some zv,none,some zu,some zt,some zr,none,none,none,none,some zq,some zp,some zo,some zm,some zl,none,some zk,some zj,some zi,some zh,some zg,some zf,some ze,some zd,some zc,some zb,some za,some y9,some y8,some y7,some y6,some y5,some y4,some y3,some y1,some y0,some yZ,some yY,some yX,some yW,some yV,some yU,some yT,some yS,some yR,some yQ,some yP,some yO,none,some yN,some yM,some yL,some yK,some yJ,some yI,some yH,some vX,some vW,some vV,some vU,some vT,none,some vS,some vR,some vQ,some vP,some vO,some vN,some vM,some vL,some vK,some vJ,none,some vI,some vH,some vG,some vF,none,some vE,some vD,some vC,some vB,some vA,some vz,some vy,some vr,some vq,some vn,some vm,some mG,some vk,some mF,some vh,some vg,some oq,some oo,some vf]
theorem z8:(List.range 141).map TK.get=FL:=by kernel_rfl
def unused:List Nat:=[9,29,31,46,50,51,52,53,59,92,105,116,121]
def u3 (i:Nat):Option ak:=if i=135 then some mF else if unused.contains i then none else yd i
theorem AE:(List.range 141).map u3=FL:=by kernel_rfl
def eX (i:Nat):List Str:=((defs[i]?).getD default).2.1
def iW (i:Nat):Scope:=((defs[i]?).getD default).2.2.1
def bM (i:Nat):List Stmt:=((defs[i]?).getD default).2.2.2
def kz:rN:=(told? (bM 135)).getD default
def eD:Arguments:=kz.params
def dB:Scope:=kz.lsc
def mU:Expr:=kz.lb
def o7:Pos:=kz.lpos
theorem r8:(told? (bM 135)).map (fun P=>(P.f,P.tn,P.k,P.wn))=some (("solve_by" : Str),("t" : Str),("x" : Str),("wrong" : Str)):=by kernel_rfl
theorem Aw:(compE cC (el dA dz 142 [] ["f"] dB []) false mU).map (·.1)=some rV:=by kernel_rfl
theorem lK:defs.length=142:=by decide +kernel
theorem uz:(defs.all fun d=>h8 [] d.2.1 d.2.2.1)=true:=by decide +kernel
theorem tw:h8 ["whole"] (eX 135) (iW 135)=true:=by decide +kernel
end
end Mine
namespace Mine
open PySem PySem.Calls PyProof.Rows
structure iB (C:Cfg) (mg mb:Str→Option Value):Prop where
 W:dv C dA dz mg mb
 Y:nh C mg
 L:pU C mg 142 eD mU dB o7 "whole"
 obj:∀ i,i < 142→∃ o fd,C.h₀.get? (C.fa i)=some o∧o.data=.func fd∧fd.closure=[]∧fd.body=.stmts (bM i)∧fd.scope.isCoroutine=false∧fd.scope.isGenerator=false∧fd.scope.kind=.function∧fd.globals=mainGlobals∧fd.builtins=builtinsNs∧
  C.h₀.CodeRec fd.code fd.qualname∧fd.params.posonlyargs=[]∧fd.params.args.map (·.arg)=eX i∧fd.params.kwonlyargs=[]∧fd.params.vararg=none∧fd.params.kwarg=none∧fd.defaults=.none∧fd.scope.names=(iW i).names
 code:∀ fd,(∃ o,C.h₀.get? (C.fa 135)=some o∧o.data=.func fd)→fd.code=.ref C.lc∧fd.qualname++(".<locals>." : Str)++("<lambda>" : Str)=C.lqual
 isDef:∀ i,C.isDef i=decide (i < 142)
 lam:∀ f fd cs,C.lam f fd cs→f=142∧∃ nm cd ct c,fd=PySem.W.kla_fn "<lambda>" C.lqual eD mU dB [("whole",c)] nm (.ref cd) ct∧cs=[c]
section
variable {C:Cfg} {mg mb:Str→Option Value}
theorem qR {i:Nat} (h:i < 142):defs[i]?=some (((defs[i]?).getD default)):=by
 have:i < defs.length:=by rw [lK];exact h
 rw [List.getElem?_eq_getElem this];rfl
theorem pM {i:Nat} (h:i < 142):h8 [] (eX i) (iW i)=true:=by
 have e:=qR h
 exact List.all_eq_true.mp uz _ (List.mem_of_getElem? e)
theorem m7 {f:Str} {i:Nat} (h:dA.lookup f=some i):i < 142:=by
 have hm:=mem_of_lookup h
 unfold dA at hm
 obtain ⟨⟨d,k⟩,hk,e⟩:=List.mem_map.mp hm
 cases e
 have:=List.mem_zipIdx hk
 rw [← lK]
 omega
theorem iB.sound (H:iB C mg mb):∀ n,Sound C dA dz n:=xl H.W fun f i h=>by rw [H.isDef];exact decide_eq_true (m7 h)
theorem iB.iO (H:iB C mg mb):∀ n,mD C dA dz n:=Mine.iO H.sound H.W H.Y
theorem uo {i:Nat} {d:ak} (h:yd i=some d) (hi:i < 142):kH dA dz 142 [] (eX i) (iW i) (bM i)=some d:=by
 unfold yd at h
 rw [qR hi] at h
 exact h
theorem z9 {i:Nat} {d:ak} (h:TK.get i=some d) (hi:i < 141):u3 i=some d:=by
 have e:(List.range 141).map u3=(List.range 141).map TK.get:=AE.trans z8.symm
 have e':=congrArg (fun l=>l[i]?) e
 simp only [List.getElem?_map,List.getElem?_range hi,Option.map_some,Option.some.injEq] at e'
 rw [e'];exact h
theorem xf:TK.get 141=none:=by kernel_rfl
theorem xi:TK.get 135=some mF:=by kernel_rfl
theorem xe:TK.get 142=some ve:=by kernel_rfl
theorem iB.pB (H:iB C mg mb) {i:Nat} (hi:i < 142) (body:List Stmt):ky C (C.fa i) (el dA dz 142 [] (eX i) (iW i) body) (eX i) (bM i):=
 Mine.pB (pM hi) (H.obj i hi) H.W.nolimit (.inl rfl) body
theorem vZ (H:iB C mg mb):dn C (el dA dz 142 ["whole"] (eX 135) (iW 135) (bM 135)) (bM 135) mF.body:=by
 have hi:dA.lookup ("solve_by" : Str)=some 131:=by decide +kernel
 obtain ⟨P,hP,e⟩:=Option.map_eq_some_iff.mp r8
 have eP:kz=P:=by unfold kz;rw [hP];rfl
 simp only [Prod.mk.injEq] at e
 obtain ⟨e1,e2,e3,e4⟩:=e
 obtain ⟨fp,tp,cp,rp,np,ap,kpos,rp',hpos,pos,pos',cn,eb⟩:=q8 hP
 have L:=H.L
 unfold eD mU dB o7 at L
 rw [eP] at L
 have L':pU C mg (el dA dz 142 ["whole"] (eX 135) (iW 135) (bM 135)).lam P.params P.lb P.lsc P.lpos "whole" := L
 have hfree:freeOf P.lsc=[("whole" : Str)]:=by rw [← eP];decide +kernel
 have key:=r7 (u:=0) (cp:=cp) (fp:=fp) (tp:=tp) (rp:=rp) (np:=np) (ap:=ap) (kpos:=kpos) (rp':=rp') (hpos:=hpos) (pos:=pos) (pos':=pos') (cn:=cn) (k:=P.k) (f:=P.f) (tn:=P.tn) (wn:=P.wn) (i:=131) (j:=2) (jt:=0) (jx:=1) H.W H.Y L' lL (by decide +kernel) (by rw [e4];decide +kernel) (by rw [e4];decide +kernel) (by rw [e1];decide +kernel) (by rw [e1];decide +kernel) (by rw [e1];exact hi) (by rw [H.isDef];rfl) (by rw [e2];decide +kernel) (by rw [e2];decide +kernel) hfree (by decide +kernel) (by decide +kernel) (by decide +kernel)
 rw [← eb] at key
 rw [e3] at key
 exact key
theorem v5 (H:iB C mg mb):ky C (C.fa 135) (el dA dz 142 ["whole"] (eX 135) (iW 135) (bM 135)) (eX 135) (bM 135):=
 Mine.pB tw (H.obj 135 (by omega)) H.W.nolimit (.inr H.code) (bM 135)
theorem x5 (H:iB C mg mb) {f:Nat} {d:ak} (h:TK.get f=some d):rR C f d:=⟨fun fd cs hl=>by
 obtain ⟨rfl,nm,cd,ct,c,rfl,rfl⟩:=H.lam f fd cs hl
 rw [xe] at h
 cases h
 obtain ⟨⟨db,js⟩,hc,e⟩:=Option.map_eq_some_iff.mp Aw
 cases e
 have cw:CW dA dz (el dA dz 142 [] ["f"] dB []):=⟨lL,rfl,rfl,rfl,fun x j hx=>by
  have h1:=(cN (show (numbered 0 (de ["f"] dB)).lookup x=some j from hx)).2
  exact List.all_eq_true.mp (show ((de ["f"] dB).all aM)=true by decide +kernel) x (List.mem_of_getElem? h1)⟩
 have S:=((H.sound cC).e cw hc).1
 have jg:(dB.names.all fun x=>x.2 !=.cell&&(x.2 !=.free||x.1==("whole" : Str)))=true:=by decide +kernel
 have vars_ok:de [("f" : Str)] dB=[("f" : Str),("whole" : Str)]:=by decide +kernel
 refine ⟨el dA dz 142 [] ["f"] dB [],"f","whole",c,mU,rV,rfl,rfl,rfl,rfl,?_,?_,?_,rfl,rfl,?_,?_,?_,?_,?_,rfl,rfl,?_,?_,?_,?_,?_,rfl,rfl,S⟩
 ·show dB.isCoroutine=false;decide +kernel
 ·show dB.isGenerator=false;decide +kernel
 ·show dB.kind=.function;decide +kernel
 ·show eD.posonlyargs=[]
  have:eD.posonlyargs.isEmpty=true:=by decide +kernel
  simpa using this
 ·show eD.args.map (·.arg)=[("f" : Str)];decide +kernel
 ·show eD.kwonlyargs=[]
  have:eD.kwonlyargs.isEmpty=true:=by decide +kernel
  simpa using this
 ·show eD.vararg=none
  have:eD.vararg.isNone=true:=by decide +kernel
  simpa using this
 ·show eD.kwarg=none
  have:eD.kwarg.isNone=true:=by decide +kernel
  simpa using this
 ·intro z hz
  have:=List.all_eq_true.mp jg z hz
  simp at this
  exact this.1
 ·show dB.names.lookup ("f" : Str)=some .local;decide +kernel
 ·show dB.names.lookup ("whole" : Str)=some .free;decide +kernel
 ·intro z hz
  have:=List.all_eq_true.mp jg _ (mem_of_lookup hz)
  simpa using this
 ·intro z j hz
  have h1:=(cN (show (numbered 0 (de ["f"] dB)).lookup z=some j from hz)).2
  rw [vars_ok] at h1
  match j,h1 with
  | 0,h1=>exact .inl ⟨rfl,by simpa using h1.symm⟩
  | 1,h1=>exact .inr (.inl ⟨rfl,by simpa using h1.symm⟩)
  | j + 2,h1=>exact .inr (.inr (by omega))⟩
theorem A7 (H:iB C mg mb):yC C TK where
 lam f d h:=x5 H h
 def_ f d h hd:=by
  rw [H.isDef] at hd
  have hf:f < 142:=of_decide_eq_true hd
  by_cases h1:f=141
  ·subst h1;rw [xf] at h;cases h
  have hf':f < 141:=by omega
  by_cases h2:f=135
  ·subst h2
   rw [xi] at h;cases h
   exact ⟨_,_,_,v5 H,by decide +kernel,vZ H⟩
  ·have e:=z9 h hf'
   unfold u3 at e
   rw [if_neg h2] at e
   split at e
   ·cases e
   obtain ⟨q1,q2⟩:=pK (uo e hf)
   exact ⟨_,_,_,H.pB hf (bM f),q1,(H.iO gi).b (pG (pM hf) rfl) q2⟩
end
def sZ:Cx:={ el dA dz 142 [] (eX 141) (iW 141) (bM 141) with muts:=["pen"] }
noncomputable def vY:aq:=ax [c1 cV (cz (aa Fr.s0) none (some (cK (.int (.ofNat 30))))),cK (.int (.ofNat 0)),c2 eC (c1 sumF (cz (aa Fr.s0) none (some (cK (.int (.ofNat 30)))))) (cK (.int (.ofNat 997)))]
theorem xY:compS gi sZ ((bM 141).headD default)=some (fT aK vY):=by kernel_rfl
theorem wI:(bM 141).length=8:=by decide +kernel
theorem sG:bM 141=(bM 141).headD default::(bM 141).drop 1:=by
 have:=wI
 cases h:bM 141 with
 | nil=>rw [h] at this;cases this
 | cons a r=>rfl
section
variable {C:Cfg} {mg mb:Str→Option Value} {s:Shared} {A:Around} {n:Nat} {call:Call} {Q E:Value→Shared→Prop}
theorem uA:CW dA dz (el dA dz 142 [] (eX 141) (iW 141) (bM 141)):=pG (pM (i:=141) (by omega)) rfl
theorem ym:CW dA dz sZ:=⟨⟨uA.O.inj,uA.O.lt⟩,rfl,rfl,rfl,uA.ok⟩
theorem xZ (H:iB C mg mb):ky C (C.fa 141) sZ (eX 141) ((bM 141).headD default::(bM 141).drop 1):=by
 have F:=H.pB (i:=141) (by omega) (bM 141)
 rw [sG] at F
 exact ⟨F.obj,F.dist,F.kinds,F.vars,F.nofree,F.capK,F.nolim,F.code⟩
theorem ue (H:iB C mg mb) {R:bb} (lF:compB gi sZ ((bM 141).drop 1)=some R) {ei L p':List V} {ρ':Fr} {val:Value} (hc:cL C n call) (P:aZ C (n + 1) (fun _=>False) (fun _=>False) [] A s) (hv:RepV C (fun _=>False) s.heap (.lst ei) val)
  (hD:vY call (fill [.val (.lst ei)]) []=.ok (.lst L) []) (hR:R call (sets 1 (fill [.val (.lst ei)]) .au) L=.ret (.bool true) ρ' p')
  (hQ:∀ s' X,Base C s'.heap→dm C X s'.heap→s'.gens=s.gens→s'.os=s.os→Q (.bool true) s'):wpAny (model C.prog C.w) A (PySem.call (.ref (C.fa 141)) [val]) Q E s:=
 wJ H.W.cls (xZ H) ym.O (by decide +kernel) (x := "pen") (by decide +kernel) rfl ((H.iO gi).s ym xY) ((H.iO gi).b ym lF) hc P hv hD hR hQ
end
end Mine
namespace Mine
open PySem
section
variable {c:Call} {ρ ρ':Fr} {p p₁ aO fU:List V} {f:Nat} {g:cZ} {x y:aq} {a b v:V} {l:List Slot} {xs:List aS} {n:Nat}
theorem jE (h:bZ xs c ρ p=.ok l p₁):ae f xs c ρ p=jB c f l p₁:=by
 rw [pQ,h]
theorem iy (hg:g ρ=.au) (h:bZ xs c ρ p=.ok l p₁):bZ (.slot g::xs) c ρ p=.ok (.au::l) p₁:=by
 show (@Slot.rec (fun _=>aH) _ _ _ (@aH.rec (fun _=>aH) aH.stuck (fun l p=>aH.ok (Slot.au::l) p) aH.exc (bZ xs c ρ p)) (g ρ))=_
 rw [hg,h]
theorem kl (hx:x c ρ p=.ok v p₁) (h:bZ xs c ρ p₁=.ok l aO):bZ (.exp x::xs) c ρ p=.ok (.val v::l) aO:=by
 show (@Res.rec (fun _=>aH) aH.stuck (fun v p=>(@aH.rec (fun _=>aH) aH.stuck (fun l p=>aH.ok (Slot.val v::l) p) aH.exc (bZ xs c ρ p))) aH.exc (x c ρ p))=_
 rw [hx]
 show (@aH.rec (fun _=>aH) aH.stuck (fun l p=>aH.ok (Slot.val v::l) p) aH.exc (bZ xs c ρ p₁))=_
 rw [h]
theorem kI {k:V→Option V} (hx:x c ρ p=.ok a p₁) (hk:k a=some v):c1 k x c ρ p=.ok v p₁:=by
 show (@Res.rec (fun _=>Res) Res.stuck (fun a p=>(@Option.rec V (fun _=>Res) Res.stuck (fun v=>Res.ok v p) (k a))) Res.exc (x c ρ p))=_
 rw [hx]
 show (@Option.rec V (fun _=>Res) Res.stuck (fun v=>Res.ok v p₁) (k a))=_
 rw [hk]
theorem dN {k:V→V→Option V} (hx:x c ρ p=.ok a p₁) (hy:y c ρ p₁=.ok b aO) (hk:k a b=some v):c2 k x y c ρ p=.ok v aO:=by
 show (@Res.rec (fun _=>Res) Res.stuck (fun a p=>(@Res.rec (fun _=>Res) Res.stuck (fun b p=>(@Option.rec V (fun _=>Res) Res.stuck (fun v=>Res.ok v p) (k a b))) Res.exc (y c ρ p))) Res.exc (x c ρ p))=_
 rw [hx]
 show (@Res.rec (fun _=>Res) Res.stuck (fun b p=>(@Option.rec V (fun _=>Res) Res.stuck (fun v=>Res.ok v p) (k a b))) Res.exc (y c ρ p₁))=_
 rw [hy]
 show (@Option.rec V (fun _=>Res) Res.stuck (fun v=>Res.ok v aO) (k a b))=_
 rw [hk]
theorem iw:a0 [] c ρ p=.ok [] p:=rfl
theorem cX {xs:List aq} {m:List V} (hx:x c ρ p=.ok v p₁) (h:a0 xs c ρ p₁=.ok m aO):a0 (x::xs) c ρ p=.ok (v::m) aO:=by
 show (@Res.rec (fun _=>aw) aw.stuck (fun v p=>(@aw.rec (fun _=>aw) aw.stuck (fun l p=>aw.ok (v::l) p) aw.exc (a0 xs c ρ p))) aw.exc (x c ρ p))=_
 rw [hx]
 show (@aw.rec (fun _=>aw) aw.stuck (fun l p=>aw.ok (v::l) p) aw.exc (a0 xs c ρ p₁))=_
 rw [h]
theorem bz {s t:bb} (h:s c ρ p=.next ρ' p₁):ag s t c ρ p=t c ρ' p₁:=by
 show (@af.rec (fun _=>af) af.stuck (t c) af.brk af.cont af.ret af.exc (s c ρ p))=_
 rw [h]
theorem wm {s:bw} (hx:x c ρ p=.ok v p₁):aA s x c ρ p=.next (s ρ (.val v)) p₁:=by
 show (@Res.rec (fun _=>af) af.stuck (fun v p=>af.next (s ρ (Slot.val v)) p) (fun e p=>af.exc e ρ p) (x c ρ p))=_
 rw [hx]
theorem mK {ts:List (bw×Bool)} {es:List aq} {m:List V} (hx:a0 es c ρ p=.ok m p₁) (hs:storeAll ts m ρ=some ρ'):br ts es c ρ p=.next ρ' p₁:=by
 show (@aw.rec (fun _=>af) af.stuck (fun l p=>(@Option.rec Fr (fun _=>af) af.stuck (fun ρ=>af.next ρ p) (storeAll ts l ρ))) (fun e p=>af.exc e ρ p) (a0 es c ρ p))=_
 rw [hx]
 show (@Option.rec Fr (fun _=>af) af.stuck (fun ρ=>af.next ρ p₁) (storeAll ts m ρ))=_
 rw [hs]
theorem qk {js:List bw} {m:List V} (hx:x c ρ p=.ok v p₁) (hm:itemsOf v=some m) (hs:storeAll (vals js) m ρ=some ρ'):eU js x c ρ p=.next ρ' p₁:=by
 show (@Res.rec (fun _=>af) af.stuck (fun v p=>(@Option.rec (List V) (fun _=>af) af.stuck (fun l=>(@Option.rec Fr (fun _=>af) af.stuck (fun ρ=>af.next ρ p) (storeAll (vals js) l ρ))) (itemsOf v))) (fun e p=>af.exc e ρ p) (x c ρ p))=_
 rw [hx]
 show (@Option.rec (List V) (fun _=>af) af.stuck (fun l=>(@Option.rec Fr (fun _=>af) af.stuck (fun ρ=>af.next ρ p₁) (storeAll (vals js) l ρ))) (itemsOf v))=_
 rw [hm]
 show (@Option.rec Fr (fun _=>af) af.stuck (fun ρ=>af.next ρ p₁) (storeAll (vals js) m ρ))=_
 rw [hs]
theorem Ae {s t:bb} (hx:x c ρ p=.ok (.bool true) p₁):aE x s t c ρ p=s c ρ p₁:=by
 show (@Res.rec (fun _=>af) af.stuck (fun v p=>(@V.rec (fun _=>af) (fun _=>Unit) af.stuck (fun q=>(@Bool.rec (fun _=>af) (t c ρ p) (s c ρ p) q)) (fun _=>af.stuck) (fun _=>af.stuck) (fun _ _=>af.stuck) (fun _ _=>af.stuck) (fun _ _ _ _=>af.stuck) (fun _ _ _=>af.stuck) () (fun _ _ _ _=>()) v)) (fun e p=>af.exc e ρ p) (x c ρ p))=_
 rw [hx]
theorem uV {s t:bb} (hx:x c ρ p=.ok (.bool false) p₁):aE x s t c ρ p=t c ρ p₁:=by
 show (@Res.rec (fun _=>af) af.stuck (fun v p=>(@V.rec (fun _=>af) (fun _=>Unit) af.stuck (fun q=>(@Bool.rec (fun _=>af) (t c ρ p) (s c ρ p) q)) (fun _=>af.stuck) (fun _=>af.stuck) (fun _ _=>af.stuck) (fun _ _=>af.stuck) (fun _ _ _ _=>af.stuck) (fun _ _ _=>af.stuck) () (fun _ _ _ _=>()) v)) (fun e p=>af.exc e ρ p) (x c ρ p))=_
 rw [hx]
theorem qn {t:d8} {body:bb} {m:List V} (hx:x c ρ p=.ok v p₁) (hm:itemsOf v=some m):bI t x body c ρ p=forL t body c m ρ p₁:=by
 show (@Res.rec (fun _=>af) af.stuck (fun v p=>(@Option.rec (List V) (fun _=>af) af.stuck (fun l=>forL t body c l ρ p) (itemsOf v))) (fun e p=>af.exc e ρ p) (x c ρ p))=_
 rw [hx]
 show (@Option.rec (List V) (fun _=>af) af.stuck (fun l=>forL t body c l ρ p₁) (itemsOf v))=_
 rw [hm]
theorem gq {s:bw} {body:bb} {m:List V} (h:body c (s ρ (.val v)) p=.next ρ' p₁):forL (.one s) body c (v::m) ρ p=forL (.one s) body c m ρ' p₁:=by
 show (@af.rec (fun _=>af) af.stuck (forL (.one s) body c m) af.next (forL (.one s) body c m) af.ret af.exc (body c (s ρ (.val v)) p))=_
 rw [h]
theorem jo {t:d8} {body:bb}:forL t body c [] ρ p=.next ρ p:=rfl
theorem m5 {s:bw} (h:g ρ=.au):bV g s c ρ p=.next ρ p:=by
 show (@Slot.rec (fun _=>af) _ _ _ _ (g ρ))=_
 rw [h]
theorem ql (hx:x c ρ p=.ok v p₁):ai x c ρ p=.ret v ρ p₁:=by
 show (@Res.rec (fun _=>af) af.stuck (fun v p=>af.ret v ρ p) (fun e p=>af.exc e ρ p) (x c ρ p))=_
 rw [hx]
theorem iu {T:Tab} {o:ic} {args:List Slot} {d:ak} (ho:o f=none) (hT:T.get f=some d) (hl:args.length=d.np) (h:d.body (aU T o n) (fill args) p=.ret v ρ' p₁):aU T o (n + 1) f args p=.ok v p₁:=by
 rw [jC,ho]
 dsimp only
 rw [hT]
 show (@Bool.rec (fun _=>Res) Res.stuck (@af.rec (fun _=>Res) Res.stuck (fun _ p=>Res.ok V.none p) (fun _ _=>Res.stuck) (fun _ _=>Res.stuck) (fun v _ p=>Res.ok v p) (fun k _ p=>Res.exc k p) (d.body (aU T o n) (fill args) p)) (Nat.beq (cW args) d.np))=_
 rw [bD,hl,show Nat.beq d.np d.np=true from Nat.beq_refl _,h]
end
def Good (b:Nat) (p:List V):Prop:=∃ (is:List Int) (k:Nat) (c:Int),p=[.lst (is.map .int),.int (.ofNat k),.int c]∧k≤b∧b < 1000
theorem wA (x:Int) {m:Nat} (hm:0 < m):∃ r,r < m∧mX x (.ofNat m)=.ofNat r:=by
 rw [qD]
 have h1:Int.fmod x (Int.ofNat m)=x % (Int.ofNat m):=Int.fmod_eq_emod_of_nonneg x (by simp)
 have h2:0≤x % (Int.ofNat m):=Int.emod_nonneg _ (by simp;omega)
 have h3:x % (Int.ofNat m) < Int.ofNat m:=Int.emod_lt_of_pos _ (by simp;omega)
 refine ⟨(x % (Int.ofNat m)).toNat,by have:(Int.ofNat m)=(m:Int):=rfl;omega,?_⟩
 rw [h1]
 show _=((x % Int.ofNat m).toNat:Int)
 omega
theorem qx (x:Int) {m:Nat} (hm:0 < m):∃ r,r < m∧eC (.int x) (.int (.ofNat m))=some (.int (.ofNat r)):=by
 obtain ⟨r,h1,h2⟩:=wA x hm
 refine ⟨r,h1,?_⟩
 show (@Bool.rec (fun _=>Option V) (some (.int (mX x (.ofNat m)))) none (nF (.ofNat m) (.ofNat 0)))=_
 have:nF (.ofNat m) (.ofNat 0)=false:=by
  cases m with
  | zero=>exact absurd hm (Nat.lt_irrefl _)
  | succ m=>rfl
 rw [this,h2]
noncomputable def yE:bb:=ai (c2 eC (c2 ba (c2 ba (c2 bg (cK (.int (.ofNat 2))) (dZ Fr.s0 (cK (.int 1)))) (c2 dS (c2 bg (dZ Fr.s0 (cK (.int 1))) (dZ Fr.s0 (cK (.int 1)))) (cK (.int (.ofNat 3))))) (dZ Fr.s0 (cK (.int 2)))) (aa Fr.s1))
noncomputable def lQ:bb:=ag (dW Fr.s0 fS (cK (.int (.ofNat 1))) (c2 ba (dZ Fr.s0 (cK (.int 1))) (cK (.int (.ofNat 1)))))
 (ag (aE (c2 nC (dZ Fr.s0 (cK (.int 1))) (c1 aD (dZ Fr.s0 (cK (.int 0))))) (ai (c2 eC (c2 ah (dZ Fr.s0 (cK (.int 0))) (c2 bj (dZ Fr.s0 (cK (.int 1))) (cK (.int (.ofNat 1))))) (aa Fr.s1))) aB) yE)
theorem yg:mG=ak.mk 2 lQ:=rfl
section
variable {T:Tab} {o:ic}
theorem pick (hT:T.get 133=some mG) (ho:o 133=none) {b:Nat} {p:List V} (hp:Good b p) (hb:b + 1 < 1000) {m:Nat} (hm:0 < m):
  ∃ r p',r < m∧Good (b + 1) p'∧∀ n,aU T o (n + 1) 133 [.au,.val (.int (.ofNat m))] p=.ok (.int (.ofNat r)) p':=by
 obtain ⟨is,k,c0,rfl,hk,_⟩:=hp
 have first:∀ c:Call,dW Fr.s0 fS (cK (.int (.ofNat 1))) (c2 ba (dZ Fr.s0 (cK (.int 1))) (cK (.int (.ofNat 1)))) c (fill [.au,.val (.int (.ofNat m))]) [.lst (is.map .int),.int (.ofNat k),.int c0]=.next (fill [.au,.val (.int (.ofNat m))]) [.lst (is.map .int),.int (.ofNat (k + 1)),.int c0]:=fun c=>rfl
 have g:Good (b + 1) [.lst (is.map .int),.int (.ofNat (k + 1)),.int c0]:=⟨is,k + 1,c0,rfl,by omega,hb⟩
 have lel:∀ c:Call,c2 nC (dZ Fr.s0 (cK (.int 1))) (c1 aD (dZ Fr.s0 (cK (.int 0)))) c (fill [.au,.val (.int (.ofNat m))]) [.lst (is.map .int),.int (.ofNat (k + 1)),.int c0]=.ok (.bool (decide (k < is.length))) [.lst (is.map .int),.int (.ofNat (k + 1)),.int c0]:=fun c=>by
  refine dN (a:=.int (.ofNat (k + 1))) (b:=.int (.ofNat (cW (is.map V.int)))) rfl rfl ?_
  show some (V.bool (sT (.ofNat (k + 1)) (.ofNat (cW (is.map V.int)))))=_
  rw [ph,bD,List.length_map]
  have:(Int.ofNat (k + 1)≤Int.ofNat is.length)↔k < is.length:=by
   show ((k + 1:Nat):Int)≤(is.length:Int)↔_
   omega
  simp only [this]
 by_cases hlt:k < is.length
 ·obtain ⟨r,hr,he⟩:=qx (is[k]) hm
  refine ⟨r,_,hr,g,fun n=>?_⟩
  refine iu (d:=ak.mk 2 lQ) (ρ':=fill [.au,.val (.int (.ofNat m))]) ho (yg ▸ hT) rfl ?_
  show lQ (aU T o n) (fill [.au,.val (.int (.ofNat m))]) [.lst (is.map .int),.int (.ofNat k),.int c0]=_
  unfold lQ
  refine (bz (first _)).trans ?_
  have lel':=lel (aU T o n)
  rw [decide_eq_true hlt] at lel'
  have ret:ai (c2 eC (c2 ah (dZ Fr.s0 (cK (.int 0))) (c2 bj (dZ Fr.s0 (cK (.int 1))) (cK (.int (.ofNat 1))))) (aa Fr.s1)) (aU T o n) (fill [.au,.val (.int (.ofNat m))]) [.lst (is.map .int),.int (.ofNat (k + 1)),.int c0]=.ret (.int (.ofNat r)) (fill [.au,.val (.int (.ofNat m))]) [.lst (is.map .int),.int (.ofNat (k + 1)),.int c0]:=by
   refine ql (dN (a:=.int is[k]) (b:=.int (.ofNat m)) (dN (a:=.lst (is.map V.int)) (b:=.int (.ofNat k)) rfl rfl ?_) rfl he)
   show dM (is.map V.int) k=_
   rw [fq,List.getElem?_map,List.getElem?_eq_getElem hlt];rfl
  show (@af.rec (fun _=>af) af.stuck _ af.brk af.cont af.ret af.exc (aE _ (ai _) aB (aU T o n) _ _))=_
  rw [(Ae lel').trans ret]
 ·obtain ⟨r,hr,he⟩:=qx (bR (bR (eV (.ofNat 2) (.ofNat (k + 1))) (mY (eV (.ofNat (k + 1)) (.ofNat (k + 1))) (.ofNat 3))) c0) hm
  refine ⟨r,_,hr,g,fun n=>?_⟩
  refine iu (d:=ak.mk 2 lQ) (ρ':=fill [.au,.val (.int (.ofNat m))]) ho (yg ▸ hT) rfl ?_
  show lQ (aU T o n) (fill [.au,.val (.int (.ofNat m))]) [.lst (is.map .int),.int (.ofNat k),.int c0]=_
  unfold lQ
  refine (bz (first _)).trans ?_
  have lel':=lel (aU T o n)
  rw [decide_eq_false hlt] at lel'
  refine (bz (uV lel')).trans ?_
  have small:fb (.ofNat (k + 1))=true:=by
   show Nat.blt (k + 1) 18446744073709551616=true
   rw [blt_dec];exact decide_eq_true (by omega)
  unfold yE
  refine ql (dN (a:=.int (bR (bR (eV (.ofNat 2) (.ofNat (k + 1))) (mY (eV (.ofNat (k + 1)) (.ofNat (k + 1))) (.ofNat 3))) c0)) (b:=.int (.ofNat m)) (dN (a:=.int (bR (eV (.ofNat 2) (.ofNat (k + 1))) (mY (eV (.ofNat (k + 1)) (.ofNat (k + 1))) (.ofNat 3)))) (b:=.int c0) (dN (a:=.int (eV (.ofNat 2) (.ofNat (k + 1)))) (b:=.int (mY (eV (.ofNat (k + 1)) (.ofNat (k + 1))) (.ofNat 3))) (dN (a:=.int (.ofNat 2)) (b:=.int (.ofNat (k + 1))) rfl rfl rfl) (dN (a:=.int (eV (.ofNat (k + 1)) (.ofNat (k + 1)))) (b:=.int (.ofNat 3)) (dN (a:=.int (.ofNat (k + 1))) (b:=.int (.ofNat (k + 1))) rfl rfl ?_) rfl rfl) rfl) rfl rfl) rfl he)
  show (@Bool.rec (fun _=>Option V) _ (some (V.int (eV (.ofNat (k + 1)) (.ofNat (k + 1))))) (fb (.ofNat (k + 1))))=_
  rw [small]
end
noncomputable section
def kinds:List (V×V):=[((.lst [(.int (.ofNat 1))]),(.lst [])),
 ((.lst [(.int (.negSucc 1)),(.int (.ofNat 0)),(.int (.ofNat 1))]),(.lst [(.tup [(.str [112,114,111,100]),(.tup [(.tup [(.str [110,117,109]),(.int (.negSucc 0)),(.int (.ofNat 1))]),(.tup [(.str [112,111,119]),(.tup [(.str [110,117,109]),(.int (.ofNat 2)),(.int (.ofNat 1))]),(.tup [(.str [110,117,109]),(.int (.ofNat 1)),(.int (.ofNat 2))])])])]),(.tup [(.str [112,111,119]),(.tup [(.str [110,117,109]),(.int (.ofNat 2)),(.int (.ofNat 1))]),(.tup [(.str [110,117,109]),(.int (.ofNat 1)),(.int (.ofNat 2))])])])),
 ((.lst [(.int (.negSucc 2)),(.int (.ofNat 0)),(.int (.ofNat 1))]),(.lst [(.tup [(.str [112,114,111,100]),(.tup [(.tup [(.str [110,117,109]),(.int (.negSucc 0)),(.int (.ofNat 1))]),(.tup [(.str [112,111,119]),(.tup [(.str [110,117,109]),(.int (.ofNat 3)),(.int (.ofNat 1))]),(.tup [(.str [110,117,109]),(.int (.ofNat 1)),(.int (.ofNat 2))])])])]),(.tup [(.str [112,111,119]),(.tup [(.str [110,117,109]),(.int (.ofNat 3)),(.int (.ofNat 1))]),(.tup [(.str [110,117,109]),(.int (.ofNat 1)),(.int (.ofNat 2))])])])),
 ((.lst [(.int (.negSucc 4)),(.int (.ofNat 0)),(.int (.ofNat 1))]),(.lst [(.tup [(.str [112,114,111,100]),(.tup [(.tup [(.str [110,117,109]),(.int (.negSucc 0)),(.int (.ofNat 1))]),(.tup [(.str [112,111,119]),(.tup [(.str [110,117,109]),(.int (.ofNat 5)),(.int (.ofNat 1))]),(.tup [(.str [110,117,109]),(.int (.ofNat 1)),(.int (.ofNat 2))])])])]),(.tup [(.str [112,111,119]),(.tup [(.str [110,117,109]),(.int (.ofNat 5)),(.int (.ofNat 1))]),(.tup [(.str [110,117,109]),(.int (.ofNat 1)),(.int (.ofNat 2))])])])),
 ((.lst [(.int (.ofNat 1)),(.int (.ofNat 0)),(.int (.ofNat 1))]),(.lst [])),
 ((.lst [(.int (.ofNat 2)),(.int (.ofNat 0)),(.int (.ofNat 1))]),(.lst [])),
 ((.lst [(.int (.ofNat 3)),(.int (.ofNat 0)),(.int (.ofNat 1))]),(.lst [])),
 ((.lst [(.int (.ofNat 1)),(.int (.ofNat 0)),(.int (.ofNat 0)),(.int (.ofNat 0)),(.int (.ofNat 1))]),(.lst [])),
 ((.lst [(.int (.negSucc 1)),(.int (.ofNat 0)),(.int (.ofNat 0)),(.int (.ofNat 1))]),(.str [108,105,109,105,116])),
 ((.lst [(.int (.negSucc 1)),(.int (.ofNat 0)),(.int (.ofNat 0)),(.int (.ofNat 0)),(.int (.ofNat 1))]),(.str [108,105,109,105,116]))]
def pb:Nat→Nat→Nat
 | 0,0=>0
 | 0,1=>0
 | 0,2=>0
 | 1,0=>1
 | 1,1=>2
 | 1,2=>3
 | 2,0=>4
 | 2,1=>5
 | 2,2=>6
 | 3,0=>7
 | 3,1=>7
 | 3,2=>7
 | 4,0=>8
 | 4,1=>8
 | 4,2=>8
 | 5,0=>9
 | 5,1=>9
 | 5,2=>9
 | _,_=>0
def int (n:Nat):V:=.int (.ofNat n)
def uO:bb:=aA aC (c2 ba (cK (V.int (Int.ofNat 1))) (ae 133 [aS.slot Fr.s1,aS.exp (cK (V.int (Int.ofNat 3)))]))
def rP:bb:=ag (aA aI (av [cK (V.str [112,111,119]),ae 134 [aS.exp (c2 ah (ax [cK (V.int (Int.ofNat 2)),cK (V.int (Int.ofNat 3)),cK (V.int (Int.ofNat 5))]) (c2 bj (aa Fr.s2) (cK (V.int (Int.ofNat 1))))),aS.exp (cK (V.int (Int.ofNat 1)))],ae 134 [aS.exp (cK (V.int (Int.ofNat 1))),aS.exp (cK (V.int (Int.ofNat 2)))]])) (ag (aE (c2 aF (aa Fr.s0) (cK (V.int (Int.ofNat 0)))) (ai (av [ax [cK (V.int (Int.ofNat 1))],ax []])) aB) (ag (aE (c2 aF (aa Fr.s0) (cK (V.int (Int.ofNat 1)))) (ai (av [ax [c2 bj (cK (V.int (Int.ofNat 0))) (c2 ah (ax [cK (V.int (Int.ofNat 2)),cK (V.int (Int.ofNat 3)),cK (V.int (Int.ofNat 5))]) (c2 bj (aa Fr.s2) (cK (V.int (Int.ofNat 1))))),cK (V.int (Int.ofNat 0)),cK (V.int (Int.ofNat 1))],ax [ae 55 [aS.exp (av [cK (V.str [112,114,111,100]),av [ae 134 [aS.exp (c2 bj (cK (V.int (Int.ofNat 0))) (cK (V.int (Int.ofNat 1)))),aS.exp (cK (V.int (Int.ofNat 1)))],ao Fr.s3]])],ao Fr.s3]])) aB) (ag (aE (c2 aF (aa Fr.s0) (cK (V.int (Int.ofNat 2)))) (ai (av [ax [ao Fr.s2,cK (V.int (Int.ofNat 0)),cK (V.int (Int.ofNat 1))],ax []])) aB) (ag (aE (c2 aF (aa Fr.s0) (cK (V.int (Int.ofNat 3)))) (ai (av [ax [cK (V.int (Int.ofNat 1)),cK (V.int (Int.ofNat 0)),cK (V.int (Int.ofNat 0)),cK (V.int (Int.ofNat 0)),cK (V.int (Int.ofNat 1))],ax []])) aB) (ai (aR (c2 aF (aa Fr.s0) (cK (V.int (Int.ofNat 4)))) (av [ax [c2 bj (cK (V.int (Int.ofNat 0))) (cK (V.int (Int.ofNat 2))),cK (V.int (Int.ofNat 0)),cK (V.int (Int.ofNat 0)),cK (V.int (Int.ofNat 1))],cK (V.str [108,105,109,105,116])]) (av [ax [c2 bj (cK (V.int (Int.ofNat 0))) (cK (V.int (Int.ofNat 2))),cK (V.int (Int.ofNat 0)),cK (V.int (Int.ofNat 0)),cK (V.int (Int.ofNat 0)),cK (V.int (Int.ofNat 1))],cK (V.str [108,105,109,105,116])])))))))
theorem BO:oq=ak.mk 2 (ag uO rP):=rfl
def rW:bb:=eU [aK,aC] (ae 138 [aS.exp (ae 133 [aS.slot Fr.s0,aS.exp (cK (V.int (Int.ofNat 6)))]),aS.slot Fr.s0])
def rS:bb:=br [(aI,false),(aX,true)] [ao Fr.s1,ax []]
def lN:bb:=br [(cj,false),(eT,false)] [c2 bj (ae 133 [aS.slot Fr.s0,aS.exp (cK (V.int (Int.ofNat 5)))]) (cK (V.int (Int.ofNat 2))),c2 ba (cK (V.int (Int.ofNat 1))) (ae 133 [aS.slot Fr.s0,aS.exp (cK (V.int (Int.ofNat 2)))])]
def dT:bb:=ag (aA aI (ae 137 [aS.slot Fr.s3,aS.exp (ax [c2 bj (cK (V.int (Int.ofNat 0))) (aa Fr.s6),ao Fr.s7])])) (df Fr.s4 aX (av [c2 dS (c2 bg (cK (V.int (Int.ofNat 6))) (aa Fr.s6)) (aa Fr.s7),ae 55 [aS.exp (ae 134 [aS.slot Fr.s6,aS.slot Fr.s7])]]))
def rT:aq:=c1 eA (ae 133 [aS.slot Fr.s0,aS.exp (cK (V.int (Int.ofNat 3)))])
def jI:bb:=ag (aA iD (bt (bB (d8.two n5 rm) (c1 sortItemsF (c1 jA (aa Fr.s4))) [] (bF (ao Fr.s11))))) (ag (aA mJ (ae 135 [aS.exp (av [cK (V.str [101,113]),ae 136 [aS.slot Fr.s3],ae 134 [aS.exp (cK (V.int (Int.ofNat 0))),aS.exp (cK (V.int (Int.ofNat 1)))]]),aS.exp (aR (c2 bU (c1 aD (aa Fr.s1)) (cK (V.int (Int.ofNat 1)))) (ao Fr.s1) (ax []))])) (ai (c2 aF (aa Fr.s9) (aR (c1 ff (aa Fr.s2)) (ao Fr.s2) (c2 ba (aa Fr.s8) (aa Fr.s2))))))
theorem BN:oo=ak.mk 1 (ag rW (ag rS (ag (bI (d8.one bq) rT (ag lN dT)) jI))):=rfl
def uN:bb:=ag (bV Fr.s1 aK) (aE (c1 hJ (ae 139 [aS.slot Fr.s1])) (ai (cK (V.bool false))) aB)
def uT:bb:=aA aC (ae 140 [])
def rO:bb:=ag (bV Fr.s1 aK) (eU [aX,bq] (c2 ah (aa Fr.s2) (ae 133 [aS.slot Fr.s1,aS.exp (c1 aD (aa Fr.s2))])))
def pT:bb:=aE (c2 cF (ae 135 [aS.slot Fr.s4,aS.exp (ax [])]) (aa Fr.s5)) (ai (cK (V.bool false))) aB
def uP:bb:=ag (bV Fr.s1 aK) (br [(cj,false),(eT,false)] [c2 ba (cK (V.int (Int.ofNat 1))) (ae 133 [aS.slot Fr.s1,aS.exp (cK (V.int (Int.ofNat 4)))]),c2 bj (ae 133 [aS.slot Fr.s1,aS.exp (cK (V.int (Int.ofNat 5)))]) (cK (V.int (Int.ofNat 2)))])
def uM:bb:=ag (aA aX (av [cK (V.str [101,113]),av [cK (V.str [112,114,111,100]),av [ae 134 [aS.slot Fr.s6,aS.exp (cK (V.int (Int.ofNat 1)))],av [cK (V.str [115,121,109]),cK (V.str [120])]]],av [cK (V.str [115,117,109]),av [av [cK (V.str [112,114,111,100]),av [ae 134 [aS.slot Fr.s7,aS.exp (cK (V.int (Int.ofNat 1)))],av [cK (V.str [115,121,109]),cK (V.str [121])]]],ae 134 [aS.exp (c2 ba (aa Fr.s6) (aa Fr.s7)),aS.exp (cK (V.int (Int.ofNat 1)))]]]])) (ag (aA iD (ae 135 [aS.slot Fr.s4,aS.exp (ax [])])) (ai (bL (c2 aF (c1 aD (aa Fr.s8)) (cK (V.int (Int.ofNat 1)))) (bL (ae 132 [aS.slot Fr.s4,aS.exp (cK (V.str [120])),aS.exp (c2 ah (aa Fr.s8) (cK (V.int (Int.ofNat 0))))]) (c1 hJ (ae 132 [aS.slot Fr.s4,aS.exp (cK (V.str [120])),aS.exp (av [cK (V.str [115,117,109]),av [c2 ah (aa Fr.s8) (cK (V.int (Int.ofNat 0))),ae 134 [aS.exp (cK (V.int (Int.ofNat 1))),aS.exp (cK (V.int (Int.ofNat 1)))]]])]))))))
def yG:bb:=ag uN (ag uT (ag (bI (d8.one aI) (c1 eA (cK (V.int (Int.ofNat 2)))) (ag rO pT)) (ag uP uM)))
theorem lF:compB gi sZ ((bM 141).drop 1)=some yG:=by kernel_rfl
end
noncomputable section
def lj:V:=(.lst [(.tup [(.tup [(.str [101,113]),(.tup [(.str [115,121,109]),(.str [120])]),(.tup [(.str [115,121,109]),(.str [120])])]),(.str [100,111,109,97,105,110])]),(.tup [(.tup [(.str [101,113]),(.tup [(.str [110,117,109]),(.int (.ofNat 1)),(.int (.ofNat 1))]),(.tup [(.str [110,117,109]),(.int (.ofNat 2)),(.int (.ofNat 1))])]),(.lst [])]),(.tup [(.tup [(.str [110,117,109]),(.int (.ofNat 0)),(.int (.ofNat 1))]),(.str [100,111,109,97,105,110])]),(.tup [(.tup [(.str [110,117,109]),(.int (.ofNat 3)),(.int (.ofNat 2))]),(.lst [])]),(.tup [(.tup [(.str [101,113]),(.tup [(.str [115,121,109]),(.str [121])]),(.tup [(.str [115,121,109]),(.str [121])])]),(.str [100,111,109,97,105,110])]),(.tup [(.tup [(.str [101,113]),(.tup [(.str [115,121,109]),(.str [121])]),(.tup [(.str [110,117,109]),(.int (.ofNat 1)),(.int (.ofNat 1))])]),(.lst [])]),(.tup [(.tup [(.str [99,97,108,108]),(.str [115,105,110]),(.tup [(.tup [(.str [115,121,109]),(.str [120])])])]),(.str [108,105,109,105,116])]),(.tup [(.tup [(.str [112,111,119]),(.tup [(.str [115,121,109]),(.str [120])]),(.tup [(.str [115,121,109]),(.str [121])])]),(.str [108,105,109,105,116])]),(.tup [(.tup [(.str [115,117,109]),(.tup [(.tup [(.str [112,114,111,100]),(.tup [(.tup [(.str [115,121,109]),(.str [121])]),(.tup [(.str [112,111,119]),(.tup [(.str [115,121,109]),(.str [120])]),(.tup [(.str [110,117,109]),(.int (.ofNat 3)),(.int (.ofNat 1))])])])]),(.tup [(.str [110,117,109]),(.int (.ofNat 1)),(.int (.ofNat 1))])])]),(.str [108,105,109,105,116])]),(.tup [(.tup [(.str [101,113]),(.tup [(.str [112,114,111,100]),(.tup [(.tup [(.str [115,121,109]),(.str [120])]),(.tup [(.str [115,121,109]),(.str [121])])])]),(.tup [(.str [112,114,111,100]),(.tup [(.tup [(.str [115,121,109]),(.str [121])]),(.tup [(.str [115,121,109]),(.str [120])])])])]),(.str [100,111,109,97,105,110])]),(.tup [(.tup [(.str [115,117,109]),(.tup [(.tup [(.str [115,121,109]),(.str [120])]),(.tup [(.str [115,121,109]),(.str [121])])])]),(.lst [(.tup [(.str [112,114,111,100]),(.tup [(.tup [(.str [110,117,109]),(.int (.negSucc 0)),(.int (.ofNat 1))]),(.tup [(.str [115,121,109]),(.str [121])])])])])]),(.tup [(.tup [(.str [101,113]),(.tup [(.str [112,114,111,100]),(.tup [(.tup [(.str [110,117,109]),(.int (.ofNat 2)),(.int (.ofNat 1))]),(.tup [(.str [115,121,109]),(.str [120])])])]),(.tup [(.str [115,121,109]),(.str [121])])]),(.lst [(.tup [(.str [112,114,111,100]),(.tup [(.tup [(.str [110,117,109]),(.int (.ofNat 1)),(.int (.ofNat 2))]),(.tup [(.str [115,121,109]),(.str [121])])])])])])])
def kindOf (k:Nat):V×V:=kinds.getD k (.none,.none)
def rH (r0 r1:Nat):Fr:=aC (fill [.val (int r0),.au]) (.val (.int (bR (.ofNat 1) (.ofNat r1))))
def eS (k:Nat):Fr:=aX (aI (aC (aK (fill [.au]) (.val (kindOf k).1)) (.val (kindOf k).2)) (.val (kindOf k).1)) (.own (.lst []))
def turn (ρ:Fr) (i t b:Nat):Fr:=eT (cj (bq ρ (.val (int i))) (.val (.int (dw (.ofNat t) (.ofNat 2))))) (.val (.int (bR (.ofNat 1) (.ofNat b))))
def BL:af→Fr
 | .next ρ _=>ρ
 | _=>j5
def retT:af→Option (List V)
 | .ret (.bool true) _ p=>some p
 | _=>none
def uW (c:Call) (ρ:Fr) (p:List V):Option (List V):=match dT c ρ p with
 | .next ρ p=>retT (jI c ρ p)
 | _=>none
def mv (o:ic) (k t b:Nat):Fr:=BL (dT (aU TK o 59) (turn (eS k) 0 t b) [])
def eW (r:Nat):V×V:=match ah lj (int r) with
 | some (.tup [t,d])=>(t,d)
 | _=>(.none,.none)
def mu (x0:V):Fr:=aK (fill [.val x0]) .au
end
structure fP (o:ic):Prop where
 o133:o 133=none
 o138:o 138=none
 o139:o 139=none
 fac:∀ r0 r1,r0 < 6→r1 < 3→∀ p,(rP (aU TK o 58) (rH r0 r1) p).res=.ok (.tup [(kindOf (pb r0 r1)).1,(kindOf (pb r0 r1)).2]) p
 l0:∀ k,k < 10→∀ p,retT (jI (aU TK o 59) (eS k) p)=some p
 q1:∀ k t b,k < 10→t < 5→b < 2→∀ p,dT (aU TK o 59) (turn (eS k) 0 t b) p=.next (mv o k t b) p
 s0:∀ k t b,k < 10→t < 5→b < 2→Fr.s0 (mv o k t b)=.au
 l1:∀ k t b,k < 10→t < 5→b < 2→∀ p,retT (jI (aU TK o 59) (mv o k t b) p)=some p
 l2:∀ k t b t' b',k < 10→t < 5→b < 2→t' < 5→b' < 2→∀ p,uW (aU TK o 59) (turn (mv o k t b) 1 t' b') p=some p
 e1:∀ x0 p,uT (aU TK o 60) (mu x0) p=.next (aC (mu x0) (.val lj)) p
 e2:∀ r,r < 12→∀ ρ p,pT (aU TK o 60) (bq (aX ρ (.val (eW r).1)) (.val (eW r).2)) p=.next (bq (aX ρ (.val (eW r).1)) (.val (eW r).2)) p
 e3:∀ a b,a < 4→b < 5→∀ ρ p,retT (uM (aU TK o 60) (eT (cj ρ (.val (.int (bR (.ofNat 1) (.ofNat a))))) (.val (.int (dw (.ofNat b) (.ofNat 2))))) p)=some p
theorem wR:∀ r,r < 12→ah lj (int r)=some (.tup [(eW r).1,(eW r).2]):=by
 intro r hr
 match r,hr with
 | 0,_ | 1,_ | 2,_ | 3,_ | 4,_ | 5,_ | 6,_ | 7,_ | 8,_ | 9,_ | 10,_ | 11,_=>rfl
theorem x8 (r0 r1:Nat) (h0:r0 < 6) (h1:r1 < 3):pb r0 r1 < 10:=(show ∀ r0,r0 < 6→∀ r1,r1 < 3→pb r0 r1 < 10 by decide) r0 h0 r1 h1
theorem ie {r:af} {p:List V} (h:retT r=some p):∃ ρ,r=.ret (.bool true) ρ p:=by
 unfold retT at h
 split at h
 ·cases h;exact ⟨_,rfl⟩
 ·cases h
theorem wq {r:af} {l:List V} {p:List V} (h:r.res=.ok (.tup l) p):∃ ρ,r=.ret (.tup l) ρ p:=by
 cases r with
 | ret v ρ q=>
  have h:Res.ok v q=.ok (.tup l) p:=h
  cases h;exact ⟨_,rfl⟩
 | next ρ q=>have h:Res.ok V.none q=.ok (.tup l) p:=h;cases h
 | stuck=>cases (show Res.stuck=.ok (.tup l) p from h)
 | brk=>cases (show Res.stuck=.ok (.tup l) p from h)
 | cont=>cases (show Res.stuck=.ok (.tup l) p from h)
 | exc k ρ q=>cases (show Res.exc k q=.ok (.tup l) p from h)
theorem Good.up {b b':Nat} {p:List V} (h:Good b p) (hb:b≤b') (hb':b' < 1000):Good b' p:=let ⟨is,k,c,e,h1,_⟩:=h;⟨is,k,c,e,by omega,hb'⟩
section
variable {o:ic} {b:Nat} {p:List V}
theorem gm:TK.get 133=some mG:=rfl
theorem xh:TK.get 138=some oq:=rfl
theorem xg:TK.get 139=some oo:=rfl
theorem jc {c:Call} {g:cZ} {ρ:Fr} {m r:Nat} {p p':List V} (hg:g ρ=.au) (h:c 133 [.au,.val (int m)] p=.ok (int r) p'):ae 133 [.slot g,.exp (cK (int m))] c ρ p=.ok (int r) p':=
 (jE (iy hg (kl rfl rfl))).trans h
theorem uq (L:fP o) (hp:Good b p) (hb:b + 1 < 1000) {r0:Nat} (h0:r0 < 6):∃ k p',k < 10∧Good (b + 1) p'∧aU TK o 59 138 [.val (int r0),.au] p=.ok (.tup [(kindOf k).1,(kindOf k).2]) p':=by
 obtain ⟨r1,p₁,h1,g1,e1⟩:=pick gm L.o133 hp hb (m:=3) (by omega)
 obtain ⟨ρ',e2⟩:=wq (L.fac r0 r1 h0 h1 p₁)
 refine ⟨pb r0 r1,p₁,x8 r0 r1 h0 h1,g1,iu (ρ':=ρ') L.o138 (BO ▸ xh) rfl ?_⟩
 show ag uO rP (aU TK o 58) (fill [.val (int r0),.au]) p=_
 refine (bz (ρ':=rH r0 r1) (p₁:=p₁) ?_).trans e2
 unfold uO
 exact wm (v:=.int (bR (.ofNat 1) (.ofNat r1))) (dN (a:=int 1) (b:=int r1) rfl (jc (m:=3) rfl (e1 57)) rfl)
theorem jO (L:fP o) (hp:Good b p) (hb:b + 2 < 1000) (ρ:Fr) (hρ:Fr.s0 ρ=.au) (i:Nat):∃ t u p',t < 5∧u < 2∧Good (b + 2) p'∧lN (aU TK o 59) (bq ρ (.val (int i))) p=.next (turn ρ i t u) p':=by
 obtain ⟨t,p₁,h1,g1,e1⟩:=pick gm L.o133 hp (by omega) (m:=5) (by omega)
 obtain ⟨u,aO,h2,g2,e2⟩:=pick gm L.o133 g1 (by omega) (m:=2) (by omega)
 refine ⟨t,u,aO,h1,h2,g2,?_⟩
 unfold lN
 have hρ':Fr.s0 (bq ρ (.val (int i)))=.au:=by cases ρ;exact hρ
 exact mK (m:=[.int (dw (.ofNat t) (.ofNat 2)),.int (bR (.ofNat 1) (.ofNat u))]) (cX (dN (a:=int t) (b:=int 2) (jc (m:=5) hρ' (e1 58)) rfl rfl) (cX (dN (a:=int 1) (b:=int u) rfl (jc (m:=2) hρ' (e2 58)) rfl) iw)) rfl
theorem qV (L:fP o) (hp:Good b p) (hb:b + 7 < 1000):∃ p',Good (b + 7) p'∧aU TK o 60 139 [.au] p=.ok (.bool true) p':=by
 obtain ⟨r0,p0,h0,g0,e0⟩:=pick gm L.o133 hp (by omega) (m:=6) (by omega)
 obtain ⟨k,p₁,hk,g1,e1⟩:=uq L g0 (by omega) h0
 obtain ⟨j,aO,hj,g2,e2⟩:=pick gm L.o133 g1 (by omega) (m:=3) (by omega)
 have hA:rW (aU TK o 59) (fill [.au]) p=.next (aC (aK (fill [.au]) (.val (kindOf k).1)) (.val (kindOf k).2)) p₁:=by
  unfold rW
  exact qk (v:=.tup [(kindOf k).1,(kindOf k).2]) ((jE (kl (jc (m:=6) rfl (e0 58)) (iy rfl rfl))).trans e1) rfl rfl
 have hI:rS (aU TK o 59) (aC (aK (fill [.au]) (.val (kindOf k).1)) (.val (kindOf k).2)) p₁=.next (eS k) p₁:=by
  unfold rS
  exact mK (m:=[(kindOf k).1,.lst []]) (cX rfl (cX rfl iw)) rfl
 have hF:∀ ρ' p',forL (.one bq) (ag lN dT) (aU TK o 59) (bN j (.ofNat 0)) (eS k) aO=.next ρ' p'→bI (d8.one bq) rT (ag lN dT) (aU TK o 59) (eS k) p₁=.next ρ' p':=fun ρ' p' h=>by
  have hs:gn (.ofNat j)=true:=by show Nat.blt j lid=true;rw [blt_dec];exact decide_eq_true (by show j < 3000;omega)
  refine (qn (v:=.lst (bN j (.ofNat 0))) (m:=bN j (.ofNat 0)) ?_ rfl).trans h
  unfold rT
  refine kI (a:=int j) (jc (m:=3) rfl (e2 58)) ?_
  show (@Bool.rec (fun _=>Option V) none (some (V.lst (bN j (.ofNat 0)))) (gn (.ofNat j)))=_
  rw [hs]
 have fin:∀ ρ' p' ρ'' p'',Good (b + 7) p''→forL (.one bq) (ag lN dT) (aU TK o 59) (bN j (.ofNat 0)) (eS k) aO=.next ρ' p'→jI (aU TK o 59) ρ' p'=.ret (.bool true) ρ'' p''→∃ p',Good (b + 7) p'∧aU TK o 60 139 [.au] p=.ok (.bool true) p':=fun ρ' p' ρ'' p'' g h hD=>by
  refine ⟨p'',g,iu (ρ':=ρ'') L.o139 (BN ▸ xg) rfl ?_⟩
  show ag rW (ag rS (ag (bI (d8.one bq) rT (ag lN dT)) jI)) (aU TK o 59) (fill [.au]) p=_
  exact (bz hA).trans ((bz hI).trans ((bz (hF ρ' p' h)).trans hD))
 match j,hj with
 | 0,_=>
  obtain ⟨ρ'',e⟩:=ie (L.l0 k hk aO)
  exact fin (eS k) aO ρ'' aO (g2.up (by omega) hb) jo e
 | 1,_=>
  obtain ⟨t,u,fU,ht,hu,g3,e3⟩:=jO L g2 (by omega) (eS k) rfl 0
  have q:=L.q1 k t u hk ht hu fU
  obtain ⟨ρ'',e⟩:=ie (L.l1 k t u hk ht hu fU)
  exact fin (mv o k t u) fU ρ'' fU (g3.up (by omega) hb) ((gq ((bz e3).trans q)).trans jo) e
 | 2,_=>
  obtain ⟨t,u,fU,ht,hu,g3,e3⟩:=jO L g2 (by omega) (eS k) rfl 0
  have q:=L.q1 k t u hk ht hu fU
  have hpen:Fr.s0 (mv o k t u)=.au:=by
   have h:=L.s0 k t u hk ht hu
   exact h
  obtain ⟨t',u',oK,ht',hu',g4,e4⟩:=jO L g3 (by omega) (mv o k t u) hpen 1
  have h2:=L.l2 k t u t' u' hk ht hu ht' hu' oK
  unfold uW at h2
  cases hq:dT (aU TK o 59) (turn (mv o k t u) 1 t' u') oK with
  | next ρ2 oJ=>
   rw [hq] at h2
   obtain ⟨ρ'',e⟩:=ie h2
   exact fin ρ2 oJ ρ'' oK (g4.up (by omega) hb) ((gq ((bz e3).trans q)).trans ((gq ((bz e4).trans hq)).trans jo)) e
  | _=>rw [hq] at h2;cases h2
end
end Mine
namespace Mine
open PySem PySem.Calls PyProof.Rows
section
variable {o:ic} {b:Nat} {p:List V}
theorem xq (ρ:Fr) (v:Slot):Fr.s1 (aI ρ v)=Fr.s1 ρ:=by cases ρ;rfl
theorem xp (ρ:Fr) (v:Slot):Fr.s2 (aI ρ v)=Fr.s2 ρ:=by cases ρ;rfl
theorem wi (ρ:Fr) (v w:Slot):Fr.s1 (bq (aX ρ v) w)=Fr.s1 ρ:=by cases ρ;rfl
theorem wh (ρ:Fr) (v w:Slot):Fr.s2 (bq (aX ρ v) w)=Fr.s2 ρ:=by cases ρ;rfl
theorem nK (L:fP o) (hp:Good b p) (hb:b + 1 < 1000) {ρ:Fr} (h1:Fr.s1 ρ=.au) (h2:Fr.s2 ρ=.val lj):∃ ρ' p',Fr.s1 ρ'=.au∧Fr.s2 ρ'=.val lj∧Good (b + 1) p'∧ag rO pT (aU TK o 60) ρ p=.next ρ' p':=by
 obtain ⟨r,p₁,hr,g1,e1⟩:=pick gm L.o133 hp hb (m:=12) (by omega)
 refine ⟨bq (aX ρ (.val (eW r).1)) (.val (eW r).2),p₁,(wi ..).trans h1,(wh ..).trans h2,g1,(bz ?_).trans (L.e2 r hr ρ p₁)⟩
 unfold rO
 refine (bz (m5 h1)).trans ?_
 refine qk (v:=.tup [(eW r).1,(eW r).2]) (m:=[(eW r).1,(eW r).2]) ?_ rfl rfl
 have bor:∀ c p,aa Fr.s2 c ρ p=.ok lj p:=fun c p=>by
  show (@Slot.rec (fun _=>Res) _ _ _ _ (Fr.s2 ρ))=_
  rw [h2]
 refine dN (a:=lj) (b:=int r) (bor _ _) ?_ (wR r hr)
 refine (jE (l:=[.au,.val (int 12)]) (iy h1 (kl (kI (bor _ _) rfl) rfl))).trans (e1 59)
theorem ud (L:fP o) (hp:Good b p) (hb:b + 11 < 1000) (x0:V):∃ ρ' p',yG (aU TK o 60) (mu x0) p=.ret (.bool true) ρ' p':=by
 obtain ⟨p₁,g1,e1⟩:=qV L hp (by omega)
 have hW:uN (aU TK o 60) (mu x0) p=.next (mu x0) p₁:=by
  unfold uN
  refine (bz (m5 rfl)).trans ((uV (p₁:=p₁) ?_).trans rfl)
  exact kI (a:=.bool true) ((jE (l:=[.au]) (iy rfl rfl)).trans e1) rfl
 obtain ⟨ρ1,aO,a1,a2,g2,e2⟩:=nK L g1 (by omega) (ρ:=aI (aC (mu x0) (.val lj)) (.val (int 0))) rfl rfl
 obtain ⟨ρ2,fU,b1,b2,g3,e3⟩:=nK L g2 (by omega) (ρ:=aI ρ1 (.val (.int (bR (.ofNat 0) (.ofNat 1))))) ((xq ..).trans a1) ((xp ..).trans a2)
 have hF:bI (d8.one aI) (c1 eA (cK (V.int (Int.ofNat 2)))) (ag rO pT) (aU TK o 60) (aC (mu x0) (.val lj)) p₁=.next ρ2 fU:=
  (qn (v:=.lst (bN 2 (.ofNat 0))) (m:=bN 2 (.ofNat 0)) (kI (a:=int 2) rfl rfl) rfl).trans ((gq e2).trans ((gq e3).trans jo))
 obtain ⟨a,oK,ha,g4,e4⟩:=pick gm L.o133 g3 (by omega) (m:=4) (by omega)
 obtain ⟨c,oJ,hc,g5,e5⟩:=pick gm L.o133 g4 (by omega) (m:=5) (by omega)
 have hN:uP (aU TK o 60) ρ2 fU=.next (eT (cj ρ2 (.val (.int (bR (.ofNat 1) (.ofNat a))))) (.val (.int (dw (.ofNat c) (.ofNat 2))))) oJ:=by
  unfold uP
  refine (bz (m5 b1)).trans ?_
  exact mK (m:=[.int (bR (.ofNat 1) (.ofNat a)),.int (dw (.ofNat c) (.ofNat 2))]) (cX (dN (a:=int 1) (b:=int a) rfl (jc (m:=4) b1 (e4 59)) rfl) (cX (dN (a:=int c) (b:=int 2) (jc (m:=5) b1 (e5 59)) rfl rfl) iw)) rfl
 obtain ⟨ρ',e⟩:=ie (L.e3 a c ha hc ρ2 oJ)
 refine ⟨ρ',oJ,?_⟩
 unfold yG
 exact (bz hW).trans ((bz (L.e1 x0 p₁)).trans ((bz hF).trans ((bz hN).trans e)))
theorem lh:∀ is:List Int,allInts (is.map V.int)=some is
 | []=>rfl
 | i::r=>by
  show (match allInts (r.map V.int) with | some l=>some (i::l) | none=>none)=_
  rw [lh r]
theorem tT (o:ic) (n:Nat) (is:List Int):∃ L,vY (aU TK o n) (fill [.val (.lst (is.map V.int))]) []=.ok (.lst L) []∧Good 0 L:=by
 have hs:∀ c,cz (aa Fr.s0) none (some (cK (.int (.ofNat 30)))) c (fill [.val (.lst (is.map V.int))]) []=.ok (.lst ((is.take (h9 (is.length) (.ofNat 30))).map V.int)) []:=fun c=>by
  show Res.ok (V.lst (jW (is.map V.int) none (some (.ofNat 30)))) []=_
  have:jW (is.map V.int) none (some (.ofNat 30))=(is.take (h9 (is.length) (.ofNat 30))).map V.int:=by
   show kG (lW (is.map V.int) (h9 (cW (is.map V.int)) (.ofNat 30))) 0=_
   rw [jy,lx,bD,List.length_map,List.drop_zero,List.map_take]
  rw [this]
 refine ⟨[.lst ((is.take (h9 (is.length) (.ofNat 30))).map V.int),.int (.ofNat 0),.int (mX (iY (is.take (h9 (is.length) (.ofNat 30))) (.ofNat 0)) (.ofNat 997))],?_,⟨_,0,_,rfl,Nat.le_refl _,by omega⟩⟩
 unfold vY
 have hl:a0 [c1 cV (cz (aa Fr.s0) none (some (cK (.int (.ofNat 30))))),cK (.int (.ofNat 0)),c2 eC (c1 sumF (cz (aa Fr.s0) none (some (cK (.int (.ofNat 30)))))) (cK (.int (.ofNat 997)))] (aU TK o n) (fill [.val (.lst (is.map V.int))]) []=.ok [.lst ((is.take (h9 (is.length) (.ofNat 30))).map V.int),.int (.ofNat 0),.int (mX (iY (is.take (h9 (is.length) (.ofNat 30))) (.ofNat 0)) (.ofNat 997))] []:=
  cX (kI (hs _) rfl) (cX rfl (cX (dN (a:=.int (iY (is.take (h9 (is.length) (.ofNat 30))) (.ofNat 0))) (b:=.int (.ofNat 997)) (kI (hs _) (by show (match allInts _ with | some is=>some (V.int (iY is (.ofNat 0))) | none=>none)=_;rw [lh])) rfl rfl) iw))
 show (@aw.rec (fun _=>Res) Res.stuck (fun l p=>Res.ok (V.lst l) p) Res.exc (a0 _ _ _ _))=_
 rw [hl]
end
section
variable {C:Cfg} {mg mb:Str→Option Value} {s:Shared} {A:Around} {Q E:Value→Shared→Prop}
theorem sH {o:ic} (H:iB C mg mb) (L:fP o) (hO:kK C o) {is:List Int} {val:Value} (P:aZ C 61 (fun _=>False) (fun _=>False) [] A s) (hv:RepV C (fun _=>False) s.heap (.lst (is.map .int)) val)
  (hQ:∀ s' X,Base C s'.heap→dm C X s'.heap→s'.gens=s.gens→s'.os=s.os→Q (.bool true) s'):wpAny (model C.prog C.w) A (PySem.call (.ref (C.fa 141)) [val]) Q E s:=by
 obtain ⟨L1,hD,g⟩:=tT o 60 is
 obtain ⟨ρ',p',e⟩:=ud L g (by omega) (.lst (is.map V.int))
 exact ue H lF (xm H.W.cls H.W.nolimit (A7 H) hO 60) P hv hD e hQ
end
mutual
def repB (h:Heap):Nat→V→Value→Bool
 | 0,_,_=>false
 | n + 1,v,x=>match v with
  | .none=>(match x with | .none=>true | _=>false)
  | .bool b=>(match x with | .bool c=>b==c | _=>false)
  | .int i=>(match x with | .int j _=>decide (i=j) | _=>false)
  | .str s=>(match x with | .str t _=>t.cps.toList==s | _=>false)
  | .tup l=>(match x with
   | .ref a=>(match h.get? a with
    | some ⟨.type c,none,.seq vs _,sl⟩=>c == "tuple" && sl.size==0&&Nat.ble vs.size 8000&&repBs h n l vs.toList
    | _=>false)
   | _=>false)
  | .lst l=>(match x with
   | .ref a=>(match h.get? a with
    | some ⟨.type c,none,.seq vs _,sl⟩=>c == "list" && sl.size==0&&Nat.ble vs.size 8000&&repBs h n l vs.toList
    | _=>false)
   | _=>false)
  | _=>false
def repBs (h:Heap):Nat→List V→List Value→Bool
 | 0,_,_=>false
 | n + 1,l,vs=>match l,vs with
  | [],[]=>true
  | v::l,x::vs=>repB h n v x&&repBs h n l vs
  | _,_=>false
end
section
variable {C:Cfg} {h:Heap}
mutual
theorem mO:∀ (n:Nat) (v:V) (x:Value),repB h n v x=true→RepV C (fun _=>False) h v x
 | 0,v,x,e=>by unfold repB at e;cases e
 | n + 1,v,x,e=>by
  unfold repB at e
  cases v with
  | none=>simp only [RepV];cases x <;> first | rfl | (cases e)
  | bool b=>cases x <;> first | (simp only [RepV];simp at e;rw [e]) | (cases e)
  | int i=>cases x <;> first | (simp only [RepV];simp at e;exact ⟨_,by rw [e]⟩) | (cases e)
  | str s=>cases x <;> first | (simp only [RepV];simp at e;exact ⟨_,_,rfl,e⟩) | (cases e)
  | tup l=>
   cases x with
   | ref a=>
    dsimp only at e
    split at e
    ·rename_i c vs k sl ho
     simp only [Bool.and_eq_true,beq_iff_eq,Nat.ble_eq] at e
     obtain ⟨⟨⟨rfl,h2⟩,h3⟩,h4⟩:=e
     obtain rfl:sl=#[]:=Array.eq_empty_of_size_eq_zero h2
     simp only [RepV]
     exact ⟨a,vs.toList,rfl,id,⟨by simpa using h3,k,by rw [ho];rfl⟩,gU n l vs.toList h4⟩
    ·cases e
   | _=>cases e
  | lst l=>
   cases x with
   | ref a=>
    dsimp only at e
    split at e
    ·rename_i c vs k sl ho
     simp only [Bool.and_eq_true,beq_iff_eq,Nat.ble_eq] at e
     obtain ⟨⟨⟨rfl,h2⟩,h3⟩,h4⟩:=e
     obtain rfl:sl=#[]:=Array.eq_empty_of_size_eq_zero h2
     simp only [RepV]
     exact ⟨a,vs.toList,rfl,id,⟨by simpa using h3,k,by rw [ho];rfl⟩,gU n l vs.toList h4⟩
    ·cases e
   | _=>cases e
  | aQ=>cases e
  | clo=>cases e
theorem gU:∀ (n:Nat) (l:List V) (vs:List Value),repBs h n l vs=true→RepVs C (fun _=>False) h l vs
 | 0,l,vs,e=>by unfold repBs at e;cases e
 | n + 1,l,vs,e=>by
  unfold repBs at e
  match l,vs with
  | [],[]=>simp only [RepVs]
  | v::l,x::vs=>
   rw [Bool.and_eq_true] at e
   simp only [RepVs]
   exact ⟨x,vs,rfl,mO n v x e.1,gU n l vs e.2⟩
  | [],_::_=>cases e
  | _::_,[]=>cases e
end
end
def refB (v:Option Value) (a:Addr):Bool:=match v with
 | some (.ref b)=>Nat.beq b a
 | _=>false
theorem wt {v:Option Value} {a:Addr} (h:refB v a=true):v=some (.ref a):=by
 unfold refB at h
 split at h
 ·rename_i b;rw [Nat.eq_of_beq_eq_true h]
 ·cases h
def codeB (h:Heap) (cd:Value) (q:Str):Bool:=match cd with
 | .ref c=>(match h.get? c with
  | some o=>(match o.data with
   | .fields vs=>(match vs[1]? with
    | some (Value.str x _)=>decide (x=q)
    | _=>false)
   | _=>false)
  | none=>false)
 | _=>false
theorem uE {h:Heap} {cd:Value} {q:Str} (e:codeB h cd q=true):h.CodeRec cd q:=by
 unfold codeB at e
 split at e
 ·rename_i c
  split at e
  ·rename_i o ho
   split at e
   ·rename_i vs hd
    split at e
    ·rename_i x t hx
     have:=of_decide_eq_true e
     subst this
     exact ⟨c,o,vs,t,rfl,ho,hd,hx⟩
    ·cases e
   ·cases e
  ·cases e
 ·cases e
def gV:V:=(dz.lookup ("RANKS" : Str)).getD .none
def iP:List V:=match gV with | .aQ ks _=>ks | _=>[]
def sm:List V:=match gV with | .aQ _ xs=>xs | _=>[]
def ranksB (h:Heap) (v:Option Value):Bool:=match v with
 | some (.ref a)=>(match h.get? a with
  | some ⟨.type c,none,.dict es _,sl⟩=>c == "dict" && sl.size==0&&!(a==sysModules)&&Nat.ble es.size 8000&&repBs h 20 iP (es.toList.map (·.key))&&repBs h 20 sm (es.toList.map (·.val))
  | _=>false)
 | _=>false
def jZ (h:Heap) (v:Option Value):List Int:=match v with
 | some (.ref a)=>(match h.get? a with
  | some ⟨_,_,.dict es _,_⟩=>es.toList.map (·.hash)
  | _=>[])
 | _=>[]
theorem tR:gV=.aQ iP sm:=by kernel_rfl
theorem rt:(iP.all fun k=>keyOk 8 k)=true:=by decide +kernel
theorem tQ {C:Cfg} {h:Heap} {v:Option Value} (e:ranksB h v=true) (eh:jZ h v=hashVs C.w iP):∃ val,v=some val∧RepV C (fun _=>False) h gV val:=by
 unfold ranksB at e
 split at e
 ·rename_i a
  split at e
  ·rename_i c es k sl ho
   simp only [Bool.and_eq_true,beq_iff_eq,Nat.ble_eq,Bool.not_eq_true'] at e
   obtain ⟨⟨⟨⟨⟨rfl,h2⟩,h3⟩,h4⟩,h5⟩,h6⟩:=e
   obtain rfl:sl=#[]:=Array.eq_empty_of_size_eq_zero h2
   refine ⟨_,rfl,?_⟩
   rw [tR]
   simp only [RepV]
   refine ⟨a,es.toList,rfl,id,⟨⟨h3,by simpa using h4⟩,k,by rw [ho];rfl⟩,gU _ _ _ h5,gU _ _ _ h6,?_,fun k hk=>List.all_eq_true.mp rt k hk⟩
   unfold jZ at eh
   dsimp only at eh
   rw [ho] at eh
   exact eh
  ·cases e
 ·cases e
abbrev pV:=Value×List (Str×Addr)×FuncBody×(Bool×Bool×ScopeKind×List (Str×NameKind))×(Addr×Addr×Str)×(List Arg×List Str×List Arg×Option Arg×Option Arg)×Value
def fnLook (o:Obj):Option pV:=match o.data with
 | .func fd=>some (o.cls,fd.closure,fd.body,(fd.scope.isCoroutine,fd.scope.isGenerator,fd.scope.kind,fd.scope.names),(fd.globals,fd.builtins,fd.qualname),(fd.params.posonlyargs,fd.params.args.map (·.arg),fd.params.kwonlyargs,fd.params.vararg,fd.params.kwarg),fd.defaults)
 | _=>none
def qM (h:Heap) (a:Addr) (q:Str):Bool:=match h.get? a with
 | some o=>(match o.data with
  | .func fd=>codeB h fd.code q
  | _=>false)
 | none=>false
def lG:pV:=(.type "function",[],.stmts fZ,(false,false,.function,dU),(mainGlobals,builtinsNs,"CasFail.__init__"),([],["self","kind","text"],[],none,none),.none)
def pL:Obj:=excClassObj "CasFail" "CasFail" 31 30 [.type "Exception"] ju true [] [] false none none (some (.ref 15)) none (some (.str "CasFail" 189)) (some (.str "CasFail" 197)) (some (.bool true)) "Exception.__new__"
structure YPs (w:World) (mg:Str→Option Value) (h:Heap):Prop where
 sys:∃ o,h.get? sysModules=some o
 sysns:∃ m,h.Ns sysModules m
 cf:mg "CasFail" = some (.ref 31)
 K:h.get? 31=some pL
 N:∃ mN,h.Ns 30 mN∧mN "__init__" = some (.ref 28)∧mN "__setattr__" = none∧mN "kind" = none∧mN "text" = none∧mN "__getattribute__" = none∧mN "__getattr__" = none
 I:∃ oI fd,h.get? 28=some oI∧oI.cls=.type "function" ∧ oI.data=.func fd∧fd.closure=[]∧fd.body=.stmts fZ∧fd.scope.isCoroutine=false∧fd.scope.isGenerator=false∧fd.scope.kind=.function∧fd.globals=mainGlobals∧fd.builtins=builtinsNs∧
  h.CodeRec fd.code fd.qualname∧fd.params.posonlyargs=[]∧fd.params.args.map (·.arg)=(["self","kind","text"]:List Str)∧fd.params.kwonlyargs=[]∧fd.params.vararg=none∧fd.params.kwarg=none∧fd.defaults=.none∧fd.scope.names=dU
 free:∀ x∈("Exception" : Str)::dj,mg x=none
 consts:∀ x v,dz.lookup x=some v→x≠("RANKS" : Str)→∃ val,mg x=some val∧∀ C,RepV C (fun _=>False) h v val
 ranks:∃ val,mg "RANKS" = some val∧∀ C:Cfg,C.w=w→RepV C (fun _=>False) h gV val
theorem sA {h:Heap} {a:Addr} {m m':Str→Option Value} (x:h.Ns a m) (y:h.Ns a m'):m=m':=by
 obtain ⟨o,es,ep,e,hd,_,hf⟩:=x
 obtain ⟨o',es',ep',e',hd',_,hf'⟩:=y
 rw [e] at e';cases e'
 rw [hd] at hd';cases hd'
 funext n;rw [← hf n,← hf' n]
end Mine
namespace Mine
open PySem
def KS:List Str:=[Str.ofString "__name__",Str.ofString "__doc__",Str.ofString "__package__",Str.ofString "__loader__",Str.ofString "__spec__",Str.ofString "__annotations__",Str.ofString "__builtins__",Str.ofString "__file__",Str.ofString "__cached__"]
def KA:List Str:=[Str.ofString "CasFail",Str.ofString "gcd",Str.ofString "gcd_all",Str.ofString "least_divisor",Str.ofString "prime_factors",Str.ofString "divisors",Str.ofString "R0",Str.ofString "R1",Str.ofString "rat",Str.ofString "radd",Str.ofString "rmul",Str.ofString "rdiv",Str.ofString "rneg",Str.ofString "rinv",Str.ofString "rpower",Str.ofString "rcompare",Str.ofString "rfloor",Str.ofString "T_ZERO",Str.ofString "T_ONE",Str.ofString "T_MINUS",Str.ofString "t_num",Str.ofString "t_sum",Str.ofString "t_prod",Str.ofString "t_pow",Str.ofString "t_minus",Str.ofString "is_num",Str.ofString "num_of",Str.ofString "is_whole_num",Str.ofString "inner_terms",Str.ofString "all_terms",Str.ofString "free_letters",Str.ofString "contains_letter",Str.ofString "RANKS",Str.ofString "sign_between",Str.ofString "compare_values",Str.ofString "bare_factors",Str.ofString "front_value",Str.ofString "base_and_exponent",Str.ofString "compare_rows",Str.ofString "compare_exponents",Str.ofString "compare_bases",Str.ofString "compare_factors",Str.ofString "compare_terms",Str.ofString "merged_terms",Str.ofString "sort_terms",Str.ofString "ZERO",Str.ofString "ONE",Str.ofString "MINUS_ONE",Str.ofString "HALF_simp",Str.ofString "EXP_ONE",Str.ofString "MOST_FACTORED",Str.ofString "MOST_FACTORIAL",Str.ofString "ODD_CALLS",Str.ofString "number_term",Str.ofString "number_and_rest",Str.ofString "with_number",Str.ofString "flat_parts",Str.ofString "gathered_sum",Str.ofString "as_power",Str.ofString "gathered_product",Str.ofString "power_of",Str.ofString "split_power",Str.ofString "number_power",Str.ofString "radical_of",Str.ofString "begins_below",Str.ofString "negated_term",Str.ofString "exp_of",Str.ofString "log_of",Str.ofString "factorial_of",Str.ofString "call_of",Str.ofString "simplify",Str.ofString "sum_parts",Str.ofString "mul_out",Str.ofString "mul_all_out",Str.ofString "power_out",Str.ofString "expand_power",Str.ofString "expand_once",Str.ofString "expand",Str.ofString "ztrim",Str.ofString "zdegree",Str.ofString "zlead",Str.ofString "zadd",Str.ofString "zneg",Str.ofString "zsub",Str.ofString "zscale",Str.ofString "zraise",Str.ofString "zcontent",Str.ofString "zdivided",Str.ofString "zprimitive",Str.ofString "zderive",Str.ofString "qtrim",Str.ofString "qdegree",Str.ofString "qlead",Str.ofString "qadd",Str.ofString "qneg",Str.ofString "qsub",Str.ofString "qscale",Str.ofString "qraise",Str.ofString "qmul",Str.ofString "qdivmod",Str.ofString "qmonic",Str.ofString "qgcd",Str.ofString "to_z",Str.ofString "F0",Str.ofString "F1",Str.ofString "fmake",Str.ofString "fnumber",Str.ofString "fadd",Str.ofString "fmul",Str.ofString "finv",Str.ofString "fpower",Str.ofString "whole_exponent",Str.ofString "from_term",Str.ofString "check_bottom",Str.ofString "zexact",Str.ofString "pseudo",Str.ofString "zpseudo_rest",Str.ofString "next_height",Str.ofString "subresultants",Str.ofString "zgcd",Str.ofString "sign_of",Str.ofString "value_sign",Str.ofString "end_sign",Str.ofString "sign_at",Str.ofString "simple_part",Str.ofString "lessened",Str.ofString "next_of_row",Str.ofString "sturm_row",Str.ofString "changes_at",Str.ofString "count_by_row",Str.ofString "root_bound",Str.ofString "HALF_roots",Str.ofString "middle",Str.ofString "linear_of",Str.ofString "is_inside",Str.ofString "split_roots",Str.ofString "isolate",Str.ofString "kept_off",Str.ofString "sorted_intervals",Str.ofString "halved",Str.ofString "rational_roots",Str.ofString "candidates",Str.ofString "sorted_roots",Str.ofString "power_in",Str.ofString "collect",Str.ofString "as_difference",Str.ofString "two_roots",Str.ofString "plain_roots",Str.ofString "letter_roots",Str.ofString "solve_by",Str.ofString "is_root",Str.ofString "_law_pick",Str.ofString "_law_num"]
def KB:List Str:=[Str.ofString "_law_poly",Str.ofString "_law_times",Str.ofString "_law_factor",Str.ofString "_law_whole_right",Str.ofString "_law_edges"]
def KL:List Str:=KS++(KA++(("_law_told" : Str)::(KB++[("law" : Str)])))
def VL:List (Option (Addr ⊕ Int)):=[none,none,none,none,none,some (.inl 6),some (.inl 4),none,none,some (.inl 31),some (.inl 41),some (.inl 48),some (.inl 55),some (.inl 62),some (.inl 67),some (.inl 68),some (.inl 69),some (.inl 76),some (.inl 83),some (.inl 90),some (.inl 97),some (.inl 104),some (.inl 111),some (.inl 118),some (.inl 125),some (.inl 132),some (.inl 133),some (.inl 134),some (.inl 135),some (.inl 142),some (.inl 149),some (.inl 156),some (.inl 163),some (.inl 170),some (.inl 177),some (.inl 184),some (.inl 191),some (.inl 198),some (.inl 205),some (.inl 210),some (.inl 217),some (.inl 218),some (.inl 225),some (.inl 232),some (.inl 237),some (.inl 244),some (.inl 251),some (.inl 258),some (.inl 265),some (.inl 272),some (.inl 279),some (.inl 286),some (.inl 293),some (.inl 300),some (.inl 301),some (.inl 302),some (.inl 303),some (.inl 304),some (.inl 306),some (.inr 1000000),some (.inr 200),some (.inl 307),some (.inl 314),some (.inl 321),some (.inl 328),some (.inl 335),some (.inl 340),some (.inl 347),some (.inl 354),some (.inl 359),some (.inl 366),some (.inl 373),some (.inl 380),some (.inl 387),some (.inl 392),some (.inl 399),some (.inl 406),some (.inl 413),some (.inl 420),some (.inl 425),some (.inl 432),some (.inl 437),some (.inl 444),some (.inl 451),some (.inl 458),some (.inl 463),some (.inl 470),some (.inl 477),some (.inl 484),some (.inl 491),some (.inl 496),some (.inl 501),some (.inl 508),some (.inl 513),some (.inl 520),some (.inl 527),some (.inl 532),some (.inl 539),some (.inl 544),some (.inl 551),some (.inl 558),some (.inl 565),some (.inl 570),some (.inl 575),some (.inl 582),some (.inl 587),some (.inl 594),some (.inl 601),some (.inl 608),some (.inl 615),some (.inl 622),some (.inl 627),some (.inl 630),some (.inl 633),some (.inl 640),some (.inl 647),some (.inl 654),some (.inl 661),some (.inl 668),some (.inl 675),some (.inl 682),some (.inl 689),some (.inl 696),some (.inl 703),some (.inl 710),some (.inl 717),some (.inl 724),some (.inl 731),some (.inl 738),some (.inl 745),some (.inl 752),some (.inl 759),some (.inl 766),some (.inl 773),some (.inl 778),some (.inl 785),some (.inl 792),some (.inl 797),some (.inl 804),some (.inl 809),some (.inl 810),some (.inl 817),some (.inl 824),some (.inl 831),some (.inl 838),some (.inl 843),some (.inl 848),some (.inl 855),some (.inl 862),some (.inl 869),some (.inl 876),some (.inl 883),some (.inl 890),some (.inl 895),some (.inl 902),some (.inl 909),some (.inl 916),some (.inl 923),some (.inl 930),some (.inl 935),some (.inl 942),some (.inl 949),some (.inl 956),some (.inl 961),some (.inl 968),some (.inl 975),some (.inl 980),some (.inl 987),some (.inl 994)]
def AD:List Addr:=[41,48,55,62,67,76,83,90,97,104,111,118,125,132,142,149,156,163,170,177,184,191,198,205,210,217,225,232,237,244,251,258,265,272,279,286,293,300,314,321,328,335,340,347,354,359,366,373,380,387,392,399,406,413,420,425,432,437,444,451,458,463,470,477,484,491,496,501,508,513,520,527,532,539,544,551,558,565,570,575,582,587,594,601,608,615,622,627,640,647,654,661,668,675,682,689,696,703,710,717,724,731,738,745,752,759,766,773,778,785,792,797,804,809,817,824,831,838,843,848,855,862,869,876,883,890,895,902,909,916,923,930,935,942,949,956,961,968,975,980,987,994]
def PS:List Nat:=[10,11,12,13,14,17,18,19,20,21,22,23,24,25,29,30,31,32,33,34,35,36,37,38,39,40,42,43,44,45,46,47,48,49,50,51,52,53,62,63,64,65,66,67,68,69,70,71,72,73,74,75,76,77,78,79,80,81,82,83,84,85,86,87,88,89,90,91,92,93,94,95,96,97,98,99,100,101,102,103,104,105,106,107,108,109,110,111,114,115,116,117,118,119,120,121,122,123,124,125,126,127,128,129,130,131,132,133,134,135,136,137,138,139,141,142,143,144,145,146,147,148,149,150,151,152,153,154,155,156,157,158,159,160,161,162,163,164,165,166,167,168]
def GP:List Nat:=[15,16,26,27,28,41,54,55,56,57,58,59,60,61,112,113,140]
def gI:Addr:=218
def ru:Nat:=41
end Mine
namespace Mine
open PySem PySem.Calls PyProof.Rows
def fM:List (Str×Arguments×Scope×List Stmt):=PySem.Challenge.pw_pf0068_01.main.body.filterMap fun
 | .FunctionDef n a b _ _ _ sc _ _ _=>some (n,a,sc,b)
 | _=>none
theorem pF:defs=fM.map fun d=>(d.1,d.2.1.args.map (·.arg),d.2.2.1,d.2.2.2):=by kernel_rfl
def sv (d:Str×Arguments×Scope×List Stmt):Bool:=!d.2.2.1.isCoroutine&&!d.2.2.1.isGenerator&&d.2.2.1.kind==.function&&d.2.1.posonlyargs.isEmpty&&d.2.1.kwonlyargs.isEmpty&&d.2.1.vararg.isNone&&d.2.1.kwarg.isNone
theorem qc:(fM.all sv)=true:=by decide +kernel
def codeS (s:Str):Nat:=s.cps.toList.foldr (fun c a=>a * 1114113 + (c + 1)) 0
theorem uR:(KL.map codeS).Pairwise (·≠·):=by decide +kernel
theorem uQ:KL.Nodup:=List.Pairwise.of_map codeS (fun a b h e=>h (by rw [e])) uR
theorem w9:PS.map (fun j=>KL[j]?)=fM.map fun d=>some d.1:=by kernel_rfl
theorem w6:PS.map (fun j=>VL[j]?)=AD.map fun a=>some (some (.inl a)):=by kernel_rfl
theorem w7:GP.map (fun j=>KL[j]?)=dz.map fun x=>some x.1:=by kernel_rfl
theorem AR:KL[9]?=some ("CasFail" : Str):=by kernel_rfl
theorem AQ:VL[9]?=some (some (.inl 31)):=by kernel_rfl
theorem lO:KL[ru]?=some ("RANKS" : Str):=by kernel_rfl
theorem pS:VL[ru]?=some (some (.inl gI)):=by kernel_rfl
theorem w8:((("Exception" : Str)::dj).all fun x=>!(KL.map codeS).contains (codeS x))=true:=by decide +kernel
theorem z6:AD.length=142:=rfl
def keyO (e:DictEntry):Option Str:=match e.key with
 | .str n _=>some n
 | _=>none
def valO (e:DictEntry):Option (Addr ⊕ Int):=match e.val with
 | .ref a=>some (.inl a)
 | .int i _=>some (.inr i)
 | _=>none
def entsOf (h:Heap):List DictEntry:=match h.get? mainGlobals with
 | some o=>(match o.data with
  | .dict es _=>es.toList
  | _=>[])
 | none=>[]
abbrev AV:=List (Str×Addr)×FuncBody×Scope×(Addr×Addr×Str)×Arguments×Value
def fnL (o:Obj):Option AV:=match o.data with
 | .func fd=>some (fd.closure,fd.body,fd.scope,(fd.globals,fd.builtins,fd.qualname),fd.params,fd.defaults)
 | _=>none
def codeQ (h:Heap) (a:Addr):Option Str:=match h.get? a with
 | some o=>(match o.data with
  | .func fd=>(match fd.code with
   | .ref c=>(match h.get? c with
    | some o=>(match o.data with
     | .fields vs=>(match vs[1]? with
      | some (Value.str x _)=>some x
      | _=>none)
     | _=>none)
    | none=>none)
   | _=>none)
  | _=>none)
 | none=>none
def constsB (h:Heap):Bool:=(dz.zip GP).all fun p=>match VL[p.2]? with
 | some (some (.inl a))=>Nat.beq a gI||repB h 20 p.1.2 (.ref a)
 | some (some (.inr i))=>repB h 20 p.1.2 (.int i 0)
 | _=>false
def kF (h:Heap):Bool:=
 h.isNs mainGlobals&&h.isNs sysModules&&h.isNs 30&&refB (h.nsMap 30 "__init__") 28&&
 ((["__setattr__","kind","text","__getattribute__","__getattr__"]:List Str).all fun x=>(h.nsMap 30 x).isNone)&&qM h 28 "CasFail.__init__" &&
 constsB h&&ranksB h (some (.ref gI))
abbrev rQ:=Bool×Option Obj×Option pV×List Int×List (Option Str)×List (Option (Addr ⊕ Int))×List (Option AV)×List (Option Str)
def eN (s:Shared):rQ:=(kF s.heap,s.heap.get? 31,(s.heap.get? 28).bind fnLook,jZ s.heap (some (.ref gI)),(entsOf s.heap).map keyO,(entsOf s.heap).map valO,AD.map (fun a=>(s.heap.get? a).bind fnL),AD.map (codeQ s.heap))
noncomputable def d4 (w:World):rQ:=(true,some pL,some lG,hashVs w iP,KL.map some,VL,fM.map (fun d=>some ([],.stmts d.2.2.2,d.2.2.1,(mainGlobals,builtinsNs,d.1),d.2.1,.none)),fM.map (fun d=>some d.1))
def fL (i:Nat):Str:=((defs[i]?).getD default).1
structure tm (w:World) (mg:Str→Option Value) (h:Heap):Prop extends YPs w mg h where
 fns:∀ i,i < 142→∃ a o fd,mg (fL i)=some (.ref a)∧h.get? a=some o∧o.data=.func fd∧fd.closure=[]∧fd.body=.stmts (bM i)∧fd.scope.isCoroutine=false∧fd.scope.isGenerator=false∧fd.scope.kind=.function∧fd.globals=mainGlobals∧fd.builtins=builtinsNs∧
  h.CodeRec fd.code fd.qualname∧fd.params.posonlyargs=[]∧fd.params.args.map (·.arg)=eX i∧fd.params.kwonlyargs=[]∧fd.params.vararg=none∧fd.params.kwarg=none∧fd.defaults=.none∧fd.scope.names=(iW i).names∧fd.qualname=fL i
theorem qN:∀ (es:List DictEntry) (ks:List Str),es.map keyO=ks.map some→ks.Nodup→∀ (j:Nat) (x:Str),ks[j]?=some x→∃ e,es[j]?=some e∧es.find? (fun e=>e.key.isStr x)=some e
 | [],[],_,_,j,x,hx=>by simp at hx
 | [],_::_,h,_,_,_,_=>by simp at h
 | _::_,[],h,_,_,_,_=>by simp at h
 | e::es,k::ks,h,hn,j,x,hx=>by
  simp only [List.map_cons,List.cons.injEq] at h
  obtain ⟨h1,h2⟩:=h
  rw [List.nodup_cons] at hn
  have hk:∃ t,e.key=.str k t:=by
   unfold keyO at h1
   split at h1
   ·rename_i n t hkey;cases h1;exact ⟨t,hkey⟩
   ·cases h1
  obtain ⟨t,hk⟩:=hk
  cases j with
  | zero=>
   simp at hx
   subst hx
   exact ⟨e,rfl,by rw [List.find?_cons,hk];simp [Value.isStr]⟩
  | succ j=>
   simp only [List.getElem?_cons_succ] at hx
   obtain ⟨e',a1,a2⟩:=qN es ks h2 hn.2 j x hx
   refine ⟨e',by simpa using a1,?_⟩
   have hne:k≠x:=fun q=>hn.1 (q ▸ List.mem_of_getElem? hx)
   rw [List.find?_cons,hk]
   have:Value.isStr (.str k t) x=false:=by simp [Value.isStr,hne]
   rw [this];exact a2
theorem find_none:∀ (es:List DictEntry) (ks:List Str),es.map keyO=ks.map some→∀ (x:Str),x∉ks→es.find? (fun e=>e.key.isStr x)=none
 | [],_,_,x,_=>rfl
 | _::_,[],h,_,_=>by simp at h
 | e::es,k::ks,h,x,hx=>by
  simp only [List.map_cons,List.cons.injEq] at h
  obtain ⟨h1,h2⟩:=h
  rw [List.mem_cons,not_or] at hx
  have hk:∃ t,e.key=.str k t:=by
   unfold keyO at h1
   split at h1
   ·rename_i n t hkey;cases h1;exact ⟨t,hkey⟩
   ·cases h1
  obtain ⟨t,hk⟩:=hk
  rw [List.find?_cons,hk]
  have:Value.isStr (.str k t) x=false:=by simp [Value.isStr,Ne.symm hx.1]
  rw [this];exact find_none es ks h2 x hx.2
theorem w5:((VL.zipIdx).all fun p=>!(p.1==some (.inl gI))||p.2==ru)=true:=by decide +kernel
theorem yF {j:Nat} {x:Str} (hx:KL[j]?=some x) (hv:VL[j]?=some (some (.inl gI))):x=("RANKS" : Str):=by
 have hm:(some (.inl gI),j)∈VL.zipIdx:=List.mem_iff_getElem?.mpr ⟨j,by rw [List.getElem?_zipIdx,hv];simp⟩
 have:=List.all_eq_true.mp w5 _ hm
 simp at this
 have this:=this.resolve_left (by decide)
 subst this
 rw [lO] at hx;cases hx;rfl
theorem uu {h:Heap} {mg:Str→Option Value} (hg:h.Ns mainGlobals mg):∀ x,mg x=((entsOf h).find? (fun e=>e.key.isStr x)).map (·.val):=by
 obtain ⟨o,es,ep,e,hd,hk,hf⟩:=hg
 intro x
 rw [← hf x]
 have:entsOf h=es.toList:=by unfold entsOf;rw [e];dsimp only;rw [hd]
 rw [this]
 show (es.find? _).map _=_
 rw [← Array.find?_toList]
theorem xb {w:World} {s:Shared} (e:eN s=d4 w):tm w (s.heap.nsMap mainGlobals) s.heap:=by
 have e1:kF s.heap=true:=congrArg Prod.fst e
 have e2:s.heap.get? 31=some pL:=congrArg (fun x=>x.2.1) e
 have e3:(s.heap.get? 28).bind fnLook=some lG:=congrArg (fun x=>x.2.2.1) e
 have e4:jZ s.heap (some (.ref gI))=hashVs w iP:=congrArg (fun x=>x.2.2.2.1) e
 have e5:(entsOf s.heap).map keyO=KL.map some:=congrArg (fun x=>x.2.2.2.2.1) e
 have e6:(entsOf s.heap).map valO=VL:=congrArg (fun x=>x.2.2.2.2.2.1) e
 have e7:AD.map (fun a=>(s.heap.get? a).bind fnL)=fM.map (fun d=>some ([],.stmts d.2.2.2,d.2.2.1,(mainGlobals,builtinsNs,d.1),d.2.1,.none)):=congrArg (fun x=>x.2.2.2.2.2.2.1) e
 have e8:AD.map (codeQ s.heap)=fM.map (fun d=>some d.1):=congrArg (fun x=>x.2.2.2.2.2.2.2) e
 unfold kF at e1
 simp only [Bool.and_eq_true] at e1
 obtain ⟨⟨⟨⟨⟨⟨⟨hg,a1⟩,a3⟩,a4⟩,a5⟩,a6⟩,a7⟩,a8⟩:=e1
 have hm:=uu (Heap.Ns.of_isNs hg)
 -- a name at its place
 have at_:∀ (j:Nat) (x:Str) (vo:Option (Addr ⊕ Int)),KL[j]?=some x→VL[j]?=some vo→∃ val,s.heap.nsMap mainGlobals x=some val∧vo=(match val with | .ref a=>some (.inl a) | .int i _=>some (.inr i) | _=>none):=fun j x vo hx hv=>by
  obtain ⟨en,b1,b2⟩:=qN _ _ e5 uQ j x hx
  refine ⟨en.val,by rw [hm x,b2];rfl,?_⟩
  rw [← e6,List.getElem?_map,b1] at hv
  cases hv
  rfl
 have ref_:∀ (j:Nat) (x:Str) (a:Addr),KL[j]?=some x→VL[j]?=some (some (.inl a))→s.heap.nsMap mainGlobals x=some (.ref a):=fun j x a hx hv=>by
  obtain ⟨val,b1,b2⟩:=at_ j x _ hx hv
  rw [b1]
  split at b2
  ·cases b2;rfl
  ·cases b2
  ·cases b2
 refine { sys:=(let ⟨o,_,_,e,_⟩:=Heap.Ns.of_isNs a1;⟨o,e⟩),sysns:=⟨_,.of_isNs a1⟩,cf:=ref_ 9 _ _ AR AQ,K:=e2,N:=⟨_,.of_isNs a3,wt a4,?_⟩,I:=?_,free:=fun x hx=>?_,consts:=fun x v hx hn=>?_,ranks:=?_,fns:=fun i hi=>?_ }
 ·simp only [List.all_cons,List.all_nil,Bool.and_true,Bool.and_eq_true,Option.isNone_iff_eq_none] at a5
  exact ⟨a5.1,a5.2.1,a5.2.2.1,a5.2.2.2.1,a5.2.2.2.2⟩
 ·obtain ⟨oI,h1,h2⟩:=Option.bind_eq_some_iff.mp e3
  unfold fnLook at h2
  split at h2
  ·rename_i fd hd
   have hc:s.heap.CodeRec fd.code "CasFail.__init__" := by
    unfold qM at a6
    rw [h1] at a6
    dsimp only at a6
    rw [hd] at a6
    exact uE a6
   unfold lG at h2
   simp only [Option.some.injEq,Prod.mk.injEq] at h2
   obtain ⟨b1,b2,b3,⟨b4,b5,b6,b7⟩,⟨b8,b9,b10⟩,⟨b11,b12,b13,b14,b15⟩,b16⟩:=h2
   exact ⟨oI,fd,h1,b1,hd,b2,b3,b4,b5,b6,b8,b9,by rw [b10];exact hc,b11,b12,b13,b14,b15,b16,b7⟩
  ·cases h2
 ·have:=List.all_eq_true.mp w8 x hx
  have hnm:x∉KL:=fun q=>by
   have q':(KL.map codeS).contains (codeS x)=true:=List.contains_iff_mem.mpr (List.mem_map.mpr ⟨x,q,rfl⟩)
   rw [q'] at this;cases this
  rw [hm x,find_none _ _ e5 x hnm];rfl
 ·obtain ⟨i,hi⟩:=List.mem_iff_getElem?.mp (mem_of_lookup hx)
  have hg':=congrArg (fun l=>l[i]?) w7
  simp only [List.getElem?_map,hi,Option.map_some] at hg'
  cases hj:GP[i]? with
  | none=>rw [hj] at hg';cases hg'
  | some j=>
   rw [hj] at hg'
   have hg':KL[j]?=some x:=by simpa using hg'
   have hz:((x,v),j)∈dz.zip GP:=List.mem_of_getElem? (i:=i) (by rw [List.getElem?_zip_eq_some];exact ⟨hi,hj⟩)
   have hb:=List.all_eq_true.mp a7 _ hz
   dsimp only at hb
   split at hb
   ·rename_i a hv
    have hr:=ref_ j x a hg' hv
    rw [Bool.or_eq_true] at hb
    rcases hb with hb | hb
    ·have ha:=Nat.eq_of_beq_eq_true hb
     subst ha
     -- one address,one name
     have hr2:=ref_ _ _ _ lO pS
     exact absurd (yF hg' hv) hn
    ·exact ⟨_,hr,fun C=>mO _ _ _ hb⟩
   ·rename_i z hv
    obtain ⟨val,b1,b2⟩:=at_ j x _ hg' hv
    refine ⟨val,b1,fun C=>?_⟩
    have r:=mO (C:=C) _ _ _ hb
    split at b2
    ·cases b2
    ·rename_i z' t
     have b2:z=z':=by injection b2 with b2;injection b2
     subst b2
     cases v with
     | int k=>simp only [RepV] at r ⊢;obtain ⟨_,r⟩:=r;cases r;exact ⟨_,rfl⟩
     | none=>simp only [RepV] at r;cases r
     | bool=>simp only [RepV] at r;cases r
     | str=>simp only [RepV] at r;obtain ⟨_,_,r,_⟩:=r;cases r
     | tup=>simp only [RepV] at r;obtain ⟨_,_,r,_⟩:=r;cases r
     | lst=>simp only [RepV] at r;obtain ⟨_,_,r,_⟩:=r;cases r
     | aQ=>simp only [RepV] at r;obtain ⟨_,_,r,_⟩:=r;cases r
     | clo=>simp only [RepV] at r;obtain ⟨_,_,_,r,_⟩:=r;cases r
    ·cases b2
   ·cases hb
 ·refine ⟨_,ref_ _ _ _ lO pS,fun C hC=>?_⟩
  obtain ⟨val',h1,h2⟩:=tQ (C:=C) a8 (by rw [hC];exact e4)
  cases h1
  exact h2
 ·have hiL:i < fM.length:=by have:=lK;rw [pF,List.length_map] at this;omega
  have hd0:fM[i]?=some fM[i]:=List.getElem?_eq_getElem hiL
  generalize fM[i]=d at hd0
  have hdf:defs[i]?=some (d.1,d.2.1.args.map (·.arg),d.2.2.1,d.2.2.2):=by rw [pF,List.getElem?_map,hd0];rfl
  have n1:fL i=d.1:=by unfold fL;rw [hdf];rfl
  have n2:eX i=d.2.1.args.map (·.arg):=by unfold eX;rw [hdf];rfl
  have n3:iW i=d.2.2.1:=by unfold iW;rw [hdf];rfl
  have n4:bM i=d.2.2.2:=by unfold bM;rw [hdf];rfl
  have hA:AD[i]?=some AD[i]:=List.getElem?_eq_getElem (by rw [z6];exact hi)
  generalize AD[i]=a at hA
  have f7:=congrArg (fun l=>l[i]?) e7
  have f8:=congrArg (fun l=>l[i]?) e8
  simp only [List.getElem?_map,hA,hd0,Option.map_some,Option.some.injEq] at f7 f8
  obtain ⟨o,g1,g2⟩:=Option.bind_eq_some_iff.mp f7
  have k1:=congrArg (fun l=>l[i]?) w9
  have k2:=congrArg (fun l=>l[i]?) w6
  simp only [List.getElem?_map,hA,hd0,Option.map_some] at k1 k2
  cases hp:PS[i]? with
  | none=>rw [hp] at k1;cases k1
  | some j=>
   rw [hp] at k1 k2
   have k1:KL[j]?=some d.1:=by simpa using k1
   have k2:VL[j]?=some (some (.inl a)):=by simpa using k2
   unfold fnL at g2
   split at g2
   ·rename_i fd hfd
    simp only [Option.some.injEq,Prod.mk.injEq] at g2
    obtain ⟨c1,c2,c3,⟨c4,c5,c6⟩,c7,c8⟩:=g2
    have P:=List.all_eq_true.mp qc d (List.mem_of_getElem? hd0)
    unfold sv at P
    simp only [Bool.and_eq_true,Bool.not_eq_true',beq_iff_eq,List.isEmpty_iff,Option.isNone_iff_eq_none] at P
    obtain ⟨⟨⟨⟨⟨⟨p1,p2⟩,p3⟩,p4⟩,p5⟩,p6⟩,p7⟩:=P
    have hcr:s.heap.CodeRec fd.code d.1:=by
     unfold codeQ at f8
     rw [g1] at f8
     dsimp only at f8
     rw [hfd] at f8
     dsimp only at f8
     split at f8
     ·rename_i c hc
      split at f8
      ·rename_i oc hoc
       split at f8
       ·rename_i vs hvs
        split at f8
        ·rename_i x t hx
         cases f8
         exact ⟨c,oc,vs,t,hc,hoc,hvs,hx⟩
        ·cases f8
       ·cases f8
      ·cases f8
     ·cases f8
    rw [n1,n2,n3,n4]
    exact ⟨a,o,fd,ref_ j _ a k1 k2,g1,hfd,c1,c2,by rw [c3];exact p1,by rw [c3];exact p2,by rw [c3];exact p3,c4,c5,by rw [c6];exact hcr,by rw [c7];exact p4,by rw [c7],by rw [c7];exact p5,by rw [c7];exact p6,by rw [c7];exact p7,c8,by rw [c3],c6⟩
   ·cases g2
theorem YPs.keeps {w:World} {mg:Str→Option Value} {h h':Heap} (Y:YPs w mg h) (k:∀ b o,h.get? b=some o→h'.get? b=some o):YPs w mg h':=by
 have T:Tr (fun _=>False) h (fun _=>False) h':=fun b o e _ _=>⟨k b o e,id⟩
 refine ⟨let ⟨o,e⟩:=Y.sys;⟨o,k _ _ e⟩,(let ⟨m,e⟩:=Y.sysns;⟨m,e.keeps k⟩),Y.cf,k _ _ Y.K,let ⟨mN,e,r⟩:=Y.N;⟨mN,e.keeps k,r⟩,?_,Y.free,fun x v hx hn=>let ⟨val,e,r⟩:=Y.consts x v hx hn;⟨val,e,fun C=>(r C).tr T⟩,let ⟨val,e,r⟩:=Y.ranks;⟨val,e,fun C hC=>(r C hC).tr T⟩⟩
 obtain ⟨oI,fd,c1,c2,c3,c4,c5,c6,c7,c8,c9,c10,c11,r⟩:=Y.I
 exact ⟨oI,fd,k _ _ c1,c2,c3,c4,c5,c6,c7,c8,c9,c10,c11.keeps k,r⟩
theorem tm.keeps {w:World} {mg:Str→Option Value} {h h':Heap} (Y:tm w mg h) (k:∀ b o,h.get? b=some o→h'.get? b=some o):tm w mg h':=
 { Y.toYPs.keeps k with fns:=fun i hi=>let ⟨a,o,fd,e1,e2,e3,g1,g2,g3,g4,g5,g6,g7,g8,r⟩:=Y.fns i hi;⟨a,o,fd,e1,k _ _ e2,e3,g1,g2,g3,g4,g5,g6,g7,g8.keeps k,r⟩ }
theorem oV {w:World} {s:Shared} (e:eN s=d4 w):s.heap.isNs mainGlobals=true:=by
 have e1:kF s.heap=true:=congrArg Prod.fst e
 unfold kF at e1
 simp only [Bool.and_eq_true] at e1
 exact e1.1.1.1.1.1.1.1
end Mine
namespace Mine
open PySem PySem.Calls PyProof.Rows PySem.W
abbrev pw:Program:=PySem.Challenge.pw_pf0068_01
def qv:Program:=view pw [171,177]
theorem oH:(recsOf qv).map (·.name)=[("_law_told" : Str),("law" : Str)]:=by kernel_rfl
def bX:List Str:=KA++KB
def fJ (mg:Str→Option Value) (i:Nat):Addr:=match mg (fL i) with
 | some (.ref a)=>a
 | _=>0
def ug:Str := "_law_told.<locals>.<lambda>"
noncomputable def qy (w:World) (h:Heap) (mg:Str→Option Value) (pl lc:Addr):Cfg where
 prog:=pw
 w:=w
 h₀:=hide h fun b=>b=pl
 fa:=fJ mg
 lam:=fun f fd cs=>f=142∧∃ nm cd ct c,fd=kla_fn "<lambda>" ug eD mU dB [("whole",c)] nm (.ref cd) ct∧cs=[c]
 cls:=.ref 31
 pl:=pl
 lpos:=o7
 lqual:=ug
 isDef:=fun i=>decide (i < 142)
 lc:=lc
theorem sV {x:Str} {i:Nat} (h:dA.lookup x=some i):fL i=x:=by
 have hm:=mem_of_lookup h
 unfold dA at hm
 obtain ⟨⟨d,k⟩,hk,e⟩:=List.mem_map.mp hm
 cases e
 have hk':defs[i]?=some d:=by
  have:=List.mem_zipIdx hk
  obtain ⟨h1,h2,h3⟩:=this
  rw [List.getElem?_eq_getElem (by omega)]
  simpa using h3.symm
 unfold fL
 rw [hk'];rfl
theorem uf (env:Env):defaultsOf eD env=([],[]):=by
 have h1:eD.defaults.isEmpty=true:=by decide +kernel
 have h2:eD.kw_defaults.isEmpty=true:=by decide +kernel
 generalize eD=a at h1 h2
 obtain ⟨_,_,_,_,kwd,_,d⟩:=a
 simp only [List.isEmpty_iff] at h1 h2
 subst h1 h2
 simp [defaultsOf,evalEach,evalEachOpt]
section
variable {w:World} {mean:ExcName→Option Value} {mg mb:Str→Option Value} {h:Heap}
theorem AB {loose:List Str} (T:Top qv loose mean mg mb h) (Y:tm w mg h):∃ pl lc,iB (qy w h mg pl lc) mg mb∧h.TableAt lc pl #[]:=by
 -- told's code and table
 obtain ⟨dt,hdt,ndt⟩:∃ d∈recsOf qv,d.name = "_law_told" := by
  have:("_law_told" : Str)∈(recsOf qv).map (·.name):=by rw [oH];exact List.mem_cons_self ..
  obtain ⟨d,h1,h2⟩:=List.mem_map.mp this
  exact ⟨d,h1,h2⟩
 obtain ⟨at_,ot,ft,lc,pl,t1,t2,t3,t4,t5,t6⟩:=T.tab dt hdt
 refine ⟨pl,lc,?_,t6⟩
 have hpl:h.get? pl=some { cls:=.none,data:=.fields #[] }:=t6.2
 -- all but the table stands
 have hid:∀ b o,h.get? b=some o→o.data≠.fields #[]→(hide h fun b=>b=pl).get? b=some o:=fun b o e hd=>by
  rw [eE (fun q=>by rw [q,hpl] at e;cases e;exact hd rfl)];exact e
 have hns:∀ {a:Addr} {m:Str→Option Value},h.Ns a m→(hide h fun b=>b=pl).Ns a m:=fun x=>by
  obtain ⟨o,es,ep,e,hd,r⟩:=x
  exact ⟨o,es,ep,hid _ _ e (by rw [hd];intro q;cases q),hd,r⟩
 have hcr:∀ {cd:Value} {q:Str},h.CodeRec cd q→(hide h fun b=>b=pl).CodeRec cd q:=fun x=>by
  obtain ⟨c,o,vs,t,e1,e2,e3,e4⟩:=x
  exact ⟨c,o,vs,t,e1,hid _ _ e2 (by rw [e3];intro q;cases q;simp at e4),e3,e4⟩
 have hrep:∀ {C:Cfg} {v:V} {val:Value},RepV C (fun _=>False) h v val→RepV C (fun _=>False) (hide h fun b=>b=pl) v val:=fun r=>r.tr fun b o e hc _=>⟨by
  rw [eE (fun q=>by rw [q,hpl] at e;cases e;rcases hc with q | q | q | (q | q) | q <;> cases q)];exact e,id⟩
 have hfn:=Y.fns
 have hfa:∀ {i a},mg (fL i)=some (.ref a)→fJ mg i=a:=fun e=>by unfold fJ;rw [e]
 obtain ⟨bm,ob,b1,b2,b3,b4,b5,b6⟩:=T.bmain
 refine { W:=?_,Y:=?_,L:=?_,obj:=?_,code:=?_,isDef:=fun _=>rfl,lam:=fun f fd cs x=>?_ }
 ·refine { g:=hns T.g,b:=hns T.b,bi:=T.builtins,free:=fun x hx=>Y.free x (List.mem_cons_of_mem _ hx),defs:=fun x i hx=>?_,fobj:=fun x i hx=>?_,consts:=fun x v hx=>?_,nolimit:=?_,sys:=?_,cls:=⟨_,rfl⟩ }
  ·obtain ⟨a,o,fd,e1,_⟩:=hfn i (m7 hx)
   rw [← sV hx]
   show mg (fL i)=some (Value.ref (fJ mg i))
   rw [hfa e1];exact e1
  ·obtain ⟨a,o,fd,e1,e2,e3,_⟩:=hfn i (m7 hx)
   refine ⟨o,fd,?_,e3⟩
   show (hide h _).get? (fJ mg i)=_
   rw [hfa e1]
   exact hid _ _ e2 (by rw [e3];intro q;cases q)
  ·by_cases q:x=("RANKS" : Str)
   ·subst q
    obtain ⟨val,e1,e2⟩:=Y.ranks
    have:v=gV:=by unfold gV;rw [hx];rfl
    subst this
    exact ⟨val,e1,hrep (e2 _ rfl)⟩
   ·obtain ⟨val,e1,e2⟩:=Y.consts x v hx q
    exact ⟨val,e1,hrep (e2 _)⟩
  ·obtain ⟨mc,e1,e2⟩:=T.nolimit
   exact ⟨mc,hns e1,e2⟩
  ·obtain ⟨o,e⟩:=Y.sys
   refine ⟨o,?_⟩
   show (hide h _).get? sysModules=_
   have hne:sysModules≠pl:=fun q=>by
    obtain ⟨m,o',es,ep,e',hd,_⟩:=Y.sysns
    rw [q,hpl] at e';cases e';cases hd
   rw [eE (D:=fun b=>b=pl) hne];exact e
 ·obtain ⟨mN,c4,c5,c6,c7,c8,c9,c10⟩:=Y.N
  obtain ⟨oI,fd,i1,i2,i3,i4,i5,i6,i7,i8,i9,i10,i11,r⟩:=Y.I
  refine ⟨⟨31,30,28,_,_,_,_,_,_,_,_,_,_,_,_,_,mN,oI,fd,rfl,Y.cf,hid _ _ Y.K (by intro q;cases q),hns c4,c5,c6,c7,c8,c9,c10,hid _ _ i1 (by rw [i3];intro q;cases q),i2,i3,i4,i5,i6,i7,i8,i9,i10,hcr i11,r⟩,Y.free _ (List.mem_cons_self ..)⟩
 ·have HC:=CodeHd.of t5 t6
  refine { pl:=iU rfl,hd:=?_,bm:=⟨bm,ob,b1,b2,?_,?_,hid _ _ b3 (by rw [b6];intro q;cases q),b4,b5,b6⟩,pos:=⟨rfl,rfl⟩,lam:=fun c cd ct=>⟨rfl,_,_,_,_,rfl,rfl⟩,dflt:=uf }
  ·obtain ⟨o,vs,file,tf,flags,tg,inF,text,tt,e1,e2,e3,e4,r⟩:=HC
   exact ⟨o,vs,file,tf,flags,tg,inF,text,tt,hid _ _ e1 (by rw [e3];intro q;cases q;simp at e4),e2,e3,e4,r⟩
  ·intro q
   obtain ⟨o,es,ep,e,hd,_⟩:=T.g
   rw [← q,b3] at e;cases e;rw [b6] at hd;cases hd
  ·intro q
   have q:bm=pl:=q
   rw [q,hpl] at b3;cases b3;cases b6
 ·intro i hi
  obtain ⟨a,o,fd,e1,e2,e3,g1,g2,g3,g4,g5,g6,g7,g8,g9,g10,g11,g12,g13,g14,g15,_⟩:=hfn i hi
  refine ⟨o,fd,?_,e3,g1,g2,g3,g4,g5,g6,g7,hcr g8,g9,g10,g11,g12,g13,g14,g15⟩
  show (hide h _).get? (fJ mg i)=_
  rw [hfa e1]
  exact hid _ _ e2 (by rw [e3];intro q;cases q)
 ·rintro fd ⟨o,e,hd⟩
  obtain ⟨a,o',fd',e1,e2,e3,_,_,_,_,_,_,_,_,_,_,_,_,_,_,_,e4⟩:=hfn 135 (by omega)
  have hn:fL 135 = "_law_told" := by decide +kernel
  change (hide h _).get? (fJ mg 135)=_ at e
  rw [hfa e1] at e
  have e:=lH e
  rw [e2] at e;cases e
  rw [e3] at hd;cases hd
  rw [hn,← ndt] at e1
  rw [t1] at e1;cases e1
  rw [t2] at e2;cases e2
  rw [t3] at e3;cases e3
  refine ⟨t4,?_⟩
  rw [e4,hn]
  show _=ug
  decide +kernel
 ·exact x
end
abbrev d3:OpenLaw:=PySem.Challenge.rw_pf0068_01
theorem lay_ints {R:WRecords} {cl:Str→Option Addr} {P:Params} {ord:List DictEntry→List DictEntry} {C:Cfg} {h:Heap}:∀ (is:List Int) (s:Shared) (vs:List Value) (s':Shared),layAllW R cl P ord (is.map WData.int) s=some (vs,s')→s'.heap=s.heap∧RepVs C (fun _=>False) h (is.map V.int) vs∧vs.length=is.length
 | [],s,vs,s',e=>by
  simp only [List.map_nil,layAllW] at e
  cases e
  exact ⟨rfl,by simp only [List.map_nil,RepVs],rfl⟩
 | i::is,s,vs,s',e=>by
  simp only [List.map_cons,layAllW,layW] at e
  split at e
  ·rename_i r hr
   obtain ⟨vs1,s₁⟩:=r
   cases e
   obtain ⟨h1,h2,h3⟩:=lay_ints is _ vs1 s₁ hr
   exact ⟨h1,by simp only [List.map_cons,RepVs,RepV];exact ⟨_,_,rfl,⟨_,rfl⟩,h2⟩,by simp [h3]⟩
  ·cases e
theorem w4 {args:List WData} (hpre:d3.row.toRowW.claim.pre args=true):∃ is:List Int,args=[.list (is.map .int)]∧is.length≤63:=by
 obtain ⟨h1,h2⟩:=pre_splitW hpre
 obtain ⟨d,r,rfl,h3,h4⟩:=hasAllW_cons (e:=.list .int) (es:=[]) h1
 obtain rfl:=hasAllW_nil h4
 obtain ⟨xs,rfl,h5⟩:=hasW_list h3
 obtain ⟨is,rfl⟩:=items_int h5
 refine ⟨is,rfl,?_⟩
 have e:d3.row.toRowW.pre=.and (.not (.lt (.lit (.int 63)) (.len (.arg 0)))) (.lit (.bool true)):=rfl
 rw [e] at h2
 by_cases q:is.length≤63
 ·exact q
 ·have h63:decide ((63:Int) < (is.length:Int))=true:=decide_eq_true (by omega)
  simp only [WTm.holds,WTm.value,List.getElem?_cons_zero,List.length_map] at h2
  rw [show PySem.W.less? (WData.int 63) (WData.int (is.length:Int))=some (decide ((63:Int) < (is.length:Int))) from rfl,h63] at h2
  exact absurd h2 (by simp)
theorem xS:fL 141 = "law" := by decide +kernel
theorem walk {o:ic} (LF:fP o) (hO:∀ C,kK C o) {d:DefRec} {kwd:List (Str×Expr)} (hdn:d.name = "law"):WalkX qv bX (fun _ _=>True) eN d4 d3.row.toRowW d kwd fun f vs=>PySem.call f vs:=by
 intro w aj s₁ mg mb G Y a ob pm cd doc dV kV ho hd hcr hdf hmg hgen args vals as L hpre hlay hrd hwl hlow
 obtain ⟨is,rfl,h63⟩:=w4 hpre
 have hm:aj.heap.nsMap mainGlobals=mg:=sA ((Heap.Ns.of_isNs (oV Y)).keeps L.keeps) G.T.g
 have Y1:=(xb Y).keeps L.keeps
 rw [hm] at Y1
 obtain ⟨pl,lc,H,hT⟩:=AB G.T Y1
 obtain ⟨ord,_,hl⟩:=L.laid
 simp only [layAllW,layW] at hl
 split at hl
 ·rename_i r hr
  cases hr2:layAllW d3.row.toRowW.records (classAt aj.heap) w.params ord (is.map WData.int) aj with
  | none=>rw [hr2] at hr;cases hr
  | some q=>
   obtain ⟨vs,s₂⟩:=q
   rw [hr2] at hr
   cases hr
   cases hl
   obtain ⟨e1,e2,e3⟩:=lay_ints (C:=qy w (s₂.heap.push { cls:=.type "list",data:=.seq vs.toArray }) mg pl lc) (h:=s₂.heap.push { cls:=.type "list",data:=.seq vs.toArray }) is aj vs s₂ hr2
   have hbase:Base (qy w (s₂.heap.push { cls:=.type "list",data:=.seq vs.toArray }) mg pl lc) (s₂.heap.push { cls:=.type "list",data:=.seq vs.toArray }):=fun b o e=>lH e
   have P:aZ (qy w (s₂.heap.push { cls:=.type "list",data:=.seq vs.toArray }) mg pl lc) 61 (fun _=>False) (fun _=>False) [] callerA { s₂ with heap:=s₂.heap.push { cls:=.type "list",data:=.seq vs.toArray } }:=
    { room:=⟨rfl,by show 1 + claimMargin + 61 + 3 < recursionLimit;decide,by show 4 + 4 * 61 + 500 < cLine;decide⟩,stk:=⟨[],rfl,trivial⟩,au:=⟨fun _ _ q=>q.elim,fun _ q=>q.elim⟩,pnX:=fun _ q=>q,base:=hbase,lt:=fun _ q=>q.elim,fresh:=fun _ q=>q.elim,tab:=.inl hT.2 }
   have hfa:(qy w (s₂.heap.push { cls:=.type "list",data:=.seq vs.toArray }) mg pl lc).fa 141=a:=by
    show fJ mg 141=a
    unfold fJ
    rw [xS,← hdn,hmg]
   have hv:RepV (qy w (s₂.heap.push { cls:=.type "list",data:=.seq vs.toArray }) mg pl lc) (fun _=>False) (s₂.heap.push { cls:=.type "list",data:=.seq vs.toArray }) (.lst (is.map .int)) (.ref s₂.heap.objs.size):=by
    simp only [RepV]
    exact ⟨_,vs,rfl,id,⟨by show vs.length≤8000;omega,0,Heap.get?_push_size _ rfl⟩,e2⟩
   have fin:=sH (Q:=fun v s'=>GoodWG d3.row.toRowW.claim (classAt aj.heap) (ExcName.means aj.heap) [.list (is.map .int)] { s₂ with heap:=s₂.heap.push { cls:=.type "list",data:=.seq vs.toArray } } (.ok (.ret v)) s')
    (E:=fun e s'=>GoodWG d3.row.toRowW.claim (classAt aj.heap) (ExcName.means aj.heap) [.list (is.map .int)] { s₂ with heap:=s₂.heap.push { cls:=.type "list",data:=.seq vs.toArray } } (.error e) s') H LF (hO _) P hv fun s' X hb htab hg hos=>?_
   ·rw [hfa] at fin
    exact fin
   ·refine ⟨.inl ⟨.bool true,.bool true,[],rfl,fun _=>rfl,.bool true,?_,fun _=>⟨List.nodup_nil,fun _ q=>nomatch q⟩⟩,?_,hos,?_⟩
    ·refine postW_of (X:=true) ?_ ?_ rfl
     ·show WShape.has d3.row.toRowW.records (.bool true) .bool=true
      simp [WShape.has,WShape.arms]
     ·show WTm.value d3.row.toRowW.records (.eq .res (.lit (.bool true))) _=_
      simp [WTm.value,same]
    ·have keep:∀ b ob',(s₂.heap.push { cls:=.type "list",data:=.seq vs.toArray }).get? b=some ob'→b≠pl→s'.heap.get? b=some ob':=fun b ob' e hne=>hb b ob' (by
      show (hide _ _).get? b=_
      rw [eE (D:=fun b=>b=pl) hne];exact e)
     refine ⟨fun b ob' e=>?_,fun b ob' e=>?_⟩
     ·by_cases q:b=pl
      ·subst q
       have e':=hT.2
       rw [e] at e';cases e'
       refine .inr (.inl ⟨hT.isCodeTable,rfl,#[],?_⟩)
       rcases htab with x | ⟨c',x,_⟩
       ·exact ⟨#[],rfl,by simpa using (show s'.heap.get? b=_ from x)⟩
       ·exact ⟨_,rfl,by simpa using (show s'.heap.get? b=_ from x)⟩
      ·exact .inl (keep b ob' e q)
     ·by_cases q:b=pl
      ·subst q
       rcases htab with x | ⟨c',x,_⟩
       ·exact ⟨_,x⟩
       ·exact ⟨_,x⟩
      ·exact ⟨ob',keep b ob' e q⟩
    ·exact .of_eq (hg.trans hgen)
 ·cases hl
def dL:DefRec×List (Str×Expr):=(defOf qv "law").getD (⟨"law",⟨[],[],none,[],[],none,[]⟩,[],⟨.module,[],false,false,[]⟩,⟨0,0,0,0⟩⟩,[])
theorem yl:defOf qv "law" = some dL:=by kernel_rfl
theorem yk:pw.theDef "law" = some (dL.1.params,dL.1.body,dL.1.scope):=by kernel_rfl
theorem AH:kwWritten? dL.1.params.kwonlyargs dL.1.params.kw_defaults=some dL.2:=by kernel_rfl
theorem wU:dL.1.name = "law" := by decide +kernel
theorem BW:(chainsOk qv&&opensWell pw&&(frees d3.row.toRowW&&d3.row.within.isEmpty))=true:=by decide +kernel
theorem xc:pw.tablesWhole=true:=by kernel_rfl
theorem AI:pw.bare:=⟨rfl,rfl,rfl,rfl,rfl,xc⟩
theorem A6:d3.row.toRowW.promised:=⟨[.list []],by kernel_rfl,by kernel_rfl⟩
theorem holds {o:ic} {N:Nat} (LF:fP o) (hO:∀ C,kK C o) (left:LeftO pw qv bX (fun _=>true) eN d4 N) (k1:d3.wellSaid=true):d3.Holds:=by
 have k2:d3.row.wellSaid=true:=by
  unfold OpenLaw.wellSaid at k1
  simp only [Bool.and_eq_true] at k1
  obtain ⟨k,_⟩:=k1
  repeat (first | exact k | obtain ⟨k,_⟩:=k)
 exact ⟨k1,holds_openX (r:=d3.row) (XP:=fun _ _=>True) left (fun _ _=>trivial) (fun _ _ _ _ _=>trivial) yl yk AH (fun s _=>recFacts_nil rfl) rfl k2 BW AI A6 (walk LF hO wU)⟩
noncomputable section
def sR:List Obj→BT→Nat→BT
 | [],t,_=>t
 | o::r,t,n=>sR r (t.ins n o) (n + 1)
def jY (st:SharedT→Thread→Option (SharedT×Thread)) (ok:Thread→Bool) (n:Nat):SharedT→Thread→Option SharedT:=
 @Nat.rec (fun _=>SharedT→Thread→Option SharedT) (fun _ _=>none) (fun _ ih s t=>@Bool.rec (fun _=>Option SharedT) (@Bool.rec (fun _=>Option SharedT) none (@Option.rec (SharedT×Thread) (fun _=>Option SharedT) none (fun r=>@Prod.rec SharedT Thread (fun _=>Option SharedT) (fun s t=>ih s t) r) (st s t)) (ok t)) (some s) (through t)) n
def oy (P:Params) (os:OsState):SharedT:=⟨sR (boot_heap P).objs.toList .nil 0,11,(boot_heap P).life,#[],boot_drawn,boot_toks,os⟩
def sb (w:World):SharedT→Thread→Option (SharedT×Thread):=Fast.tw10156331382660048174 (Fast.tw11892475500146522536 Fast.tw14364793385576792824) pw w
def sz:Thread→Bool:=Fast.tw6613529449190102663 11 none
def pD (w:World) (P:Params) (os:OsState):Option SharedT:=jY (sb w) sz 10300 (oy P os) (topStub pw)
def gz:String := "special-get-raises"
end
theorem oG {tb:String→Option Builtin} {p:Program} {w:World} {n0:Nat} {ann:Option Value}:∀ (n:Nat) (s:SharedT) (t:Thread) (s':SharedT),jY (stepT (denote tb) p w) (stepOk n0 none) n s t=some s'→topRun tb p w n0 ann n s.abs t=some s'.abs
 | 0,_,_,_,h=>by cases h
 | n + 1,s,t,s',h=>by
  unfold topRun
  change (@Bool.rec (fun _=>Option SharedT) (@Bool.rec (fun _=>Option SharedT) none (@Option.rec (SharedT×Thread) (fun _=>Option SharedT) none (fun r=>@Prod.rec SharedT Thread (fun _=>Option SharedT) (fun s t=>jY (stepT (denote tb) p w) (stepOk n0 none) n s t) r) (stepT (denote tb) p w s t)) (stepOk n0 none t)) (some s) (through t))=some s' at h
  cases ht:through t with
  | true=>rw [ht] at h;cases h;rfl
  | false=>
   rw [ht] at h
   cases hk:stepOk n0 none t with
   | false=>rw [hk] at h;cases h
   | true=>
    rw [hk] at h
    have hk':stepOk n0 ann t=true:=by
     unfold stepOk at hk ⊢
     rw [Bool.and_eq_true] at hk ⊢
     refine ⟨hk.1,?_⟩
     have h2:=hk.2
     split at h2
     ·simp only [Bool.or_eq_true] at h2 ⊢
      rcases h2 with h2 | h2
      ·exact .inl h2
      ·cases h2
     ·cases h2
     ·rfl
    rw [hk']
    cases hs:stepT (denote tb) p w s t with
    | none=>rw [hs] at h;cases h
    | some r=>
     obtain ⟨s₂,cg⟩:=r
     rw [hs] at h
     rw [stepT_spec hs]
     exact oG n s₂ cg s' h
theorem boot_abs (P:Params) (os:OsState):(oy P os).abs=⟨boot_heap P,#[],boot_drawn,boot_toks,os⟩:=by kernel_rfl
theorem ti (P:Params):((boot_heap P).isNs mainGlobals&&(#[]:Array GenState).size==0,(boot_heap P).objs.size)=(true,11):=by kernel_rfl
def me:List Str:=importedModules pw.main.body
noncomputable def qZ (P:Params) (s:Shared):Bool:=staticsOk me (boot_heap P) s.heap&&namesBound pw s.heap&&gensDone s&&laidKept (boot_heap P) s.heap
theorem uv {w:World} {P:Params} {os:OsState} {s:SharedT} {ann:Option Value} (h:pD w P os=some s):topRun treeTable pw w 11 ann 10300 ⟨boot_heap P,#[],boot_drawn,boot_toks,os⟩ (topStub pw)=some s.abs:=by
 unfold pD sb sz at h
 rw [← Fast.te10156331382660048174,← Fast.te11892475500146522536,← Fast.te14364793385576792824,← Fast.te6613529449190102663] at h
 rw [← boot_abs]
 exact oG _ _ _ _ h
theorem wF {Xt:Shared→Bool} {α:Type} {Yf:Shared→α} {Ya:World→α}
  (h:∀ (w:World) (b:Bool) (os:OsState),∃ s,pD (w.withFollow gz b) w.params os=some s∧qZ w.params s.abs=true∧openSeen qv bX me Xt true s.abs=openGood qv bX∧Yf s.abs=Ya (w.withFollow gz b)):LeftO pw qv bX Xt Yf Ya 10300:=
 LeftO.of_split gz fun w=>by
  obtain ⟨⟨hp,gs,d,k,os⟩,e,e'⟩:=Option.map_eq_some_iff.mp (boot_open (p:=pw) (N:=10300) rfl rfl (fun _=>rfl) w)
  obtain ⟨rfl,rfl,rfl,rfl⟩:hp=boot_heap w.params∧gs=#[]∧d=boot_drawn∧k=boot_toks:=by simpa using e'
  rw [e]
  have one:∀ b,(topFrom treeTable pw (w.withFollow gz b) 10300 ⟨boot_heap w.params,#[],boot_drawn,boot_toks,os⟩).map (fun s=>(openSeen qv bX (importedModules pw.main.body) Xt true s,Yf s))=some (openGood qv bX,Ya (w.withFollow gz b)):=fun b=>by
   obtain ⟨s,h1,h2,h3,h4⟩:=h w b os
   have hz:=ti w.params
   simp only [Prod.mk.injEq] at hz
   unfold topFrom
   dsimp only
   rw [hz.1,hz.2,uv h1]
   show Option.map _ (match qZ w.params s.abs with | true=>some s.abs | false=>none)=_
   rw [h2]
   exact congrArg some (Prod.ext h3 h4)
  show some (_,_)=_
  rw [one false,one true]
def lI (s:SharedT) (a:Addr):Option Obj:=match Nat.blt a s.n with
 | true=>alive ((s.tree.get a).getD default)
 | false=>none
theorem qJ (s:SharedT) (a:Addr):lI s a=s.abs.heap.get? a:=by
 unfold lI Heap.get?
 show _=(match (absHeap s.tree s.n s.life).objs[a]? with | some ⟨_,_,.freed,_⟩=>none | x=>x)
 rw [absHeap_at]
 by_cases h:a < s.n
 ·rw [if_pos h,show Nat.blt a s.n=true by rw [blt_dec];exact decide_eq_true h]
  dsimp only
  generalize (s.tree.get a).getD default=o
  obtain ⟨c,d,dt,sl⟩:=o
  cases dt <;> rfl
 ·rw [if_neg h,show Nat.blt a s.n=false by rw [blt_dec];exact decide_eq_false h]
def codeT (s:SharedT) (a:Addr):Option Str:=match lI s a with
 | some o=>(match o.data with
  | .func fd=>(match fd.code with
   | .ref c=>(match lI s c with
    | some o=>(match o.data with
     | .fields vs=>(match vs[1]? with
      | some (Value.str x _)=>some x
      | _=>none)
     | _=>none)
    | none=>none)
   | _=>none)
  | _=>none)
 | none=>none
theorem uD (s:SharedT) (a:Addr):codeT s a=codeQ s.abs.heap a:=by
 unfold codeT codeQ
 simp only [qJ] <;> rfl
def oW (s:SharedT):rQ:=(kF s.abs.heap,lI s 31,(lI s 28).bind fnLook,jZ s.abs.heap (some (.ref gI)),(entsOf s.abs.heap).map keyO,(entsOf s.abs.heap).map valO,AD.map (fun a=>(lI s a).bind fnL),AD.map (codeT s))
theorem sF (s:SharedT):oW s=eN s.abs:=by
 have e:codeT s=codeQ s.abs.heap:=funext (uD s)
 unfold oW eN
 rw [e]
 simp only [qJ]
noncomputable section
def tW (P:Params) (s:Shared):Bool:=staticsOk me (boot_heap P) s.heap&&gensDone s&&laidKept (boot_heap P) s.heap&&s.heap.accountedOkI me&&s.heap.isNs mainGlobals&&s.heap.isNs builtinsNs&&tablesOk qv s.heap&&s.gens.size==0
def obs (P:Params) (s:SharedT):=(tW P s.abs,seen ((recsOf qv).map (·.name)) (ownsOf qv) [] { s.abs with gens:=#[] },s.abs.heap.bltView,tabsOk qv s.abs,pinSeenD qv (drecsOf qv) s.abs,plainSeenE qv (looseW qv bX) s.abs,plainSeenD qv bX s.abs,wideSeen qv s.abs,clsSeenW qv bX s.abs,oW s)
def kC (w:World):=(true,expectedOf qv,bltViewBooted,true,pinGoodD (drecsOf qv),plainGoodE qv (looseW qv bX),plainGoodD qv bX,wideGood qv,clsGoodW qv bX,d4 w)
end
theorem uG:pw.boundNames=("__name__" : Str)::(KA++(("_law_told" : Str)::(KB++[("law" : Str)]))):=by kernel_rfl
theorem o9:(KS.all fun x=>startupNames.contains x)=true:=by decide +kernel
theorem qA {w:World} {s:Shared} (e:eN s=d4 w):s.heap.nsKeys mainGlobals=KL:=by
 have e5:(entsOf s.heap).map keyO=KL.map some:=congrArg (fun x=>x.2.2.2.2.1) e
 have:s.heap.nsKeys mainGlobals=(entsOf s.heap).filterMap keyO:=by
  unfold Heap.nsKeys entsOf
  cases s.heap.get? mainGlobals with
  | none=>rfl
  | some o=>obtain ⟨c,d,dt,sl⟩:=o;cases dt <;> rfl
 rw [this]
 have h2:(entsOf s.heap).filterMap keyO=((entsOf s.heap).map keyO).filterMap id:=by rw [List.filterMap_map];rfl
 rw [h2,e5,List.filterMap_map]
 show KL.filterMap (fun x=>some x)=KL
 exact List.filterMap_some
theorem jg {w:World} {s:Shared} (e:eN s=d4 w):namesBound pw s.heap=true:=by
 unfold namesBound
 rw [oV e,qA e,uG,Bool.true_and,List.all_eq_true]
 intro x hx
 unfold KL at hx
 rw [Bool.or_eq_true]
 rcases List.mem_append.mp hx with hx | hx
 ·exact .inl (List.all_eq_true.mp o9 x hx)
 ·exact .inr (List.contains_iff_mem.mpr (List.mem_cons_of_mem _ hx))
theorem sL {w:World} {s:Shared} (e:eN s=d4 w):s.heap.keysOk (looseW qv bX) ((recsOf qv).map (·.name)) ((litsOf qv).map (·.1)) ((clssOf qv (looseW qv bX)).map (·.name))=true:=by
 unfold Heap.keysOk
 rw [qA e,List.all_eq_true,oH]
 intro x hx
 have hl:∀ y,y∈bX→(looseW qv bX).contains y=true:=fun y hy=>List.contains_iff_mem.mpr (by
  unfold looseW looseD heldW
  exact List.mem_append_left _ (List.mem_append_left _ (List.mem_append_left _ hy)))
 simp only [Bool.or_eq_true]
 unfold KL at hx
 rcases List.mem_append.mp hx with hx | hx
 ·exact .inl (.inl (.inl (.inl (List.all_eq_true.mp o9 x hx))))
 rcases List.mem_append.mp hx with hx | hx
 ·exact .inl (.inl (.inl (.inr (hl x (List.mem_append_left _ hx)))))
 rcases List.mem_cons.mp hx with rfl | hx
 ·exact .inl (.inl (.inr (List.contains_iff_mem.mpr (List.mem_cons_self ..))))
 rcases List.mem_append.mp hx with hx | hx
 ·exact .inl (.inl (.inl (.inr (hl x (List.mem_append_right _ hx)))))
 ·rcases List.mem_cons.mp hx with rfl | hx
  ·exact .inl (.inl (.inr (List.contains_iff_mem.mpr (List.mem_cons_of_mem _ (List.mem_cons_self ..)))))
  ·nomatch hx
theorem tV {w:World} {P:Params} {t:SharedT} (e:obs P t=kC w):qZ P t.abs=true∧openSeen qv bX me (fun _=>true) true t.abs=openGood qv bX∧eN t.abs=d4 w:=by
 have e10:eN t.abs=d4 w:=(sF t).symm.trans (congrArg (fun x=>x.2.2.2.2.2.2.2.2.2) e)
 have e1:tW P t.abs=true:=congrArg Prod.fst e
 have e2:seen ((recsOf qv).map (·.name)) (ownsOf qv) [] { t.abs with gens:=#[] }=expectedOf qv:=congrArg (fun x=>x.2.1) e
 have e3:t.abs.heap.bltView=bltViewBooted:=congrArg (fun x=>x.2.2.1) e
 have e4:tabsOk qv t.abs=true:=congrArg (fun x=>x.2.2.2.1) e
 have e5:=congrArg (fun x=>x.2.2.2.2.1) e
 have e6:=congrArg (fun x=>x.2.2.2.2.2.1) e
 have e7:=congrArg (fun x=>x.2.2.2.2.2.2.1) e
 have e8:=congrArg (fun x=>x.2.2.2.2.2.2.2.1) e
 have e9:=congrArg (fun x=>x.2.2.2.2.2.2.2.2.1) e
 dsimp only [obs,kC] at e5 e6 e7 e8 e9
 generalize t.abs=s at *
 unfold tW at e1
 simp only [Bool.and_eq_true] at e1
 obtain ⟨⟨⟨⟨⟨⟨⟨a1,a2⟩,a3⟩,a4⟩,a5⟩,a6⟩,a7⟩,a8⟩:=e1
 refine ⟨?_,?_,e10⟩
 ·unfold qZ
  rw [a1,jg e10,a2,a3];rfl
 ·unfold openSeen openGood
  rw [e2,e3,sL e10,a4,a5,a6,a7,e4,e5,e6,e7,e8,e9]
  simp [a8]
theorem ua (h:∀ (w:World) (b:Bool) (os:OsState),(pD (w.withFollow gz b) w.params os).map (fun s=>obs w.params s)=some (kC (w.withFollow gz b))):LeftO pw qv bX (fun _=>true) eN d4 10300:=
 wF fun w b os=>by
  obtain ⟨s,h1,h2⟩:=Option.map_eq_some_iff.mp (h w b os)
  obtain ⟨g1,g2,g3⟩:=tV h2
  exact ⟨s,h1,g1,g2,g3⟩
theorem xt:namesResolve pw=true:=by rw [Fast.te8377067652309620493];kernel_rfl
theorem wj:noRoadLSs { strict:=!(importedModules pw.main.body).all cThrough.contains,foot:=none,bare:=(["vars","dir","locals"]:List Str).filter (readsOut pw pw.main.body) } pw.main.body=true:=by rw [Fast.te8326940854005059898,Fast.te13343964577679436407];kernel_rfl
theorem wk:(namesMeet pw pw.main.body fun _ n=>attrL n)=true:=by rw [Fast.te17119622794617984870];kernel_rfl
theorem tK:(d3.bound'.all (fun n=>!builtinNamed n||d3.about==[n]||!d3.reads n))=true:=by kernel_rfl
theorem xu:(namesMeet d3.prog d3.above (fun _ n=>!d3.own.contains n))=true:=by rw [Fast.te17119622794617984870];kernel_rfl
theorem tJ:looksOpen pw=true:=by
 unfold looksOpen
 rw [xt,wj,wk,Fast.te11788848310118352699,Fast.te12862048085361865435]
 kernel_rfl
theorem xr:d3.row.wellSaid=true:=by
 unfold OpenRow.wellSaid OpenRow.partSaid
 rw [show looksOpen d3.row.prog=true from tJ]
 kernel_rfl
theorem A8:d3.wellSaid=true:=by
 unfold OpenLaw.wellSaid
 rw [xr,tK,xu,Fast.te17119622794617984870,Fast.te8326940854005059898,Fast.te9558739934217749035,Fast.te8179353310426384613]
 kernel_rfl
noncomputable def yc (st:SharedT→Thread→Option (SharedT×Thread)) (ok:Thread→Bool) (n:Nat):SharedT→Thread→Option (SharedT×Thread):=
 @Nat.rec (fun _=>SharedT→Thread→Option (SharedT×Thread)) (fun s t=>some (s,t)) (fun _ ih s t=>@Bool.rec (fun _=>Option (SharedT×Thread)) (@Bool.rec (fun _=>Option (SharedT×Thread)) none (@Option.rec (SharedT×Thread) (fun _=>Option (SharedT×Thread)) none (fun r=>@Prod.rec SharedT Thread (fun _=>Option (SharedT×Thread)) (fun s t=>ih s t) r) (st s t)) (ok t)) none (through t)) n
noncomputable def qI (w:World) (os:OsState) (b:Bool):Option (SharedT×Thread):=yc (sb (w.withFollow gz b)) sz 1250 (oy w.params os) (topStub pw)
theorem qH {st:SharedT→Thread→Option (SharedT×Thread)} {ok:Thread→Bool} {m:Nat}:∀ (n:Nat) (s:SharedT) (t:Thread) (r:SharedT×Thread),yc st ok n s t=some r→jY st ok (n + m) s t=jY st ok m r.1 r.2
 | 0,s,t,r,h=>by cases h;rw [Nat.zero_add]
 | n + 1,s,t,r,h=>by
  rw [show n + 1 + m=n + m + 1 by omega]
  change (@Bool.rec (fun _=>Option (SharedT×Thread)) (@Bool.rec (fun _=>Option (SharedT×Thread)) none (@Option.rec (SharedT×Thread) (fun _=>Option (SharedT×Thread)) none (fun r=>@Prod.rec SharedT Thread (fun _=>Option (SharedT×Thread)) (fun s t=>yc st ok n s t) r) (st s t)) (ok t)) none (through t))=some r at h
  show (@Bool.rec (fun _=>Option SharedT) (@Bool.rec (fun _=>Option SharedT) none (@Option.rec (SharedT×Thread) (fun _=>Option SharedT) none (fun r=>@Prod.rec SharedT Thread (fun _=>Option SharedT) (fun s t=>jY st ok (n + m) s t) r) (st s t)) (ok t)) (some s) (through t))=_
  cases ht:through t with
  | true=>rw [ht] at h;cases h
  | false=>
   rw [ht] at h
   cases hk:ok t with
   | false=>rw [hk] at h;cases h
   | true=>
    rw [hk] at h
    cases hs:st s t with
    | none=>rw [hs] at h;cases h
    | some q=>
     obtain ⟨s₂,cg⟩:=q
     rw [hs] at h
     exact qH n s₂ cg r h
theorem xU:∀ (w:World) (os:OsState),qI w os true=qI w os false:=by intro w os;kernel_rfl
theorem BS:∀ (w:World) (b:Bool) (os:OsState),((qI w os false).bind fun r=>jY (sb (w.withFollow gz b)) sz 9050 r.1 r.2).map (fun s=>obs w.params s)=some (kC (w.withFollow gz b)):=by intro w b os;kernel_rfl
theorem As:LeftO pw qv bX (fun _=>true) eN d4 10300:=ua fun w b os=>by
 have h:=BS w b os
 have e:qI w os b=qI w os false:=by
  cases b
  ·rfl
  ·exact xU w os
 cases hg:qI w os false with
 | none=>rw [hg] at h;cases h
 | some r=>
  rw [hg] at h e
  have e':pD (w.withFollow gz b) w.params os=jY (sb (w.withFollow gz b)) sz 9050 r.1 r.2:=qH (m:=9050) 1250 _ _ r e
  rw [e'];exact h
end Mine
namespace Mine
open PySem
def oQ:ic:=fun _=>none
noncomputable def B3:Call:=aU TK oQ 58
noncomputable def gH:Call:=aU TK oQ 59
noncomputable def yq:Call:=aU TK oQ 60
theorem kE {α β:Type} {f g:α→β}:∀ {l:List α},l.map f=l.map g→∀ x∈l,f x=g x
 | [],_,x,hx=>nomatch hx
 | a::l,h,x,hx=>by
  simp only [List.map_cons,List.cons.injEq] at h
  rcases List.mem_cons.mp hx with rfl | hx
  ·exact h.1
  ·exact kE h.2 x hx
theorem range_all {β:Type} {f g:Nat→β} {n:Nat} (h:(List.range n).map f=(List.range n).map g) {i:Nat} (hi:i < n):f i=g i:=kE h i (List.mem_range.mpr hi)
def PR:List (Nat×Nat):=[(0,10),(1,10),(2,10),(3,10),(4,10),(5,10),(6,10),(7,10),(8,10),(9,10),(0,0),(0,1),(1,0),(0,2),(2,0),(0,3),(3,0),(0,4),(4,0),(0,5),(5,0),(0,6),(6,0),(0,7),(7,0),(0,8),(8,0),(0,9),(9,0),(1,1),(1,2),(2,1),(1,3),(3,1),(1,4),(4,1),(1,5),(5,1),(1,6),(6,1),(1,7),(7,1),(1,8),(8,1),(1,9),(9,1),(2,2),(2,3),(3,2),(2,4),(4,2),(2,5),(5,2),(2,6),(6,2),(2,7),(7,2),(2,8),(8,2),(2,9),(9,2),(3,3),(3,4),(4,3),(3,5),(5,3),(3,6),(6,3),(3,7),(7,3),(3,8),(8,3),(3,9),(9,3),(4,4),(4,5),(5,4),(4,6),(6,4),(4,7),(7,4),(4,8),(8,4),(4,9),(9,4),(5,5),(5,6),(6,5),(5,7),(7,5),(5,8),(8,5),(5,9),(9,5),(6,6),(6,7),(7,6),(6,8),(8,6),(6,9),(9,6),(7,7),(7,8),(8,7),(7,9),(9,7),(8,8),(8,9),(9,8),(9,9)]
theorem Af:((List.range 10).all fun i=>(List.range 11).all fun j=>PR.contains (i,j))=true:=by decide +kernel
theorem su {i j:Nat} (hi:i < 10) (hj:j < 11):(i,j)∈PR:=List.contains_iff_mem.mp (List.all_eq_true.mp (List.all_eq_true.mp Af i (List.mem_range.mpr hi)) j (List.mem_range.mpr hj))
theorem wQ:∀ p,(List.range 18).map (fun i=>(rP B3 (rH (i / 3) (i % 3)) p).res)=(List.range 18).map (fun i=>Res.ok (.tup [(kindOf (pb (i / 3) (i % 3))).1,(kindOf (pb (i / 3) (i % 3))).2]) p):=by intro p;kernel_rfl
theorem yj:∀ x0 p,uT yq (mu x0) p=.next (aC (mu x0) (.val lj)) p:=by intro x0 p;kernel_rfl
theorem yi:∀ ρ p,(List.range 12).map (fun r=>pT yq (bq (aX ρ (.val (eW r).1)) (.val (eW r).2)) p)=(List.range 12).map (fun r=>af.next (bq (aX ρ (.val (eW r).1)) (.val (eW r).2)) p):=by intro ρ p;kernel_rfl
theorem yh:∀ ρ p,(List.range 20).map (fun i=>retT (uM yq (eT (cj ρ (.val (.int (bR (.ofNat 1) (.ofNat (i / 5)))))) (.val (.int (dw (.ofNat (i % 5)) (.ofNat 2))))) p))=(List.range 20).map (fun _=>some p):=by intro ρ p;kernel_rfl
theorem x7:∀ p,(List.range 10).map (fun k=>retT (jI gH (eS k) p))=(List.range 10).map (fun _=>some p):=by intro p;kernel_rfl
noncomputable def f1 (k i:Nat):Fr:=mv oQ k (i / 2) (i % 2)
noncomputable def iq (k:Nat) (p:List V) (x:Nat×Nat):Option (List V):=match Nat.beq x.2 10 with
 | true=>retT (jI gH (f1 k x.1) p)
 | false=>uW gH (turn (f1 k x.1) 1 (x.2 / 2) (x.2 % 2)) p
theorem Bt:∀ p,(List.range 10).map (fun i=>dT gH (turn (eS 0) 0 (i / 2) (i % 2)) p)=(List.range 10).map (fun i=>af.next (f1 0 i) p):=by intro p;kernel_rfl
theorem Bi:(List.range 10).map (fun i=>Fr.s0 (f1 0 i))=(List.range 10).map (fun _=>Slot.au):=by kernel_rfl
theorem BG:∀ p,PR.map (iq 0 p)=PR.map (fun _=>some p):=by intro p;kernel_rfl
theorem Bs:∀ p,(List.range 10).map (fun i=>dT gH (turn (eS 1) 0 (i / 2) (i % 2)) p)=(List.range 10).map (fun i=>af.next (f1 1 i) p):=by intro p;kernel_rfl
theorem Bh:(List.range 10).map (fun i=>Fr.s0 (f1 1 i))=(List.range 10).map (fun _=>Slot.au):=by kernel_rfl
theorem BF:∀ p,PR.map (iq 1 p)=PR.map (fun _=>some p):=by intro p;kernel_rfl
theorem Br:∀ p,(List.range 10).map (fun i=>dT gH (turn (eS 2) 0 (i / 2) (i % 2)) p)=(List.range 10).map (fun i=>af.next (f1 2 i) p):=by intro p;kernel_rfl
theorem Bg:(List.range 10).map (fun i=>Fr.s0 (f1 2 i))=(List.range 10).map (fun _=>Slot.au):=by kernel_rfl
theorem BE:∀ p,PR.map (iq 2 p)=PR.map (fun _=>some p):=by intro p;kernel_rfl
theorem Bq:∀ p,(List.range 10).map (fun i=>dT gH (turn (eS 3) 0 (i / 2) (i % 2)) p)=(List.range 10).map (fun i=>af.next (f1 3 i) p):=by intro p;kernel_rfl
theorem Bf:(List.range 10).map (fun i=>Fr.s0 (f1 3 i))=(List.range 10).map (fun _=>Slot.au):=by kernel_rfl
theorem BD:∀ p,PR.map (iq 3 p)=PR.map (fun _=>some p):=by intro p;kernel_rfl
theorem Bp:∀ p,(List.range 10).map (fun i=>dT gH (turn (eS 4) 0 (i / 2) (i % 2)) p)=(List.range 10).map (fun i=>af.next (f1 4 i) p):=by intro p;kernel_rfl
theorem Be:(List.range 10).map (fun i=>Fr.s0 (f1 4 i))=(List.range 10).map (fun _=>Slot.au):=by kernel_rfl
theorem BC:∀ p,PR.map (iq 4 p)=PR.map (fun _=>some p):=by intro p;kernel_rfl
theorem Bo:∀ p,(List.range 10).map (fun i=>dT gH (turn (eS 5) 0 (i / 2) (i % 2)) p)=(List.range 10).map (fun i=>af.next (f1 5 i) p):=by intro p;kernel_rfl
theorem Bd:(List.range 10).map (fun i=>Fr.s0 (f1 5 i))=(List.range 10).map (fun _=>Slot.au):=by kernel_rfl
theorem BB:∀ p,PR.map (iq 5 p)=PR.map (fun _=>some p):=by intro p;kernel_rfl
theorem Bn:∀ p,(List.range 10).map (fun i=>dT gH (turn (eS 6) 0 (i / 2) (i % 2)) p)=(List.range 10).map (fun i=>af.next (f1 6 i) p):=by intro p;kernel_rfl
theorem Bc:(List.range 10).map (fun i=>Fr.s0 (f1 6 i))=(List.range 10).map (fun _=>Slot.au):=by kernel_rfl
theorem BA:∀ p,PR.map (iq 6 p)=PR.map (fun _=>some p):=by intro p;kernel_rfl
theorem Bm:∀ p,(List.range 10).map (fun i=>dT gH (turn (eS 7) 0 (i / 2) (i % 2)) p)=(List.range 10).map (fun i=>af.next (f1 7 i) p):=by intro p;kernel_rfl
theorem Bb:(List.range 10).map (fun i=>Fr.s0 (f1 7 i))=(List.range 10).map (fun _=>Slot.au):=by kernel_rfl
theorem Bz:∀ p,PR.map (iq 7 p)=PR.map (fun _=>some p):=by intro p;kernel_rfl
theorem Bl:∀ p,(List.range 10).map (fun i=>dT gH (turn (eS 8) 0 (i / 2) (i % 2)) p)=(List.range 10).map (fun i=>af.next (f1 8 i) p):=by intro p;kernel_rfl
theorem Ba:(List.range 10).map (fun i=>Fr.s0 (f1 8 i))=(List.range 10).map (fun _=>Slot.au):=by kernel_rfl
theorem By:∀ p,PR.map (iq 8 p)=PR.map (fun _=>some p):=by intro p;kernel_rfl
theorem Bk:∀ p,(List.range 10).map (fun i=>dT gH (turn (eS 9) 0 (i / 2) (i % 2)) p)=(List.range 10).map (fun i=>af.next (f1 9 i) p):=by intro p;kernel_rfl
theorem A9:(List.range 10).map (fun i=>Fr.s0 (f1 9 i))=(List.range 10).map (fun _=>Slot.au):=by kernel_rfl
theorem Bx:∀ p,PR.map (iq 9 p)=PR.map (fun _=>some p):=by intro p;kernel_rfl
theorem x6 (k:Nat) (p:List V) (i:Nat):iq k p (i,10)=retT (jI gH (f1 k i) p):=rfl
theorem Ax (k:Nat) (p:List V) (i:Nat) {j:Nat} (h:Nat.beq j 10=false):iq k p (i,j)=uW gH (turn (f1 k i) 1 (j / 2) (j % 2)) p:=by
 unfold iq
 show (match Nat.beq j 10 with | true=>_ | false=>_)=_
 rw [h]
theorem i2 {t b:Nat} (hb:b < 2):(2 * t + b) / 2=t∧(2 * t + b) % 2=b:=by omega
theorem xy (k:Nat) (hk:k < 10):∀ p,(List.range 10).map (fun i=>dT gH (turn (eS k) 0 (i / 2) (i % 2)) p)=(List.range 10).map (fun i=>af.next (f1 k i) p):=by
 match k,hk with
 | 0,_=>exact Bt
 | 1,_=>exact Bs
 | 2,_=>exact Br
 | 3,_=>exact Bq
 | 4,_=>exact Bp
 | 5,_=>exact Bo
 | 6,_=>exact Bn
 | 7,_=>exact Bm
 | 8,_=>exact Bl
 | 9,_=>exact Bk
theorem xv (k:Nat) (hk:k < 10):(List.range 10).map (fun i=>Fr.s0 (f1 k i))=(List.range 10).map (fun _=>Slot.au):=by
 match k,hk with
 | 0,_=>exact Bi
 | 1,_=>exact Bh
 | 2,_=>exact Bg
 | 3,_=>exact Bf
 | 4,_=>exact Be
 | 5,_=>exact Bd
 | 6,_=>exact Bc
 | 7,_=>exact Bb
 | 8,_=>exact Ba
 | 9,_=>exact A9
theorem sI (k:Nat) (hk:k < 10):∀ p,PR.map (iq k p)=PR.map (fun _=>some p):=by
 match k,hk with
 | 0,_=>exact BG
 | 1,_=>exact BF
 | 2,_=>exact BE
 | 3,_=>exact BD
 | 4,_=>exact BC
 | 5,_=>exact BB
 | 6,_=>exact BA
 | 7,_=>exact Bz
 | 8,_=>exact By
 | 9,_=>exact Bx
theorem Au:fP oQ where
 o133:=rfl
 o138:=rfl
 o139:=rfl
 fac r0 r1 h0 h1 p:=by
  have:=range_all (wQ p) (i:=3 * r0 + r1) (by omega)
  have e1:(3 * r0 + r1) / 3=r0:=by omega
  have e2:(3 * r0 + r1) % 3=r1:=by omega
  rw [e1,e2] at this
  exact this
 l0 k hk p:=range_all (x7 p) hk
 q1 k t b hk ht hb p:=by
  have:=range_all (xy k hk p) (i:=2 * t + b) (by omega)
  unfold f1 at this
  rw [(i2 hb).1,(i2 hb).2] at this
  exact this
 s0 k t b hk ht hb:=by
  have:=range_all (xv k hk) (i:=2 * t + b) (by omega)
  unfold f1 at this
  rw [(i2 hb).1,(i2 hb).2] at this
  exact this
 l1 k t b hk ht hb p:=by
  have key:=(x6 k p (2 * t + b)).symm.trans (kE (sI k hk p) _ (su (by omega) (by omega)))
  unfold f1 at key
  rw [(i2 hb).1,(i2 hb).2] at key
  exact key
 l2 k t b t' b' hk ht hb ht' hb' p:=by
  have hn:Nat.beq (2 * t' + b') 10=false:=by
   cases q:Nat.beq (2 * t' + b') 10 with
   | false=>rfl
   | true=>have:=Nat.eq_of_beq_eq_true q;omega
  have key:=(Ax k p (2 * t + b) hn).symm.trans (kE (sI k hk p) _ (su (by omega) (by omega)))
  unfold f1 at key
  rw [(i2 hb).1,(i2 hb).2,(i2 hb').1,(i2 hb').2] at key
  exact key
 e1:=yj
 e2 r hr ρ p:=range_all (yi ρ p) hr
 e3 a b ha hb ρ p:=by
  have:=range_all (yh ρ p) (i:=5 * a + b) (by omega)
  have e1:(5 * a + b) / 5=a:=by omega
  have e2:(5 * a + b) % 5=b:=by omega
  rw [e1,e2] at this
  exact this
end Mine
namespace Mine
open PySem PySem.Calls PyProof.Rows PySem.W
theorem final:d3.Holds:=holds Au (fun _=>.none) As A8
end Mine
theorem PySem.Challenge.cw_pf0068_01_holds : PySem.Challenge.rw_pf0068_01.Holds := by
 exact Mine.final
